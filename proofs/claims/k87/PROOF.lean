import PyProof.Rows.All
import HandS.Defaults
import HandS.ForMost
import HandS.HeadHook1
import HandS.ExcIs
import HandS.ExcInit
import HandS.ExcValue
import HandS.ExcField
import HandS.IsInst
import HandS.MakeKw
import KE.KExcIs
import PySem.Str
import KE.IntText
import PyProof.ReprReads
import PyProof.StrLawsRepr
import PyProof.FitsInt
import PyProof.StrBlock
import PyProof.StrBlock2
import PyProof.StrBlockL
import PyProof.Rows.StrNews2
import HandS.Zip
import HandS.Wide
import HandS.HeadEnd
import HandS.HeadHook4
import HandS.Head2
import HandS.EndBits
import HandS.Style
import HandS.Conv
import KE.KSortedM
import HandS.RaiseMore
import HandS.StrMore
import HandS.FStr
import HandS.Text
import KE.LtSeq
import HandS.SortInts
import KE.KSortAsk
import HandS.NamedTupSort
import HandS.SetFor
import HandS.Small
import HandS.NoneIn
import HandS.Star
import HandS.Exc
import KE.GoesEnum
import HandS.DictComp
import HandS.Walk
import KE.SortData
import HandS.More
import HandS.ListItems
import HandS.DictTup
import KE.KEqDict
import PySem.Challenge.RW_accordions_k87_errors_are_distinct
set_option Elab.async false
set_option linter.all false
set_option maxRecDepth 100000
set_option maxHeartbeats 4000000
/-! VX: exceptions held as values: made, asked for their class, their fields read. -/
namespace VL
open PySem PySem.Spec PyProof.Rows L2

/-- an exception of the class at D stands at a: without fields, or with them -/
def ExAt (H : Hp) (a D : Addr) : Prop := H a = some (ExO (.ref D) a) ∨ ∃ dx fs, H a = some (exo a D (some dx)) ∧ H dx = some (exd dx fs)
section
variable {X : Cx} {pins : List (Addr × Obj)} {σ : L2.St} {H : Hp} {s : Shared} {a D : Addr}
theorem ExAt.inst {P : Program} {w : World} {h : Heap} (e : ExAt H a D) (hok : HOk P w H h) : ∃ ox od, PySem.W.InstAt h a ox D od := by
  rcases e with e | ⟨dx, fs, e, ed⟩
  · have x : ObjOk P w H h a (.ext fun h => ∃ (oe : Obj) (vs : Array Value), h.get? a = some oe ∧ Zc (.ref D) none oe ∧ oe.data = .fields vs ∧ vs[1]? = some .none ∧ vs[2]? = some .none ∧ 4 < vs.size) := hok a _ e
    obtain ⟨⟨oe, vs, h1, h2, h3, _⟩, _⟩ := x
    obtain ⟨oc, od, oda, osl⟩ := oe
    obtain ⟨q1, q2⟩ := h2
    dsimp only at q1 q2 h3
    subst q1 q2 h3
    exact ⟨_, none, h1, rfl, rfl, trivial⟩
  · obtain ⟨t1, ho⟩ := exo_at hok e
    obtain ⟨mA, ⟨o, es, ep, hd, _⟩, _⟩ := exd_at hok ed
    exact ⟨_, some o, ho, rfl, rfl, hd⟩
/-- a value's class, as isinstance reads it: by the kit's rule, or an exception's -/
def TyZ (K : PySem.W.Frag) (H : Hp) (x : V) (t : Value) : Prop := TyX K H x t ∨ ∃ (a D : Addr), x = .ref a ∧ t = .ref D ∧ ExAt H a D ∧ ExcC K D
/-- isinstance(e, c) -/
def rIsiZ (K : PySem.W.Frag) : List V → Hp → VK → Prop := fun xs H Q => ∃ (x c : V) (t u : Value) (b : Bool), xs = [x, c] ∧ ClsV c u ∧ TyZ K H x t ∧ PySem.W.kitOne K t u = some b ∧ Q (.bl b) H
/-- isinstance(e, (c, ..)) -/
def rIsiTZ (K : PySem.W.Frag) : List V → Hp → VK → Prop := fun xs H Q => ∃ (x : V) (tp : Addr) (cs : List V) (t : Value) (us : List Value) (b : Bool), xs = [x, .ref tp] ∧ H tp = some (.tup cs) ∧ Paired ClsV cs us ∧ TyZ K H x t ∧ PySem.W.kitAny K t us = some b ∧ Q (.bl b) H
theorem call_isiZ : CallR X (.builtin "isinstance") (rIsiZ X.K) := by
  intro pins s σ H xs us Q I r h
  obtain ⟨x, c, t, u, b, rfl, k, ty, e, q⟩ := h
  rcases ty with ty | ⟨a, D, rfl, rfl, ea, C⟩
  · exact call_isi pins s σ H _ us Q I r ⟨x, c, t, u, b, rfl, k, ty, e, q⟩
  · obtain ⟨u1, u2, rfl, r1, r2⟩ := vals2 r
    have e2 := k.eq r2
    subst e2
    cases (show u1 = Value.ref a from r1)
    obtain ⟨ox, od, J⟩ := ea.inst I.hok
    obtain ⟨cdD, hcD, _⟩ := PySem.W.any_some C.hd
    exact PySem.W.kia_one (PySem.W.kitx_exc (od := od) (ox := ox) (by rw [hcD]; rfl) C.hg C.hk C.hs C.ha C.hn C.ht C.hm) I.kIn J e (fun z => nomatch z) fun tk => ⟨.bl b, H, I.kept (t' := tk) fun _ _ z => z, rfl, q⟩
theorem call_isiTZ : CallR X (.builtin "isinstance") (rIsiTZ X.K) := by
  intro pins s σ H xs us Q I r h
  obtain ⟨x, tp, cs, t, ws, b, rfl, hT, k, ty, e, q⟩ := h
  rcases ty with ty | ⟨a, D, rfl, rfl, ea, C⟩
  · exact call_isiT pins s σ H _ us Q I r ⟨x, tp, cs, t, ws, b, rfl, hT, k, ty, e, q⟩
  · obtain ⟨u1, u2, rfl, r1, r2⟩ := vals2 r
    cases (show u2 = Value.ref tp from r2)
    cases (show u1 = Value.ref a from r1)
    obtain ⟨ox, od', J⟩ := ea.inst I.hok
    obtain ⟨cdD, hcD, _⟩ := PySem.W.any_some C.hd
    obtain ⟨_, its, rv, o, h1, h2, n, h3⟩ := (show ObjOk X.prog X.w H s.heap tp (.tup cs) from I.hok tp _ hT)
    have e3 := ClsV.all k rv
    subst e3
    obtain ⟨oc, od, dt, sl⟩ := o
    simp only at h2 h3
    subst h2 h3
    exact PySem.W.kia_tup (PySem.W.kitx_exc (od := od') (ox := ox) (by rw [hcD]; rfl) C.hg C.hk C.hs C.ha C.hn C.ht C.hm) I.kIn J h1 e (fun z => nomatch z) fun tk => ⟨.bl b, H, I.tok tk, rfl, q⟩
/-- e.n, e an exception with fields -/
theorem pe_xfo {C : Addr} {e : Expr} {te : TE} {pos : Pos} {n : Str} (T : XfC X.K C) (hno : PySem.W.findIn X.K (.ref C) n = some none) (he : PE X e te) (hb : attributeBase e n X.env (eval e X.env) = eval e X.env := by rfl) :
    PE X (.Attribute e n pos) (fun σ H Q => te σ H fun x H1 => ∃ (a dd : Addr) (fs : List (Str × V)) (v : V), x = .ref a ∧ H1 a = some (exo a C (some dd)) ∧ H1 dd = some (exd dd fs) ∧ fs.lookup n = some v ∧ Q v H1) := by
  refine ⟨fun pins s σ H Q I h => ?_⟩
  refine attr_of hb (thn (he.run pins s σ H _ I h) fun u s1 hh => ?_)
  obtain ⟨x, H1, I1, rx, a, dd, fs, v, ex, ea, ed, l, q⟩ := hh
  subst ex
  obtain rfl : u = Value.ref a := rx
  obtain ⟨t1, ho⟩ := exo_at I1.hok ea
  obtain ⟨mA, hns, hr⟩ := exd_at I1.hok ed
  obtain ⟨od, hod, hl⟩ := lookIn_ns hns
  obtain ⟨u, hu, ru⟩ := RelO.some_of (v := v) (o := mA n) (by rw [← l]; exact hr n)
  have J : PySem.W.InstAt s1.heap a ({ cls := .ref C, dict := some dd, data := .fields #[.ref t1, .none, .none, .none, .bool false, .none] } : Obj) C (some od) := ⟨ho, rfl, rfl, hod⟩
  exact PySem.HandSPX.exc_get I1.kIn J T.ga T.gg T.exC (PySem.W.findObj_own T.hdC hno rfl (by rw [hl, hu])) (handed_of ru) ⟨v, H1, I1.tok _, ru, q⟩
/-- what is read of the class whose __init__ is called by its name -/
structure ErrC (K : PySem.W.Frag) (C : Addr) (mc : Value) : Prop where
  rd : PySem.W.readsIn K C mc = true
  ga : PySem.W.specialIn K (.ref C) "__getattribute__" = some (some (.builtin "type.__getattribute__"))
  it : PySem.W.findCls K (.ref C) mc "__init__" = some (.val (.builtin "ValueError.__init__"))
/-- N.__init__(self, ..), N an own class over ValueError without own __init__ -/
theorem pe_aeinit {B : Addr} {mc : Value} {x : Str} {e : Expr} {es : List Expr} {ta : TA} {p1 p2 pos : Pos} (pl : Sem Bool) (hg : Gl X x) (hm : X.mg x = some (.ref B)) (T : ErrC X.K B mc) (ha : PA X (e :: es) ta)
    (hdb : (x == ("__debug__" : Str)) = false := by decide)
    (hc : eval (.Call (.Attribute (.Name x p1) "__init__" p2) (e :: es) [] pos) X.env = (do
      let ov ← eval (.Name x p1) X.env
      standAt p2.atName
      let (f, first) ← holding [ov] (getMethod ov "__init__" pl)
      callWith pos f first (backTo pos (starEach (e :: es) X.env)) (backToKw pos (keywordEach [] X.env))) := by rfl)
    (he : starEach (e :: es) X.env = (false, eval e X.env) :: starEach es X.env := by rfl) (hpl : (backTo pos (starEach es X.env)).any (·.1) = false := by rfl) :
    PE X (.Call (.Attribute (.Name x p1) "__init__" p2) (e :: es) [] pos) (tVeI X.K ta) := by
  refine ⟨fun pins s σ H Q I h => ?_⟩
  refine PySem.W.methodCall_KW (ld_glob I hg hm ?_ hdb) hc
  refine PySem.W.method_cls I.kIn T.ga (PySem.W.cls_value I.kIn T.rd T.it (by decide +kernel) ?_)
  show wpAny _ _ (callWith pos (Value.builtin "ValueError.__init__") [] (backTo pos (starEach (e :: es) X.env)) []) _ _ _
  refine PyProof.Rows.callWith_method1 (thn (ha.run pos pins _ σ H _ (I.tok _) h) fun us s1 ⟨vs, H1, I1, r1, a, C, ws, ev, hl, T, ea, q⟩ => ?_) he hpl
  subst ev
  cases r1 with
  | @cons _ u0 _ ur ra rw' =>
    obtain rfl : u0 = Value.ref a := ra
    have hlen : ur.length ≤ sizeLine := by
      rw [← Paired.length rw', sizeLine_eq]
      omega
    exact oinit_ok T I1 ea hlen fun s' J => ⟨.non, H1, J, rfl, q⟩
end
end VL

set_option Elab.async false
set_option linter.all false
set_option maxRecDepth 100000
set_option maxHeartbeats 4000000
/-! VX2: C(..), C(k = v), an own exception class with its own __init__, as a value. -/
namespace PySem
namespace HandSPX
open PySem.W PySem.Calls PyProof.Rows
section
variable {M : Model} {A : Around} {E : Value → Shared → Prop} {h : Heap} {g : Array GenState} {d : Drawn} {t : Nat} {os : OsState}
variable {nm q : Str} {C N : Addr} {bs bm bmB : List Value} {hdct : Bool} {sn : List Str} {sub : List Value} {ab : Bool} {col : Option Bool} {dd : Option Addr} {k0 k1 k2 k3 k5 : Option Value} {B newId initId : String} {kw : List (Str × Value)}
theorem check_new_ownK (F : ExcBaseFacts B newId initId bmB) (hT : ∀ X : String, bm.contains (.type X) = bmB.contains (.type X)) {rest : List Value} {Q : Unit → Shared → Prop}
    (hC : h.get? C = some (excClassObj nm q C N bs bm hdct sn sub ab col dd k0 k1 k2 k3 k5 newId)) (hq : Q () ⟨h, g, d, t, os⟩) : wpAny M A (checkBuiltinCall newId ⟨.ref C :: rest, kw⟩) Q E ⟨h, g, d, t, os⟩ := by
  have hcont : (Value.ref C :: bm).contains (.type B) = true := by rw [List.contains_cons, hT, F.hasB, Bool.or_true]
  have hstar := F.noStar
  simp only [checkBuiltinCall, F.newKind, F.newSplit, F.newRow]
  repeat (first | refine wpAny_loadPart_at hC ?_ | (refine wpAny_isSubtype_exc hC ?_; rw [hcont]) | refine wpAny_staticBase_exc hC ?_ | refine wpAny_madeBy_exc hC ?_ | simp only [bne_self_eq_false, Bool.false_eq_true, if_false] | wp_step)
  exact hq
end
section
variable {prog : Program} {w : World} {A : Around} {E : Value → Shared → Prop} {R : Result → Shared → Prop} {h : Heap} {g : Array GenState} {d : Drawn} {t : Nat} {os : OsState}
variable {nm q : Str} {C N : Addr} {bs bm bmB : List Value} {hdct : Bool} {sn : List Str} {sub : List Value} {ab : Bool} {col : Option Bool} {dd : Option Addr} {k0 k1 k2 k3 k5 : Option Value} {B newId initId : String} {kw : List (Str × Value)}

theorem new_ownK (F : ExcBaseFacts B newId initId bmB) (hT : ∀ X : String, bm.contains (.type X) = bmB.contains (.type X)) {rest : List Value}
    (hC : h.get? C = some (excClassObj nm q C N bs bm hdct sn sub ab col dd k0 k1 k2 k3 k5 newId))
    (hq : R (.ok (.ret (.ref (h.objs.size + 1)))) ⟨(h.push { cls := .type "tuple", data := .seq rest.toArray }).push
      { cls := .ref C, data := .fields #[.ref h.objs.size, .none, .none, .none, .bool false, .none] }, g, d, t, os⟩) (hrest : rest.length ≤ sizeLine) :
    codeAny (model prog w) A (.builtin newId ⟨.ref C :: rest, kw⟩) R ⟨h, g, d, t, os⟩ := by
  have hends := F.ends
  have hcB : (Value.ref C :: bm).contains (.type B) = true := by rw [List.contains_cons, hT, F.hasB, Bool.or_true]
  have hcA : (Value.ref C :: bm).contains (.type "AttributeError") = false := by rw [List.contains_cons, hT, F.noAttr]; rfl
  have hcN : (Value.ref C :: bm).contains (.type "NameError") = false := by rw [List.contains_cons, hT, F.noName]; rfl
  refine codeAny_builtinAt F.entry ?_
  unfold Builtin.«BaseException.__new__»
  refine wpAt_bind ?_
  show wpAt _ _ _ (stack >>= _) _ _ _
  refine wpAt_bind (wpAt_stack fun p below => wpAt_of_wpAny ?_)
  wp_walk
  refine wpAt_of_wpAny ?_
  rw [F.owner]
  repeat (first | with_reducible refine wpAny_madeHere_exc F.canon hC ?_ | with_reducible refine wpAny_loadPart_at hC ?_ | (with_reducible refine wpAny_isSubtype_exc hC ?_; first | rw [hcB] | rw [hcA] | rw [hcN]) | wp_step)
  show R _ _
  rw [Heap.size_push]
  exact hq

theorem type_call_ownK (F : ExcBaseFacts B newId initId bmB) (hT : ∀ X : String, bm.contains (.type X) = bmB.contains (.type X)) {rest : List Value} {fI : Addr} {Q : Fin → Shared → Prop}
    (hC : h.get? C = some (excClassObj nm q C N bs bm hdct sn sub ab col dd k0 k1 k2 k3 k5 newId))
    (hi : W.Looks (model prog w) h (typeLookup (.ref C) "__init__") (some (.ref fI))) (hb : ∀ self, W.Looks (model prog w) h (bindSpecial (.ref fI) self) (.ref fI, [self])) (hrest : rest.length ≤ sizeLine)
    (hq : codeAny (model prog w) A (.call (.ref fI) ⟨.ref (h.objs.size + 1) :: rest, kw⟩)
      (fun r s' => match r with | .ok (.ret v) => v = .none ∧ Q (.done (.ret (.ref (h.objs.size + 1)))) s' | .ok _ => False | .error e => E e s')
      ⟨(h.push (W.kdv_tup rest)).push (excO C h.objs.size), g, d, t, os⟩) :
    wpAny (model prog w) A (Builtin.«type.__call__» ⟨.ref C :: rest, kw⟩) Q E ⟨h, g, d, t, os⟩ := by
  repeat (first | with_reducible refine wpAny_loadPart_at hC ?_ | with_reducible refine wpAny_madeBy_exc hC ?_ | wp_step)
  refine codeAny_call_builtin_code (Code.quiet_builtin _ F.quiet) (check_new_ownK F hT hC ?_)
  refine new_ownK F hT hC ?_ hrest
  show wpAny _ _ _ _ _ _
  have k : ∀ b o, h.get? b = some o → ((h.push (W.kdv_tup rest)).push (excO C h.objs.size)).get? b = some o := fun b o e => Heap.get?_push_of_some _ (Heap.get?_push_of_some _ e)
  have hC₁ := k _ _ hC
  have hget : ((h.push (W.kdv_tup rest)).push (excO C h.objs.size)).get? (h.objs.size + 1) = some (excO C h.objs.size) := by heap_get
  have hcC : (Value.ref C :: bm).contains (.ref C) = true := by simp
  have i1 := hi.keeps k
  have b1 := (hb (.ref (h.objs.size + 1))).keeps k
  unfold isInstance
  repeat (first | with_reducible refine wpAny_loadPart_at hget ?_ | (with_reducible refine wpAny_isSubtype_exc hC₁ ?_; rw [hcC]) | wp_step)
  show wpAny _ _ (typeLookup (.ref C) _) _ _ _
  refine i1.at ?_
  refine wpAny_holding (wpAny_bind (b1.at ?_))
  refine wpAny_bind (wpAny_call (codeAny_mono hq fun r s' z => ?_))
  rcases r with e | (v | _ | _ | _) <;> first | exact z | exact z.elim | skip
  obtain ⟨rfl, z⟩ := z
  first
    | exact wpAny_pure (wpAny_pure z)
    | (wp_walk; exact z)
theorem check_type_call_K {rest : List Value} {Q : Unit → Shared → Prop} (hC : h.get? C = some (excClassObj nm q C N bs bm hdct sn sub ab col dd k0 k1 k2 k3 k5 newId))
    (hq : Q () ⟨h, g, d, t, os⟩) : wpAny (model prog w) A (checkBuiltinCall "type.__call__" ⟨.ref C :: rest, kw⟩) Q E ⟨h, g, d, t, os⟩ := by
  have f3 := tc_sub
  have hT : (⟨h, g, d, t, os⟩ : Shared).TypeIs (.ref C) "type" := ⟨_, hC, rfl⟩
  simp only [checkBuiltinCall, tc_kind, tc_split]
  repeat (any_goals (first | assumption | with_reducible refine wpAny_loadPart_at hC ?_ | with_reducible refine wpAny_onRaise ?_ | with_reducible refine wpAny_map ?_ | wp_step))

theorem call_ownK (F : ExcBaseFacts B newId initId bmB) (hT : ∀ X : String, bm.contains (.type X) = bmB.contains (.type X)) {rest : List Value} {fI : Addr}
    (hC : h.get? C = some (excClassObj nm q C N bs bm hdct sn sub ab col dd k0 k1 k2 k3 k5 newId))
    (hi : W.Looks (model prog w) h (typeLookup (.ref C) "__init__") (some (.ref fI))) (hb : ∀ self, W.Looks (model prog w) h (bindSpecial (.ref fI) self) (.ref fI, [self])) (hrest : rest.length ≤ sizeLine)
    (hq : codeAny (model prog w) (A.under (.builtin "type.__call__" ⟨.ref C :: rest, kw⟩)) (.call (.ref fI) ⟨.ref (h.objs.size + 1) :: rest, kw⟩) (W.InitBack (h.objs.size + 1) R)
      ⟨(h.push (W.kdv_tup rest)).push (excO C h.objs.size), g, d, t, os⟩) :
    codeAny (model prog w) A (.call (.ref C) ⟨rest, kw⟩) R ⟨h, g, d, t, os⟩ := by
  have f1 := tc_lookup
  have f2 := tc_bind (.ref C)
  have hTy : (⟨h, g, d, t, os⟩ : Shared).TypeIs (.ref C) "type" := ⟨_, hC, rfl⟩
  refine codeAny_of_tree ?_
  show wpAny _ _ (callAny (.ref C) _) _ _ _
  repeat (any_goals (first | assumption | with_reducible refine wpAny_loadPart_at hC ?_ | wp_step))
  refine ⟨rfl, ?_⟩
  refine codeAny_call_builtin_at (Code.quiet_builtin _ (by decide +kernel)) entry_typeCall (check_type_call_K hC (type_call_ownK F hT hC hi hb hrest ?_))
  refine codeAny_mono hq fun r s' z => ?_
  rcases r with e | (v | _ | _ | _) <;> exact z
end
end HandSPX
end PySem

set_option Elab.async false
set_option linter.all false
/-! VD: data without addresses, results, environments. Plain Lean, no program in sight. -/
namespace VL
open PySem

inductive D where
  | non | bl (b : Bool) | int (i : Int) | str (x : Str) | lst (xs : List D) | tup (xs : List D) | dct (kvs : List ((Sum Int Str) × D)) | obj (c : Str) (kvs : List ((Sum Int Str) × D))

/-- the own classes: their fields, those of them that are own where the object is -/
def clsTab : List (Str × List Str × List Str) := [("Work", ["needs", "lengths", "sums"], ["needs", "lengths", "sums"]), ("Layers", ["sections", "before", "most", "groups", "choices", "rows"], ["choices", "rows"]),
  ("Ends", ["kinds", "groups", "begin", "finish", "work"], []), ("Tour", ["kinds", "groups", "settings", "wanted", "clicks_within"], ["wanted", "clicks_within"]),
  ("Menu", ["sections", "now", "past"], ["past"]), ("ForgetfulMenu", ["sections", "now", "past"], ["past"]), ("CountingMenu", ["sections", "now", "past"], ["past"]), ("ForgetfulCountingMenu", ["sections", "now", "past"], ["past"])]
def objF (c : Str) : List Str := match clsTab.lookup c with
  | some p => p.1
  | none => []
def ownF (c : Str) : Sum Int Str → Bool
  | .inl _ => false
  | .inr f => match clsTab.lookup c with
    | some p => p.2.contains f
    | none => false
/-- an error: its class's name, the number that it carries -/
structure Ex where
  cls : Str
  num : Option Int
abbrev En := List (Option D)
inductive Rs (α : Type) where
  | ok (a : α) | err (x : Ex) (ρ : En) | bad
namespace Rs
def bind {α β : Type} : Rs α → (α → Rs β) → Rs β
  | .ok a, f => f a
  | .err x ρ, _ => .err x ρ
  | .bad, _ => .bad
instance : Monad Rs where
  pure := .ok
  bind := bind
@[simp] theorem ok_bind {α β : Type} (a : α) (f : α → Rs β) : (Rs.ok a >>= f) = f a := rfl
@[simp] theorem err_bind {α β : Type} (x : Ex) (ρ : En) (f : α → Rs β) : ((Rs.err x ρ : Rs α) >>= f) = .err x ρ := rfl
@[simp] theorem bad_bind {α β : Type} (f : α → Rs β) : ((Rs.bad : Rs α) >>= f) = .bad := rfl
@[simp] theorem pure_eq {α : Type} (a : α) : (pure a : Rs α) = .ok a := rfl
theorem bind_ok {α β : Type} {m : Rs α} {f : α → Rs β} {b : β} : (m >>= f) = .ok b → ∃ a, m = .ok a ∧ f a = .ok b := by
  intro h
  cases m with
  | ok a => exact ⟨a, rfl, h⟩
  | err x ρ => cases h
  | bad => cases h
end Rs

/-- an expression's value, and the environment behind it (a callee may change what it was handed) -/
abbrev EF := En → Rs (D × En)
/-- one that changes nothing -/
abbrev PF := En → Rs D
abbrev TF := En → Rs (Bool × En)
inductive Fl where
  | next | brk | cont | ret (d : D)
abbrev SF := En → Rs (Fl × En)
/-- a def: the arguments in; the value, and what the mutable arguments have become -/
abbrev FF := List D → Rs (D × List D)

/-- how a value is held: read alone; an own list (or dict) whose items are held so -/
inductive Md where
  | im | ow (k : Md)
deriving DecidableEq

mutual
/-- no list and no dict within -/
def flat : D → Bool
  | .non | .bl _ | .int _ | .str _ => true
  | .tup ds => flatA ds
  | .lst _ | .dct _ | .obj _ _ => false
def flatA : List D → Bool
  | [] => true
  | d :: ds => flat d && flatA ds
end
end VL
namespace VL
theorem notIn_of {i : Nat} {R : List Nat} (h : R.contains i = false) : i ∉ R := by simpa using h
theorem ownR_of {R is : List Nat} (h : R.all (fun i => !is.contains i) = true) : ∀ i ∈ R, i ∉ is := fun i hi => by
  have := List.all_eq_true.mp h i hi
  simpa using this
def isImB : Option Md → Bool
  | some .im => true
  | _ => false
theorem ownIm_of {Γ : List Md} {is : List Nat} (h : is.all (fun i => isImB Γ[i]?) = true) : ∀ i ∈ is, Γ[i]? = some .im := fun i hi => by
  have := List.all_eq_true.mp h i hi
  unfold isImB at this
  split at this
  · assumption
  · cases this
end VL
namespace VL
open PySem
def Rs.of {α : Type} : Option α → Rs α
  | some a => .ok a
  | none => .bad
@[simp] theorem Rs.of_some {α : Type} (a : α) : Rs.of (some a) = .ok a := rfl
@[simp] theorem Rs.of_none {α : Type} : Rs.of (none : Option α) = .bad := rfl
/-! ### expressions -/
def eName (i : Nat) : EF := fun ρ => match ρ[i]? with
  | some (some d) => .ok (d, ρ)
  | _ => .bad
def pName (i : Nat) : PF := fun ρ => match ρ[i]? with
  | some (some d) => .ok d
  | _ => .bad
def eC (d : D) : EF := fun ρ => .ok (d, ρ)
def pC (d : D) : PF := fun _ => .ok d
/-- a pure expression whose value is flat -/
def eFlat (f : PF) : EF := fun ρ => f ρ >>= fun d => if flat d = true then .ok (d, ρ) else .bad
/-- a pure expression whose value is a new list of flat items -/
def eFlatL (f : PF) : EF := fun ρ => f ρ >>= fun d => match d with
  | .lst ds => if flatA ds = true then .ok (.lst ds, ρ) else .bad
  | _ => .bad
def pOf (f : EF) : PF := fun ρ => f ρ >>= fun p => .ok p.1
def eOp1 (g : D → Option D) (fa : EF) : EF := fun ρ => fa ρ >>= fun p => Rs.of (g p.1) >>= fun z => .ok (z, p.2)
def pOp1 (g : D → Option D) (fa : PF) : PF := fun ρ => fa ρ >>= fun x => Rs.of (g x)
def eOp2 (g : D → D → Option D) (fa fb : EF) : EF := fun ρ => fa ρ >>= fun p => fb p.2 >>= fun q => Rs.of (g p.1 q.1) >>= fun z => .ok (z, q.2)
def pOp2 (g : D → D → Option D) (fa fb : PF) : PF := fun ρ => fa ρ >>= fun x => fb ρ >>= fun y => Rs.of (g x y)
def eArgs : List EF → En → Rs (List D × En)
  | [], ρ => .ok ([], ρ)
  | f :: fs, ρ => f ρ >>= fun p => eArgs fs p.2 >>= fun q => .ok (p.1 :: q.1, q.2)
def pArgs : List PF → En → Rs (List D)
  | [], _ => .ok []
  | f :: fs, ρ => f ρ >>= fun p => pArgs fs ρ >>= fun q => .ok (p :: q)
def eOpN (g : List D → Option D) (fs : List EF) : EF := fun ρ => eArgs fs ρ >>= fun q => Rs.of (g q.1) >>= fun z => .ok (z, q.2)
def pOpN (g : List D → Option D) (fs : List PF) : PF := fun ρ => pArgs fs ρ >>= fun q => Rs.of (g q)
def eTup (fs : List EF) : EF := fun ρ => eArgs fs ρ >>= fun q => .ok (.tup q.1, q.2)
def pTup (fs : List PF) : PF := fun ρ => pArgs fs ρ >>= fun q => .ok (.tup q)
def eLst (fs : List EF) : EF := fun ρ => eArgs fs ρ >>= fun q => .ok (.lst q.1, q.2)
def pLst (fs : List PF) : PF := fun ρ => pArgs fs ρ >>= fun q => .ok (.lst q)
def eIf (t : TF) (fa fb : EF) : EF := fun ρ => t ρ >>= fun p => if p.1 = true then fa p.2 else fb p.2
def eAnd (fa fb : EF) : EF := fun ρ => fa ρ >>= fun p => match p.1 with
  | .bl true => fb p.2
  | .bl false => .ok (.bl false, p.2)
  | _ => .bad
def eOr (fa fb : EF) : EF := fun ρ => fa ρ >>= fun p => match p.1 with
  | .bl false => fb p.2
  | .bl true => .ok (.bl true, p.2)
  | _ => .bad
def eNot (fa : EF) : EF := fun ρ => fa ρ >>= fun p => match p.1 with
  | .bl b => .ok (.bl (!b), p.2)
  | _ => .bad
/-! ### tests -/
def tVal (f : EF) : TF := fun ρ => f ρ >>= fun p => match p.1 with
  | .bl b => .ok (b, p.2)
  | _ => .bad
def tAndF (t u : TF) : TF := fun ρ => t ρ >>= fun p => if p.1 = true then u p.2 else .ok (false, p.2)
def tOrF (t u : TF) : TF := fun ρ => t ρ >>= fun p => if p.1 = true then .ok (true, p.2) else u p.2
def tNotF (t : TF) : TF := fun ρ => t ρ >>= fun p => .ok (!p.1, p.2)
end VL
namespace VL
open PySem
/-- the largest length of a list, a text -/
abbrev LINE : Nat := 16777216
/-! ### statements -/
def sNext : SF := fun ρ => .ok (.next, ρ)
def sSeq (f g : SF) : SF := fun ρ => f ρ >>= fun p => match p.1 with
  | .next => g p.2
  | fl => .ok (fl, p.2)
def sSet (i : Nat) (f : EF) : SF := fun ρ => f ρ >>= fun p => .ok (.next, p.2.set i (some p.1))
def sDrop (f : EF) : SF := fun ρ => f ρ >>= fun p => .ok (.next, p.2)
def sRet (f : EF) : SF := fun ρ => f ρ >>= fun p => .ok (.ret p.1, p.2)
def sRetN : SF := fun ρ => .ok (.ret .non, ρ)
def sIf (t : TF) (f g : SF) : SF := fun ρ => t ρ >>= fun p => if p.1 = true then f p.2 else g p.2
def sBrk : SF := fun ρ => .ok (.brk, ρ)
def sCont : SF := fun ρ => .ok (.cont, ρ)
def sAug (i : Nat) (g : D → D → Option D) (f : EF) : SF := fun ρ => match ρ[i]? with
  | some (some x) => f ρ >>= fun p => Rs.of (g x p.1) >>= fun z => .ok (.next, p.2.set i (some z))
  | _ => .bad
def sAppend (i : Nat) (f : EF) : SF := fun ρ => match ρ[i]? with
  | some (some (.lst _)) => f ρ >>= fun p => (match p.2[i]? with
    | some (some (.lst ds)) => if ds.length < LINE then .ok (.next, p.2.set i (some (.lst (ds ++ [p.1])))) else .bad
    | _ => .bad)
  | _ => .bad
/-- a place in a list of length n, counted from the end where it is below 0 -/
def ixD (n : Nat) (i : Int) : Option Nat := if 0 ≤ i then (if i < n then some i.toNat else none) else if -(n : Int) ≤ i then some (i + n).toNat else none
def sSetIx (i : Nat) (fk f : EF) : SF := fun ρ => f ρ >>= fun p => match p.2[i]? with
  | some (some (.lst _)) => fk p.2 >>= fun q => (match q.2[i]?, q.1 with
    | some (some (.lst ds)), .int k => (match ixD ds.length k with
      | some j => .ok (.next, q.2.set i (some (.lst (ds.set j p.1))))
      | none => .bad)
    | _, _ => .bad)
  | _ => .bad
abbrev GF := D → En → Rs En
def gSet (i : Nat) : GF := fun d ρ => .ok (ρ.set i (some d))
def gAll : List GF → List D → En → Rs En
  | [], [], ρ => .ok ρ
  | g :: gs, d :: ds, ρ => g d ρ >>= fun ρ' => gAll gs ds ρ'
  | _, _, _ => .bad
def gTupF (gs : List GF) : GF := fun d ρ => match d with
  | .tup ds => if ds.length = gs.length then gAll gs ds ρ else .bad
  | _ => .bad
def sAsg (g : GF) (f : EF) : SF := fun ρ => f ρ >>= fun p => g p.1 p.2 >>= fun ρ' => .ok (.next, ρ')
def sPar (i j : Nat) (f g : EF) : SF := fun ρ => f ρ >>= fun p => g p.2 >>= fun q => .ok (.next, (q.2.set i (some p.1)).set j (some q.1))
def loop (g : GF) (b : SF) : List D → En → Rs (Fl × En)
  | [], ρ => .ok (.next, ρ)
  | d :: ds, ρ => g d ρ >>= fun ρ1 => b ρ1 >>= fun q => match q.1 with
    | .next => loop g b ds q.2
    | .cont => loop g b ds q.2
    | .brk => .ok (.next, q.2)
    | .ret v => .ok (.ret v, q.2)
abbrev IF := En → Rs (List D × En)
def sFor (src : IF) (g : GF) (b : SF) : SF := fun ρ => src ρ >>= fun p => loop g b p.1 p.2
def whileN (t : TF) (b : SF) : Nat → SF
  | 0, _ => .bad
  | n + 1, ρ => t ρ >>= fun p => if p.1 = true then (b p.2 >>= fun q => match q.1 with
    | .next => whileN t b n q.2
    | .cont => whileN t b n q.2
    | .brk => .ok (.next, q.2)
    | .ret v => .ok (.ret v, q.2)) else .ok (.next, p.2)
def fuel : Nat := 100000
def sWhile (t : TF) (b : SF) : SF := whileN t b fuel
end VL
namespace VL
open PySem
/-! ### defs -/
/-- a parameter: read alone; changed -/
inductive Pm where
  | im | rf
def refsOf : List Pm → En → Option (List D)
  | [], _ => some []
  | .im :: ms, ρ => refsOf ms ρ.tail
  | .rf :: ms, ρ => match ρ.head? with
    | some (some d) => (refsOf ms ρ.tail).map (d :: ·)
    | _ => none
def runF (n : Nat) (ms : List Pm) (body : SF) : FF := fun ds => body (ds.map some ++ List.replicate (n - ds.length) none) >>= fun p => match p.1 with
  | .ret d => Rs.of (refsOf ms p.2) >>= fun rs => .ok (d, rs)
  | .next => Rs.of (refsOf ms p.2) >>= fun rs => .ok (.non, rs)
  | _ => .bad
/-- an argument: an expression; a mutable one (a slot); an own one that is only read (a slot) -/
inductive Ag where
  | e (f : EF) | r (i : Nat) | n (i : Nat)
inductive Aq where
  | e (d : D) | r (i : Nat) | n (i : Nat)
def agEval : List Ag → En → Rs (List Aq × En)
  | [], ρ => .ok ([], ρ)
  | .e f :: as, ρ => f ρ >>= fun p => agEval as p.2 >>= fun q => .ok (.e p.1 :: q.1, q.2)
  | .r i :: as, ρ => match ρ[i]? with
    | some (some _) => agEval as ρ >>= fun q => .ok (.r i :: q.1, q.2)
    | _ => .bad
  | .n i :: as, ρ => match ρ[i]? with
    | some (some _) => agEval as ρ >>= fun q => .ok (.n i :: q.1, q.2)
    | _ => .bad
def agFill : List Aq → En → Option (List D)
  | [], _ => some []
  | .e d :: as, ρ => (agFill as ρ).map (d :: ·)
  | .r i :: as, ρ => match ρ[i]? with
    | some (some d) => (agFill as ρ).map (d :: ·)
    | _ => none
  | .n i :: as, ρ => match ρ[i]? with
    | some (some d) => (agFill as ρ).map (d :: ·)
    | _ => none
def agBack : List Nat → List D → En → En
  | i :: is, d :: ds, ρ => agBack is ds (ρ.set i (some d))
  | _, _, ρ => ρ
def refsA : List Ag → List Nat
  | [] => []
  | .r i :: as => i :: refsA as
  | _ :: as => refsA as
def eCall (f : FF) (ags : List Ag) : EF := fun ρ => agEval ags ρ >>= fun q => Rs.of (agFill q.1 q.2) >>= fun ds => match f ds with
  | .ok r => .ok (r.1, agBack (refsA ags) r.2 q.2)
  | _ => .bad
/-- flat below its own lists -/
def flatM : Md → D → Bool
  | .im, d => flat d
  | .ow k, .lst ds => ds.all (flatM k)
  | .ow _, _ => false
def eCallN (rm : Md) (f : FF) (ags : List Ag) : EF := fun ρ => agEval ags ρ >>= fun q => Rs.of (agFill q.1 q.2) >>= fun ds => match f ds with
  | .ok r => if (flatM rm r.1 && r.2.all (flatM (.ow .im))) = true then .ok (r.1, agBack (refsA ags) r.2 q.2) else .bad
  | _ => .bad
end VL
namespace VL
open PySem
/-! ### what is walked; comprehensions -/
def iSeq (f : EF) : IF := fun ρ => f ρ >>= fun p => match p.1 with
  | .lst ds => .ok (ds, p.2)
  | .tup ds => .ok (ds, p.2)
  | _ => .bad
def smallI (i : Int) : Bool := decide (-(2 ^ 62) ≤ i) && decide (i < 2 ^ 62)
def rangeD (lo : Int) (n : Nat) : List D := (List.range n).map fun k => .int (lo + (k : Nat))
def iRange1 (fs : List EF) : IF := fun ρ => eArgs fs ρ >>= fun p => match p.1 with
  | [.int j] => if smallI j = true then .ok (rangeD 0 j.toNat, p.2) else .bad
  | _ => .bad
def iRange2 (fs : List EF) : IF := fun ρ => eArgs fs ρ >>= fun p => match p.1 with
  | [.int i, .int j] => if (smallI i && smallI j) = true then .ok (rangeD i (j - i).toNat, p.2) else .bad
  | _ => .bad
/-- range(i, j, -1) -/
def iRangeM (fs : List EF) : IF := fun ρ => eArgs fs ρ >>= fun p => match p.1 with
  | [.int i, .int j, .int k] => if (smallI i && smallI j && decide (k = -1)) = true then .ok ((List.range (i - j).toNat).map fun k => .int (i - (k : Nat)), p.2) else .bad
  | _ => .bad
def enumD : Nat → List D → List D
  | _, [] => []
  | k, d :: ds => .tup [.int (k : Nat), d] :: enumD (k + 1) ds
def iEnumF (fs : List EF) : IF := fun ρ => eArgs fs ρ >>= fun p => match p.1 with
  | [.lst ds] => .ok (enumD 0 ds, p.2)
  | _ => .bad
def zipD : List D → List D → List D
  | d :: ds, e :: es => .tup [d, e] :: zipD ds es
  | _, _ => []
def iZipF (fs : List EF) : IF := fun ρ => eArgs fs ρ >>= fun p => match p.1 with
  | [.lst ds, .lst es] => .ok (zipD ds es, p.2)
  | [.tup ds, .tup es] => .ok (zipD ds es, p.2)
  | _ => .bad
def iStrF (f : EF) : IF := fun ρ => f ρ >>= fun p => match p.1 with
  | .str x => .ok (x.cps.toList.map fun c => .str ⟨#[c]⟩, p.2)
  | _ => .bad
def wipeE (ρ : En) : List Nat → En
  | [] => ρ
  | i :: is => (wipeE ρ is).set i none
/-- the own slots as they were -/
def backE (ρ0 ρ : En) : List Nat → En
  | [] => ρ
  | i :: is => (backE ρ0 ρ is).set i ((ρ0[i]?).getD none)
def compN (own : List Nat) (g : GF) (t : TF) (e : EF) : List D → En → List D → Rs (List D × En)
  | [], ρ, acc => .ok (acc, ρ)
  | d :: ds, ρ, acc => g d (wipeE ρ own) >>= fun ρ1 => t ρ1 >>= fun p => if p.1 = true then e p.2 >>= fun q => compN own g t e ds q.2 (acc ++ [q.1]) else compN own g t e ds p.2 acc
def tYesF : TF := fun ρ => .ok (true, ρ)
def eComp (own : List Nat) (src : IF) (g : GF) (t : TF) (e : EF) : EF := fun ρ => src ρ >>= fun p => if p.1.length ≤ LINE then compN own g t e p.1 p.2 [] >>= fun q => .ok (.lst q.1, backE p.2 q.2 own) else .bad
end VL

namespace VL
open PySem
/-! ### operations on data -/
def addD : D → D → Option D
  | .int i, .int j => some (.int (i + j))
  | .str a, .str b => if a.length + b.length ≤ LINE then some (.str (a ++ b)) else none
  | .lst xs, .lst ys => if xs.length + ys.length ≤ LINE then some (.lst (xs ++ ys)) else none
  | _, _ => none
/-- list + list -/
def catD : D → D → Option D
  | .lst xs, .lst ys => if xs.length + ys.length ≤ LINE then some (.lst (xs ++ ys)) else none
  | _, _ => none
def subD : D → D → Option D
  | .int i, .int j => some (.int (i - j))
  | _, _ => none
/-- one side below 2^64, or both together below a million bits -/
def mulOk (i j : Int) : Bool := decide (i.natAbs < 2 ^ 64) || decide (j.natAbs < 2 ^ 64) || decide (i.natAbs.log2 + j.natAbs.log2 < 1000000)
def mulD : D → D → Option D
  | .int i, .int j => if mulOk i j = true then some (.int (i * j)) else none
  | .lst xs, .int k => if (smallI k && decide (xs.length * k.toNat ≤ LINE)) = true then some (.lst (List.replicate k.toNat xs).flatten) else none
  | .str x, .int k => if (smallI k && decide (x.length * k.toNat ≤ LINE)) = true then some (.str (Txt.mul x k)) else none
  | _, _ => none
/-- list * int -/
def repD : D → D → Option D
  | .lst xs, .int k => if (smallI k && decide (xs.length * k.toNat ≤ LINE)) = true then some (.lst (List.replicate k.toNat xs).flatten) else none
  | _, _ => none
def fdivD : D → D → Option D
  | .int i, .int j => if 0 < j ∧ (j < 1073741824 ∨ j.natAbs.log2 < 9000) then some (.int (i / j)) else none
  | _, _ => none
def modD : D → D → Option D
  | .int i, .int j => if 0 < j then some (.int (i % j)) else none
  | _, _ => none
def powD : D → D → Option D
  | .int i, .int j => if 0 ≤ j ∧ j ≤ 100000 ∧ i.natAbs < 2 ^ 1000 then some (.int (i ^ j.toNat)) else none
  | _, _ => none
def negD : D → Option D
  | .int i => some (.int (-i))
  | _ => none
def ltD : D → D → Option D
  | .int i, .int j => some (.bl (decide (i < j)))
  | _, _ => none
def leD : D → D → Option D
  | .int i, .int j => some (.bl (decide (i ≤ j)))
  | _, _ => none
def gtD : D → D → Option D
  | .int i, .int j => some (.bl (decide (j < i)))
  | _, _ => none
def geD : D → D → Option D
  | .int i, .int j => some (.bl (decide (j ≤ i)))
  | _, _ => none
/-- a scalar -/
def isS : D → Bool
  | .non | .bl _ | .int _ | .str _ => true
  | _ => false
def eqS : D → D → Bool
  | .non, .non => true
  | .bl a, .bl b => a == b
  | .bl a, .int j => (if a then 1 else 0) == j
  | .int i, .bl b => i == (if b then 1 else 0)
  | .int i, .int j => i == j
  | .str x, .str y => x == y
  | _, _ => false
mutual
/-- == of data -/
def eqvD : D → D → Bool
  | .lst xs, .lst ys => eqvA xs ys
  | .tup xs, .tup ys => eqvA xs ys
  | .non, y => eqS .non y
  | .bl a, y => eqS (.bl a) y
  | .int a, y => eqS (.int a) y
  | .str a, y => eqS (.str a) y
  | _, _ => false
def eqvA : List D → List D → Bool
  | [], [] => true
  | x :: xs, y :: ys => eqvD x y && eqvA xs ys
  | _, _ => false
end
def strOkD (x : Str) : Bool := x.cps.all (· < 0x110000)
mutual
/-- no dict within, texts of real signs, at most n deep -/
def okD : Nat → D → Bool
  | _, .non | _, .bl _ | _, .int _ => true
  | _, .str x => strOkD x
  | n + 1, .lst xs => okA n xs
  | n + 1, .tup xs => okA n xs
  | _, _ => false
def okA : Nat → List D → Bool
  | _, [] => true
  | n, x :: xs => okD n x && okA n xs
end
def eqD (x y : D) : Option D := if (isS x && isS y) = true then some (.bl (eqS x y)) else if (okD 64 x && okD 64 y) = true then some (.bl (eqvD x y)) else none
def neD (x y : D) : Option D := if (isS x && isS y) = true then some (.bl (!eqS x y)) else if (okD 64 x && okD 64 y) = true then some (.bl (!eqvD x y)) else none
def isND (x y : D) : Option D := match x, y with
  | .non, .non => some (.bl true)
  | _, .non => some (.bl false)
  | _, _ => none
def notND (x y : D) : Option D := match x, y with
  | .non, .non => some (.bl false)
  | _, .non => some (.bl true)
  | _, _ => none
def inL (x : D) (ds : List D) : Bool := ds.any fun y => eqS y x
def inD (x : D) : D → Option D
  | .lst ds => if (isS x && ds.all isS) = true then some (.bl (inL x ds)) else none
  | .tup ds => if (isS x && ds.all isS) = true then some (.bl (inL x ds)) else none
  | _ => none
def notInD (x : D) : D → Option D
  | .lst ds => if (isS x && ds.all isS) = true then some (.bl (!inL x ds)) else none
  | .tup ds => if (isS x && ds.all isS) = true then some (.bl (!inL x ds)) else none
  | _ => none
def ixGet : D → D → Option D
  | .lst ds, .int i => (ixD ds.length i).bind fun j => ds[j]?
  | .tup ds, .int i => (ixD ds.length i).bind fun j => ds[j]?
  | .str z, .int i => if z.length ≤ LINE then ((ixD z.length i).bind fun j => z.cps[j]?).map fun c => .str ⟨#[c]⟩ else none
  | _, _ => none
def lenD : List D → Option D
  | [.lst ds] => some (.int ds.length)
  | [.tup ds] => some (.int ds.length)
  | [.str z] => if z.length ≤ LINE then some (.int z.length) else none
  | _ => none
def absD : List D → Option D
  | [.int i] => some (.int (if i < 0 then -i else i))
  | _ => none
def max2D : List D → Option D
  | [.int i, .int j] => some (.int (if j > i then j else i))
  | _ => none
def min2D : List D → Option D
  | [.int i, .int j] => some (.int (if j < i then j else i))
  | _ => none
def intD : List D → Option D
  | [.int i] => some (.int i)
  | [.bl k] => some (.int (if k then 1 else 0))
  | _ => none
/-- the built-in type of data -/
def tyD : D → String
  | .non => "NoneType"
  | .bl _ => "bool"
  | .int _ => "int"
  | .str _ => "str"
  | .lst _ => "list"
  | .tup _ => "tuple"
  | .dct _ => "dict"
  | .obj _ _ => "object"
/-- isinstance(x, T), T one of int, bool, str, list, tuple -/
def isiD (T : String) (x : D) : Bool := tyD x == T || (T == "int" && tyD x == "bool")
def eIsi (T : String) (f : EF) : EF := fun ρ => f ρ >>= fun p => .ok (.bl (isiD T p.1), p.2)
def pIsi (T : String) (f : PF) : PF := fun ρ => f ρ >>= fun p => .ok (.bl (isiD T p))
def listD : List D → Option D
  | [.lst ds] => some (.lst ds)
  | [.tup ds] => some (.lst ds)
  | _ => none
def tupD : List D → Option D
  | [.lst ds] => some (.tup ds)
  | [.tup ds] => some (.tup ds)
  | _ => none
/-- a slice's bound as a place among n (d where it is left out) -/
def sIxD (n d : Nat) : Option Int → Nat
  | none => d
  | some v => if v < 0 then (v + (n : Int)).toNat else min v.toNat n
def cutD {α : Type} (xs : List α) (lo hi : Option Int) : List α := (xs.drop (sIxD xs.length 0 lo)).take (sIxD xs.length xs.length hi - sIxD xs.length 0 lo)
def sliceD : D → Option Int → Option Int → Option D
  | .lst ds, lo, hi => some (.lst (cutD ds lo hi))
  | _, _, _ => none
/-- the first place of y in xs -/
def findD (y : D) : List D → Option Nat
  | [] => none
  | x :: xs => if eqS x y = true then some 0 else (findD y xs).map (· + 1)
def indexD : List D → Option D
  | [.lst ds, y] => if (isS y && ds.all isS) = true then (findD y ds).map fun j => .int (j : Nat) else none
  | _ => none
def sumI : List D → Option Int
  | [] => some 0
  | .int i :: ds => (sumI ds).map (i + ·)
  | _ :: _ => none
def sumD : List D → Option D
  | [.lst ds] => (sumI ds).map .int
  | _ => none
def boolsD : List D → Option (List Bool)
  | [] => some []
  | .bl b :: ds => (boolsD ds).map (b :: ·)
  | _ :: _ => none
def allD : List D → Option D
  | [.lst ds] => (boolsD ds).map fun bs => .bl (bs.all id)
  | _ => none
def anyD : List D → Option D
  | [.lst ds] => (boolsD ds).map fun bs => .bl (bs.any id)
  | _ => none
/-! ### slices -/
def eSlice (fa : EF) (lo hi : Option EF) : EF := fun ρ => fa ρ >>= fun p => (match lo with
  | none => .ok (none, p.2)
  | some f => f p.2 >>= fun q => match q.1 with
    | .int i => .ok (some i, q.2)
    | _ => .bad) >>= fun q => (match hi with
  | none => .ok (none, q.2)
  | some f => f q.2 >>= fun u => match u.1 with
    | .int i => .ok (some i, u.2)
    | _ => .bad) >>= fun u => Rs.of (sliceD p.1 q.1 u.1) >>= fun z => .ok (z, u.2)
def pSlice (fa : PF) (lo hi : Option PF) : PF := fun ρ => fa ρ >>= fun p => (match lo with
  | none => .ok none
  | some f => f ρ >>= fun q => match q with
    | .int i => .ok (some i)
    | _ => .bad) >>= fun q => (match hi with
  | none => .ok none
  | some f => f ρ >>= fun u => match u with
    | .int i => .ok (some i)
    | _ => .bad) >>= fun u => Rs.of (sliceD p q u)
/-- a op1 b op2 c -/
def eChain (g h : D → D → Option D) (fa fb fc : EF) : EF := fun ρ => fa ρ >>= fun p => fb p.2 >>= fun q => Rs.of (g p.1 q.1) >>= fun z => match z with
  | .bl true => fc q.2 >>= fun u => Rs.of (h q.1 u.1) >>= fun w => .ok (w, u.2)
  | .bl false => .ok (.bl false, q.2)
  | _ => .bad
end VL

namespace VL
open PySem
/-- x[j].append(e), x an own list of own lists, e pure and flat -/
def sAppend2 (i : Nat) (fk : EF) (f : PF) : SF := fun ρ => match ρ[i]? with
  | some (some (.lst _)) => fk ρ >>= fun q => (match q.2[i]?, q.1 with
    | some (some (.lst ds)), .int k => (match ixD ds.length k with
      | some j => (match ds[j]? with
        | some (.lst es) => f q.2 >>= fun d => if (flat d && decide (es.length < LINE)) = true then .ok (.next, q.2.set i (some (.lst (ds.set j (.lst (es ++ [d])))))) else .bad
        | _ => .bad)
      | none => .bad)
    | _, _ => .bad)
  | _ => .bad
end VL

namespace VL
open PySem
/-! ### own things lent: read alone for a while -/
/-- the slots js as they are now, the others as they were -/
def borBack : List (Nat × Md) → En → En → Option En
  | [], ρ, _ => some ρ
  | (j, m) :: js, ρ, ρ' => (borBack js ρ ρ').bind fun z => match ρ'[j]? with
    | some (some d) => if flatM m d = true then some (z.set j (some d)) else none
    | _ => some (z.set j none)
def eBor (κ : Md) (js : List (Nat × Md)) (f : EF) : EF := fun ρ => match f ρ with
  | .ok p => if flatM κ p.1 = true then Rs.of (borBack js ρ p.2) >>= fun z => .ok (p.1, z) else .bad
  | _ => .bad
def tBor (js : List (Nat × Md)) (t : TF) : TF := fun ρ => match t ρ with
  | .ok p => Rs.of (borBack js ρ p.2) >>= fun z => .ok (p.1, z)
  | _ => .bad
/-- the slots is are given up -/
def sFrz (is : List Nat) (f : SF) : SF := fun ρ => match f ρ with
  | .ok p => .ok (p.1, wipeE p.2 is)
  | _ => .bad
/-- what is never reached -/
def sBad : SF := fun _ => .bad
def eBad : EF := fun _ => .bad
end VL

namespace VL
open PySem
/-- x, y = a, b: all values first, then the stores -/
def setAll : List Nat → List D → En → En
  | i :: is, d :: ds, ρ => setAll is ds (ρ.set i (some d))
  | _, _, ρ => ρ
def sParN (is : List Nat) (fs : List EF) : SF := fun ρ => eArgs fs ρ >>= fun q => .ok (.next, setAll is q.1 q.2)
/-- a call whose first argument is a new mutable list -/
def eCallO (f : FF) (fo : EF) (ags : List Ag) : EF := fun ρ => fo ρ >>= fun p => agEval ags p.2 >>= fun q => Rs.of (agFill q.1 q.2) >>= fun ds => match f (p.1 :: ds) with
  | .ok r => .ok (r.1, agBack (refsA ags) r.2.tail q.2)
  | _ => .bad
def addI : D → D → Option D
  | .int i, .int j => some (.int (i + j))
  | _, _ => none
def isBD : D → D → Option D
  | .bl a, .bl b => some (.bl (decide (a = b)))
  | _, _ => none
def notBD : D → D → Option D
  | .bl a, .bl b => some (.bl (!decide (a = b)))
  | _, _ => none
/-- x[::-1] -/
def revD : D → Option D
  | .lst ds => some (.lst ds.reverse)
  | _ => none
def eListRange1 (fs : List EF) : EF := fun ρ => eArgs fs ρ >>= fun p => match p.1 with
  | [.int j] => if j ≤ 16777216 ∧ -16777216 ≤ j then .ok (.lst (rangeD 0 j.toNat), p.2) else .bad
  | _ => .bad
def eListRange2 (fs : List EF) : EF := fun ρ => eArgs fs ρ >>= fun p => match p.1 with
  | [.int i, .int j] => if (j ≤ 16777216 ∧ -16777216 ≤ j) ∧ 0 ≤ i ∧ i ≤ 16777216 then .ok (.lst (rangeD i (j - i).toNat), p.2) else .bad
  | _ => .bad
/-- x.m(..) of a list -/
def eMth (g : List D → Option D) (fo : EF) (fs : List EF) : EF := fun ρ => fo ρ >>= fun p => match p.1 with
  | .lst _ => eArgs fs p.2 >>= fun q => Rs.of (g (p.1 :: q.1)) >>= fun z => .ok (z, q.2)
  | _ => .bad
end VL

namespace VL
open PySem
/-! ### V15's operations -/
/-- ints * ints -/
def mulI : D → D → Option D
  | .int i, .int j => if mulOk i j = true then some (.int (i * j)) else none
  | _, _ => none
def eIsiT (Ts : List String) (f : EF) : EF := fun ρ => f ρ >>= fun p => .ok (.bl (Ts.any fun T => isiD T p.1), p.2)
def intsD : List D → Option (List Int)
  | [] => some []
  | .int i :: ds => (intsD ds).map (i :: ·)
  | _ :: _ => none
def insI (x : Int) : List Int → List Int
  | [] => [x]
  | y :: ys => if x ≤ y then x :: y :: ys else y :: insI x ys
def isort : List Int → List Int
  | [] => []
  | x :: xs => insI x (isort xs)
theorem insI_perm (x : Int) : ∀ ys : List Int, (insI x ys).Perm (x :: ys)
  | [] => .refl _
  | y :: ys => by
    unfold insI
    split
    · exact .refl _
    · exact ((insI_perm x ys).cons y).trans (.swap x y ys)
theorem isort_perm : ∀ xs : List Int, (isort xs).Perm xs
  | [] => .refl _
  | x :: xs => (insI_perm x (isort xs)).trans ((isort_perm xs).cons x)
theorem insI_sorted (x : Int) : ∀ {ys : List Int}, ys.Pairwise (· ≤ ·) → (insI x ys).Pairwise (· ≤ ·)
  | [], _ => by simp [insI]
  | y :: ys, h => by
    rw [List.pairwise_cons] at h
    unfold insI
    split
    · rename_i hl
      rw [List.pairwise_cons, List.pairwise_cons]
      exact ⟨fun a ha => by
        rcases List.mem_cons.mp ha with rfl | ha
        · exact hl
        · exact Int.le_trans hl (h.1 a ha), h.1, h.2⟩
    · rename_i hl
      rw [List.pairwise_cons]
      refine ⟨fun a ha => ?_, insI_sorted x h.2⟩
      rcases List.mem_cons.mp ((insI_perm x ys).mem_iff.mp ha) with rfl | ha
      · omega
      · exact h.1 a ha
theorem isort_sorted : ∀ xs : List Int, (isort xs).Pairwise (· ≤ ·)
  | [] => .nil
  | x :: xs => insI_sorted x (isort_sorted xs)
def sortedD : List D → Option D
  | [.lst es] => (intsD es).bind fun ns => if ns.length < 64 then some (.lst ((isort ns).map .int)) else none
  | _ => none
def max1D : List D → Option D
  | [.lst es] => (intsD es).bind fun ns => (ns.max?).map .int
  | _ => none
def min1D : List D → Option D
  | [.lst es] => (intsD es).bind fun ns => (ns.min?).map .int
  | _ => none
end VL

namespace VL
open PySem
/-! ### repr, str -/
mutual
def toPy : D → PyData
  | .non => .none
  | .bl b => .bool b
  | .int i => .int i
  | .str x => .str x
  | .lst xs => .list (toPyA xs)
  | .tup xs => .tuple (toPyA xs)
  | .dct kvs => .dict (toPyK kvs)
  | .obj _ _ => .dict []
def toPyA : List D → List PyData
  | [] => []
  | x :: xs => toPy x :: toPyA xs
def toPyK : List ((Sum Int Str) × D) → List (PyData × PyData)
  | [] => []
  | (.inl k, d) :: r => (.int k, toPy d) :: toPyK r
  | (.inr k, d) :: r => (.str k, toPy d) :: toPyK r
end
/-- an int that has a text -/
def shortI (i : Int) : Bool := decide (i.natAbs.log2 < 1920)
mutual
/-- may be shown: no dict, at most n deep -/
def okR : Nat → D → Bool
  | _, .non | _, .bl _ => true
  | _, .int i => shortI i
  | _, .str x => strOkD x
  | n + 1, .lst xs => okRA n xs
  | n + 1, .tup xs => okRA n xs
  | _, _ => false
def okRA : Nat → List D → Bool
  | _, [] => true
  | n, x :: xs => okR n x && okRA n xs
end
mutual
/-- at most so long is its text -/
def rsz : D → Nat
  | .non => 4
  | .bl _ => 5
  | .int _ => 1921
  | .str x => 10 * x.length + 2
  | .lst xs => 2 + rszA xs
  | .tup xs => 3 + rszA xs
  | .dct _ => 2
  | .obj _ _ => 2
def rszA : List D → Nat
  | [] => 0
  | x :: xs => rsz x + 2 + rszA xs
end
@[irreducible] def reprS (d : D) : Str := (toPy d).shown
def reprOk (d : D) : Bool := okR 60 d && decide (rsz d ≤ 16000000)
def reprD (d : D) : Option D := if reprOk d = true then some (.str (reprS d)) else match d with
  | .dct [] => some (.str "{}")
  | _ => none
@[irreducible] def strI (i : Int) : Str := toString i
/-- str of an int, of a text -/
def strD : List D → Option D
  | [.int i] => if shortI i = true then some (.str (strI i)) else none
  | [.str x] => some (.str x)
  | _ => none
def eRepr (f : EF) : EF := eOp1 reprD f
/-! ### a call with keywords: the values in their order of evaluation, then put in the parameters' order -/
def permD : List Nat → List D → Option (List D)
  | [], _ => some []
  | i :: is, ds => match ds[i]? with
    | some d => (permD is ds).map (d :: ·)
    | none => none
def eCallK (f : FF) (π : List Nat) (fs : List EF) : EF := fun ρ => eArgs fs ρ >>= fun q => Rs.of (permD π q.1) >>= fun ds => match f ds with
  | .ok r => .ok (r.1, q.2)
  | _ => .bad
end VL

namespace VL
open PySem
/-! ### texts -/
def strsD : List D → Option (List Str)
  | [] => some []
  | .str x :: ds => (strsD ds).map (x :: ·)
  | _ :: _ => none
def splitD : List D → Option D
  | [.str a, .str b] => if ((b.length == 0) = false ∧ a.length + 2 ≤ LINE) then some (.lst ((Txt.split a b).map .str)) else none
  | _ => none
def countSD : List D → Option D
  | [.str a, .str b] => some (.int (Txt.count a b))
  | _ => none
def rstripD : List D → Option D
  | [.str a, .str b] => if a.length ≤ LINE then some (.str (Txt.rstripChars a b)) else none
  | _ => none
def joinD : List D → Option D
  | [.str a, .lst ds] => (strsD ds).bind fun ys => if (ys.map (·.length)).sum + ys.length * a.length ≤ LINE then some (.str (Txt.join a ys)) else none
  | _ => none
def partitionD : List D → Option D
  | [.str a, .str b] => if ((b.length == 0) = false ∧ a.length ≤ LINE) then some (.tup [.str (Txt.partition a b).1, .str (Txt.partition a b).2.1, .str (Txt.partition a b).2.2]) else none
  | _ => none
/-- x.m(..) of a text -/
def eMthS (g : List D → Option D) (fo : EF) (fs : List EF) : EF := fun ρ => fo ρ >>= fun p => match p.1 with
  | .str _ => eArgs fs p.2 >>= fun q => Rs.of (g (p.1 :: q.1)) >>= fun z => .ok (z, q.2)
  | _ => .bad
/-- +=, of ints and of texts -/
def addIS : D → D → Option D
  | .int i, .int j => some (.int (i + j))
  | .str a, .str b => if a.length + b.length ≤ LINE then some (.str (a ++ b)) else none
  | _, _ => none
end VL

namespace VL
open PySem
/-! ### methods that change an own list -/
def sRev (i : Nat) : SF := fun ρ => match ρ[i]? with
  | some (some (.lst ds)) => .ok (.next, ρ.set i (some (.lst ds.reverse)))
  | _ => .bad
def sPop (i : Nat) : SF := fun ρ => match ρ[i]? with
  | some (some (.lst (d :: ds))) => .ok (.next, ρ.set i (some (.lst (d :: ds).dropLast)))
  | _ => .bad
def sExtend (i : Nat) (f : EF) : SF := fun ρ => match ρ[i]? with
  | some (some (.lst _)) => f ρ >>= fun p => (match p.2[i]?, p.1 with
    | some (some (.lst ds)), .lst es => if ds.length + es.length ≤ LINE then .ok (.next, p.2.set i (some (.lst (ds ++ es)))) else .bad
    | _, _ => .bad)
  | _ => .bad
/-! f-strings: texts and short ints one behind the other -/
def fmtS (acc : Str) : D → Option Str
  | .str y => if y.length ≤ 16777216 ∧ acc.length + y.length ≤ 16777216 then some (acc ++ y) else none
  | .int i => if shortI i = true ∧ acc.length + (strI i).length ≤ 16777216 then some (acc ++ strI i) else none
  | _ => none
def eJ : List EF → Str → EF
  | [], acc, ρ => .ok (.str acc, ρ)
  | f :: fs, acc, ρ => f ρ >>= fun p => Rs.of (fmtS acc p.1) >>= fun a => eJ fs a p.2
def eFs (fs : List EF) : EF := eJ fs Str.empty
/-! int of a text; one sign in a text -/
def intTD : List D → Option D
  | [.int i] => some (.int i)
  | [.bl k] => some (.int (if k then 1 else 0))
  | [.str a] => if a.length ≤ 640 then (PySem.intText? a).map .int else none
  | _ => none
def inS : D → D → Option D
  | .str y, .str z => match y.cps.toList with
    | [c] => some (.bl (decide (c ∈ z.cps.toList)))
    | _ => none
  | _, _ => none
/-! dicts -/
def keyD : D → Option (Sum Int Str)
  | .int i => some (.inl i)
  | .str x => some (.inr x)
  | _ => none
def valD (kds : List ((Sum Int Str) × D)) (k : Sum Int Str) : Option D := (kds.find? fun kv => decide (kv.1 = k)).map (·.2)
/-- d[k], there -/
def dGet : D → D → Option D
  | .dct kds, y => (keyD y).bind fun k => valD kds k
  | _, _ => none
/-- k in d -/
def dIn : D → D → Option D
  | y, .dct kds => (keyD y).map fun k => .bl (valD kds k).isSome
  | _, _ => none
/-! V20: x[:] = y; x[::k]; divmod -/
def sSetAll (i : Nat) (f : EF) : SF := fun ρ => f ρ >>= fun p => match p.2[i]?, p.1 with
  | some (some (.lst ds)), .lst es => if ds.length + es.length ≤ LINE then .ok (.next, p.2.set i (some (.lst es))) else .bad
  | _, _ => .bad
def stepL {α : Type} (xs : List α) (k : Int) : List α := (sliceRange 0 (xs.length : Int) k).filterMap (xs[·]?)
def stepD : D → D → Option D
  | .lst ds, .int k => if 0 < k then some (.lst (stepL ds k)) else none
  | _, _ => none
def divmodD : List D → Option D
  | [.int i, .int j] => if 0 < j ∧ j < 1073741824 then some (.tup [.int (i / j), .int (i % j)]) else none
  | _ => none
/-! V21: lists of ints in order -/
def lexLt : List Int → List Int → Bool
  | [], ys => !ys.isEmpty
  | _ :: _, [] => false
  | x :: xs, y :: ys => if x = y then lexLt xs ys else decide (x < y)
def ltLD : D → D → Option D
  | .lst xs, .lst ys => (intsD xs).bind fun ns => (intsD ys).map fun ms => .bl (lexLt ns ms)
  | _, _ => none
/-! V22: for y in x: y.append(c), x an own list of own lists -/
def appAll (d0 : D) : List D → Option (List D)
  | [] => some []
  | .lst es :: r => if es.length < LINE then (appAll d0 r).map (.lst (es ++ [d0]) :: ·) else none
  | _ :: _ => none
def sForApp (i j : Nat) (d0 : D) : SF := fun ρ => match ρ[i]?, ρ[j]? with
  | some (some (.lst ds)), some none => (match appAll d0 ds with
    | some ds' => .ok (.next, ρ.set i (some (.lst ds')))
    | none => .bad)
  | _, _ => .bad
/-! V23: an own list read where it stands -/
def eCatN (i : Nat) (f : EF) : EF := fun ρ => match ρ[i]? with
  | some (some (.lst _)) => f ρ >>= fun p => (match p.2[i]? with
    | some (some (.lst ds)) => Rs.of (catD (.lst ds) p.1) >>= fun z => .ok (z, p.2)
    | _ => .bad)
  | _ => .bad
def partF (o : Option EF) (ρ : En) : Rs (Option Int × En) := match o with
  | none => .ok (none, ρ)
  | some f => f ρ >>= fun q => match q.1 with
    | .int i => .ok (some i, q.2)
    | _ => .bad
def eSliceN (i : Nat) (lo hi : Option EF) : EF := fun ρ => match ρ[i]? with
  | some (some (.lst _)) => partF lo ρ >>= fun q => partF hi q.2 >>= fun u => (match u.2[i]? with
    | some (some (.lst ds)) => Rs.of (sliceD (.lst ds) q.1 u.1) >>= fun z => .ok (z, u.2)
    | _ => .bad)
  | _ => .bad
/-! V24: everything own is lent for two statements; only the slots ws are stored -/
def setAt (ρ : En) (i : Nat) : Bool := match ρ[i]? with
  | some (some _) => true
  | _ => false
def sBorB (ws keep : List Nat) (f : SF) : SF := fun ρ => if keep.all (setAt ρ) = true then (match f ρ with
  | .ok (.next, _) => .ok (.next, wipeE ρ ws)
  | .ok (.ret d, _) => if flat d = true then .ok (.ret d, wipeE ρ ws) else .bad
  | _ => .bad) else .bad
end VL
namespace VL
open PySem
/-! V25: lists of ints that stand in order already -/
def intsLD : List D → Option (List (List Int))
  | [] => some []
  | .lst es :: ds => (intsD es).bind fun ns => (intsLD ds).map (ns :: ·)
  | _ :: _ => none
/-- none of the later ones is below -/
def lexUp : List (List Int) → Bool
  | [] => true
  | x :: xs => xs.all (fun y => !lexLt y x) && lexUp xs
def sortedLD : List D → Option D
  | [.lst es] => (intsLD es).bind fun nss => if lexUp nss = true then some (.lst es) else none
  | _ => none
end VL
namespace VL
open PySem
/-! V26: everything own is lent for one statement; of what it stores the flat values stay -/
def flatOne (ρ3 : En) (i : Nat) : Option D := match ρ3[i]? with
  | some (some d) => if flat d = true then some d else none
  | _ => none
def flatE (ρ ρ3 : En) : List Nat → En
  | [] => ρ
  | i :: is => (flatE ρ ρ3 is).set i (flatOne ρ3 i)
def sBorF (ws keep : List Nat) (f : SF) : SF := fun ρ => if keep.all (setAt ρ) = true then (match f ρ with
  | .ok (.next, ρ3) => .ok (.next, flatE ρ ρ3 ws)
  | .ok (.ret d, _) => if flat d = true then .ok (.ret d, wipeE ρ ws) else .bad
  | _ => .bad) else .bad
end VL
namespace VL
open PySem
/-! V27: repr of a list of things, some of which are {} -/
def isED : D → Bool
  | .dct [] => true
  | _ => false
def okM (ds : List D) : Bool := ds.all fun d => okR 58 d || isED d
def reprM (d : D) : Option D := match d with
  | .lst ds => if (okM ds && decide (rsz (.lst ds) ≤ 16000000)) = true then some (.str (reprS (.lst ds))) else none
  | _ => none
end VL
namespace VL
open PySem
/-! V28: sorted(set(..)); d[k] = v -/
def insU (x : Int) : List Int → List Int
  | [] => [x]
  | y :: ys => if x < y then x :: y :: ys else if x = y then y :: ys else y :: insU x ys
def dsort : List Int → List Int
  | [] => []
  | x :: xs => insU x (dsort xs)
theorem insU_mem {x k : Int} : ∀ {l : List Int}, k ∈ insU x l ↔ k = x ∨ k ∈ l
  | [] => by simp [insU]
  | y :: ys => by
    unfold insU
    split
    · simp
    · split
      · rename_i h
        subst h
        simp
      · rw [List.mem_cons, insU_mem, List.mem_cons]
        constructor
        · rintro (h | h | h)
          · exact .inr (.inl h)
          · exact .inl h
          · exact .inr (.inr h)
        · rintro (h | h | h)
          · exact .inr (.inl h)
          · exact .inl h
          · exact .inr (.inr h)
theorem insU_up {x : Int} : ∀ {l : List Int}, l.Pairwise (· < ·) → (insU x l).Pairwise (· < ·)
  | [], _ => List.pairwise_singleton _ _
  | y :: ys, h => by
    obtain ⟨h1, h2⟩ := List.pairwise_cons.mp h
    unfold insU
    split
    · rename_i hx
      refine List.pairwise_cons.mpr ⟨fun z hz => ?_, h⟩
      rcases List.mem_cons.mp hz with rfl | hz
      · exact hx
      · have := h1 z hz; omega
    · split
      · exact h
      · refine List.pairwise_cons.mpr ⟨fun z hz => ?_, insU_up h2⟩
        rcases insU_mem.mp hz with rfl | hz
        · omega
        · exact h1 z hz
theorem dsort_mem {k : Int} : ∀ {l : List Int}, k ∈ dsort l ↔ k ∈ l
  | [] => by simp [dsort]
  | x :: xs => by
    show k ∈ insU x (dsort xs) ↔ _
    rw [insU_mem, dsort_mem, List.mem_cons]
theorem dsort_up : ∀ l : List Int, (dsort l).Pairwise (· < ·)
  | [] => .nil
  | x :: xs => insU_up (dsort_up xs)
theorem up_uniq : ∀ {a b : List Int}, a.Pairwise (· < ·) → b.Pairwise (· < ·) → (∀ k, k ∈ a ↔ k ∈ b) → a = b
  | [], [], _, _, _ => rfl
  | [], y :: b, _, _, h => absurd ((h y).mpr List.mem_cons_self) (by simp)
  | x :: a, [], _, _, h => absurd ((h x).mp List.mem_cons_self) (by simp)
  | x :: a, y :: b, ha, hb, h => by
    obtain ⟨a1, a2⟩ := List.pairwise_cons.mp ha
    obtain ⟨b1, b2⟩ := List.pairwise_cons.mp hb
    have e : x = y := by
      rcases List.mem_cons.mp ((h x).mp List.mem_cons_self) with e | hx
      · exact e
      · rcases List.mem_cons.mp ((h y).mpr List.mem_cons_self) with e | hy
        · exact e.symm
        · have := b1 x hx; have := a1 y hy; omega
    subst e
    rw [up_uniq a2 b2 fun k => ?_]
    constructor
    · intro hk
      rcases List.mem_cons.mp ((h k).mp (List.mem_cons_of_mem _ hk)) with e | z
      · subst e; exact absurd (a1 k hk) (by omega)
      · exact z
    · intro hk
      rcases List.mem_cons.mp ((h k).mpr (List.mem_cons_of_mem _ hk)) with e | z
      · subst e; exact absurd (b1 k hk) (by omega)
      · exact z
def sortedSetD : D → Option D
  | .lst es => (intsD es).bind fun ns => if ns.length < 63 then some (.lst ((dsort ns).map .int)) else none
  | _ => none
/-- in its place, or at the end -/
def putD (kds : List ((Sum Int Str) × D)) (k : Sum Int Str) (d : D) : List ((Sum Int Str) × D) :=
  if (kds.any fun kv => decide (kv.1 = k)) = true then kds.map (fun kv => if kv.1 = k then (kv.1, d) else kv) else kds ++ [(k, d)]
/-- d[k] = v, d a dict of one's own -/
def sDSet (i : Nat) (fk f : EF) : SF := fun ρ => f ρ >>= fun p => match p.2[i]? with
  | some (some (.dct _)) => fk p.2 >>= fun q => (match q.2[i]?, keyD q.1 with
    | some (some (.dct kds)), some k => if kds.length < LINE then .ok (.next, q.2.set i (some (.dct (putD kds k p.1)))) else .bad
    | _, _ => .bad)
  | _ => .bad
end VL
namespace VL
open PySem
/-- (a, b) = a list -/
def gLstF (gs : List GF) : GF := fun d ρ => match d with
  | .lst ds => if ds.length = gs.length then gAll gs ds ρ else .bad
  | _ => .bad
end VL
namespace VL
open PySem
/-! ### objects -/
def fldO (f : Str) : List ((Sum Int Str) × D) → Option D
  | [] => none
  | (g, x) :: r => if g = .inr f then some x else fldO f r
def putO (f : Str) (d : D) : List ((Sum Int Str) × D) → List ((Sum Int Str) × D)
  | [] => [(.inr f, d)]
  | (g, x) :: r => if g = .inr f then (g, d) :: r else (g, x) :: putO f d r
def fldD (f : Str) : D → Option D
  | .obj c kds => if (objF c).contains f = true then fldO f kds else none
  | _ => none
/-- e.f -/
def eFld (f : Str) (fe : EF) : EF := eOp1 (fldD f) fe
/-- x.f = e; own: whether the field is -/
def sFSet (own : Bool) (i : Nat) (f : Str) (fe : EF) : SF := fun ρ => fe ρ >>= fun p => match p.2[i]? with
  | some (some (.obj c kds)) => if (objF c).contains f = true ∧ ownF c (.inr f) = own ∧ kds.length < 1000 then .ok (.next, p.2.set i (some (.obj c (putO f p.1 kds)))) else .bad
  | _ => .bad
/-- x.f[k] = e, the field an own list -/
def sFIx (i : Nat) (f : Str) (fk : PF) (fe : EF) : SF := fun ρ => fe ρ >>= fun p => match p.2[i]? with
  | some (some (.obj c kds)) => if (objF c).contains f = true ∧ ownF c (.inr f) = true then (match fldO f kds with
    | some (.lst ds) => fk p.2 >>= fun q => (match q with
      | .int k => (match ixD ds.length k with
        | some j => .ok (.next, p.2.set i (some (.obj c (putO f (.lst (ds.set j p.1)) kds))))
        | none => .bad)
      | _ => .bad)
    | _ => .bad) else .bad
  | _ => .bad
/-- an __init__: from the arguments to the object -/
def runI (n : Nat) (c : Str) (body : SF) (ds : List D) : Rs D := match body (some (.obj c []) :: (ds.map some ++ List.replicate (n - (ds.length + 1)) none)) with
  | .ok (.next, some d :: _) => .ok d
  | _ => .bad
/-- C(..) -/
def eMake (f : List D → Rs D) (fs : List EF) : EF := fun ρ => eArgs fs ρ >>= fun q => match f q.1 with
  | .ok d => .ok (d, q.2)
  | _ => .bad
/-- o.m(..), o read alone -/
def eMeth (c m : Str) (f : FF) (fo : EF) (fs : List EF) : EF := fun ρ => fo ρ >>= fun p => match p.1 with
  | .obj c' kds => if c' = c ∧ fldO m kds = none then (eArgs fs p.2 >>= fun q => match f (p.1 :: q.1) with
    | .ok r => .ok (r.1, q.2)
    | _ => .bad) else .bad
  | _ => .bad
end VL
namespace VL
open PySem
/-! ### displays with stars -/
abbrev XF := En → Rs (List D × En)
def xNil : XF := fun ρ => .ok ([], ρ)
def xCons (f : EF) (g : XF) : XF := fun ρ => f ρ >>= fun p => g p.2 >>= fun q => .ok (p.1 :: q.1, q.2)
/-- the items of a list or tuple -/
def itemsD : D → Option (List D)
  | .lst ds => some ds
  | .tup ds => some ds
  | _ => none
def xStar (f : EF) (g : XF) : XF := fun ρ => f ρ >>= fun p => Rs.of (itemsD p.1) >>= fun ds => g p.2 >>= fun q => .ok (ds ++ q.1, q.2)
/-- [.., *e, ..] -/
def eLstX (g : XF) : EF := fun ρ => g ρ >>= fun q => if q.1.length ≤ LINE then .ok (.lst q.1, q.2) else .bad
end VL
namespace VL
open PySem
/-- x.pop(), a list of one's own -/
def ePop (i : Nat) : EF := fun ρ => match ρ[i]? with
  | some (some (.lst ds)) => (match ds.getLast? with
    | some d => .ok (d, ρ.set i (some (.lst ds.dropLast)))
    | none => .bad)
  | _ => .bad
end VL
namespace VL
open PySem
/-- k not in d -/
def dNotIn : D → D → Option D
  | y, .dct kds => (keyD y).map fun k => .bl (!(valD kds k).isSome)
  | _, _ => none
/-- {k: v} -/
def eDct1 (fk fv : EF) : EF := fun ρ => fk ρ >>= fun p => fv p.2 >>= fun q => match keyD p.1 with
  | some k => .ok (.dct [(k, q.1)], q.2)
  | none => .bad
end VL

set_option Elab.async false
set_option linter.all false
/-! VD2: more pure combinators. -/
namespace VL
open PySem
/-- f(a, .., *rest), called by position: np parameters stand ahead of the star -/
def eCallS (np : Nat) (f : FF) (fs : List EF) : EF := fun ρ => eArgs fs ρ >>= fun q => match f (q.1.take np ++ [.tup (q.1.drop np)]) with
  | .ok r => .ok (r.1, q.2)
  | _ => .bad
/-- enumerate of a list or a tuple -/
def iEnumT (fs : List EF) : IF := fun ρ => eArgs fs ρ >>= fun p => match p.1 with
  | [.lst ds] => .ok (enumD 0 ds, p.2)
  | [.tup ds] => .ok (enumD 0 ds, p.2)
  | _ => .bad
end VL
namespace VL
open PySem
/-- x[k], x a list of one's own, read where it stands -/
def eIxN (i : Nat) (fk : EF) : EF := fun ρ => match ρ[i]? with
  | some (some (.lst _)) => fk ρ >>= fun p => (match p.2[i]? with
    | some (some (.lst ds)) => Rs.of (ixGet (.lst ds) p.1) >>= fun z => .ok (z, p.2)
    | _ => .bad)
  | _ => .bad
/-- dict(d) -/
def dictD : List D → Option D
  | [.dct kds] => some (.dct kds)
  | _ => none
/-- {k: v for ..} -/
def dcompN (own : List Nat) (g : GF) (t : TF) (ek ev : EF) : List D → En → List ((Sum Int Str) × D) → Rs (List ((Sum Int Str) × D) × En)
  | [], ρ, acc => .ok (acc, ρ)
  | d :: ds, ρ, acc => g d (wipeE ρ own) >>= fun ρ1 => t ρ1 >>= fun p => if p.1 = true then ek p.2 >>= fun q => ev q.2 >>= fun u => (match keyD q.1 with
    | some k => dcompN own g t ek ev ds u.2 (putD acc k u.1)
    | none => .bad) else dcompN own g t ek ev ds p.2 acc
def eDComp (own : List Nat) (src : IF) (g : GF) (t : TF) (ek ev : EF) : EF := fun ρ => src ρ >>= fun p => if p.1.length ≤ LINE then dcompN own g t ek ev p.1 p.2 [] >>= fun q => .ok (.dct q.1, backE p.2 q.2 own) else .bad
end VL
namespace VL
open PySem
/-! dicts walked -/
def keyOf : Sum Int Str → D
  | .inl n => .int n
  | .inr x => .str x
def keysD (kds : List ((Sum Int Str) × D)) : List D := kds.map fun kv => keyOf kv.1
/-- for k in d, d a slot -/
def sForD (i : Nat) (g : GF) (b : SF) : SF := fun ρ => match ρ[i]? with
  | some (some (.dct kds)) => (match loop g b (keysD kds) ρ with
    | .ok p => .ok p
    | _ => .bad)
  | _ => .bad
/-- [.. for k in d] -/
def eCompD (i : Nat) (own : List Nat) (g : GF) (t : TF) (e : EF) : EF := fun ρ => match ρ[i]? with
  | some (some (.dct kds)) => (match eComp own (fun ρ => .ok (keysD kds, ρ)) g t e ρ with
    | .ok p => .ok p
    | _ => .bad)
  | _ => .bad
/-- {..: .. for k in d} -/
def eDCompD (i : Nat) (own : List Nat) (g : GF) (t : TF) (ek ev : EF) : EF := fun ρ => match ρ[i]? with
  | some (some (.dct kds)) => (match eDComp own (fun ρ => .ok (keysD kds, ρ)) g t ek ev ρ with
    | .ok p => .ok p
    | _ => .bad)
  | _ => .bad
end VL
namespace VL
open PySem
/-! sorted, of pairs with different first numbers -/
def secD (isB : Bool) (n : Int) : D := if isB = true then .bl (decide (n ≠ 0)) else .int n
def pairD (isB : Bool) (q : Int × Int) : D := .tup [.int q.1, secD isB q.2]
def pairsI : List D → Option (List (Int × Int))
  | [] => some []
  | .tup [.int a, .int b] :: ds => (pairsI ds).map ((a, b) :: ·)
  | _ :: _ => none
def pairsB : List D → Option (List (Int × Int))
  | [] => some []
  | .tup [.int a, .bl b] :: ds => (pairsB ds).map ((a, if b = true then 1 else 0) :: ·)
  | _ :: _ => none
def sortP (isB : Bool) (qs : List (Int × Int)) : Option D := if (qs.map (·.1)).Nodup ∧ qs.length ≤ 1000 then some (.lst ((qs.mergeSort fun x y => decide (x.1 ≤ y.1)).map (pairD isB))) else none
def sortedPD : List D → Option D
  | [.lst ds] => match pairsI ds with
    | some qs => sortP false qs
    | none => (pairsB ds).bind (sortP true)
  | _ => none
end VL
namespace VL
open PySem
/-- x.insert(k, v), k from 0 to the length -/
def sInsert (i : Nat) (fk f : EF) : SF := fun ρ => match ρ[i]? with
  | some (some (.lst _)) => fk ρ >>= fun q => f q.2 >>= fun p => (match p.2[i]?, q.1 with
    | some (some (.lst ds)), .int k => if 0 ≤ k ∧ k ≤ ds.length ∧ ds.length < LINE then .ok (.next, p.2.set i (some (.lst (ds.take k.toNat ++ [p.1] ++ ds.drop k.toNat)))) else .bad
    | _, _ => .bad)
  | _ => .bad
end VL
namespace VL
open PySem
/-- x[::-1], x a list of one's own, read where it stands -/
def eRevN (i : Nat) : EF := fun ρ => match ρ[i]? with
  | some (some (.lst ds)) => .ok (.lst ds.reverse, ρ)
  | _ => .bad
end VL
namespace VL
open PySem
/-- as sBorF; the slots un are empty behind it -/
def sBorG (ws un keep : List Nat) (f : SF) : SF := fun ρ => if keep.all (setAt ρ) = true then (match f ρ with
  | .ok (.next, ρ3) => .ok (.next, flatE (wipeE ρ un) ρ3 ws)
  | _ => .bad) else .bad
end VL

set_option Elab.async false
set_option linter.all false
/-! VD3: sorted keys and pairs of a dict; a dict that is not {}. -/
namespace VL
open PySem
def keysI : List ((Sum Int Str) × D) → Option (List Int)
  | [] => some []
  | (.inl k, _) :: r => (keysI r).map (k :: ·)
  | (.inr _, _) :: _ => none
/-- sorted(d) -/
def sortedKD : List D → Option D
  | [.dct kds] => (keysI kds).bind fun ns => if ns.length < 64 then some (.lst ((isort ns).map .int)) else none
  | _ => none
def itemsI : List ((Sum Int Str) × D) → Option (List (Int × Int))
  | [] => some []
  | (.inl k, .int n) :: r => (itemsI r).map ((k, n) :: ·)
  | _ :: _ => none
/-- sorted(d.items()) -/
def sortedID : D → Option D
  | .dct kds => (itemsI kds).bind fun qs => if (qs.map (·.1)).Nodup ∧ qs.length ≤ 1000 then some (.lst ((qs.mergeSort fun x y => decide (x.1 ≤ y.1)).map fun q => .tup [.int q.1, .int q.2])) else none
  | _ => none
/-- d != {} -/
def neDct0 : D → D → Option D
  | .dct kds, .dct [] => some (.bl (!kds.isEmpty))
  | _, _ => none
end VL
namespace VL
open PySem
/-- return x[k], x a list of own things that ends with the def -/
def sRetIx (i : Nat) (fk : EF) : SF := fun ρ => match ρ[i]? with
  | some (some (.lst _)) => fk ρ >>= fun p => (match p.2[i]? with
    | some (some (.lst ds)) => Rs.of (ixGet (.lst ds) p.1) >>= fun z => .ok (.ret z, p.2)
    | _ => .bad)
  | _ => .bad
end VL

set_option Elab.async false
set_option linter.all false
/-! VD4: exceptions as values. -/
namespace VL
open PySem
/-- the program's classes of errors -/
def excL : List Str := ["AccordionsError", "InvalidPlanError", "InvalidStateError", "InvalidSectionError", "InvalidSectionsError", "InvalidClicksError", "InvalidViewsError", "InvalidNumberError", "InvalidFormatError", "NotFittingError", "EmptyHistoryError", "HiddenError"]
def isTab (T : Str) : List (Str × Bool) := excL.map fun c => (c, decide (c = T ∨ T = "AccordionsError"))
def isVE : List (Str × Bool) := excL.map fun c => (c, true)
/-- c(e), an own exception class without fields: e is not read again -/
def eMkX (c : Str) (f : EF) : EF := eOp1 (fun _ => some (.obj c [])) f
/-- c(e), an own exception class that keeps e in its field -/
def eMkF (c fd : Str) (f : EF) : EF := eOp1 (fun d => some (.obj c [(.inr fd, d)])) f
/-- isinstance(e, T) of exceptions: L tells of each class whether it is one -/
def isxD (L : List (Str × Bool)) : D → Option D
  | .obj c _ => (L.lookup c).map D.bl
  | _ => none
def eIsX (L : List (Str × Bool)) (f : EF) : EF := eOp1 (isxD L) f
/-- e.f of an exception of the class c -/
def fldX (c fd : Str) : D → Option D
  | .obj c' kds => if c' = c then fldO fd kds else none
  | _ => none
def eFldX (c fd : Str) (f : EF) : EF := eOp1 (fldX c fd) f
/-- x[k] += n, ints -/
def sAugK (i : Nat) (k : Nat) (n : Int) : SF := fun ρ => match ρ[i]? with
  | some (some (.lst ds)) => (match ds[k]? with
    | some (.int j) => if k < 1000 then .ok (.next, ρ.set i (some (.lst (ds.set k (.int (j + n)))))) else .bad
    | _ => .bad)
  | _ => .bad
end VL

set_option Elab.async false
set_option linter.all false
set_option maxRecDepth 100000
set_option maxHeartbeats 4000000
/-! V1: how values and the abstract heap hold data; the relation of a frame; steps. -/
namespace VL
open PySem PySem.Spec L2

/-- what of a class of the top its instances lean on -/
structure ClsK (K : PySem.W.Frag) (c : Str) : Prop where
  cl : Cls K (He.ga K c)
  ty : ∀ {H : Hp} {a dx : Addr} {fs : List (Str × V)}, H a = some (.ins (He.ga K c) dx fs) → TyOf K H (.ref a) (.ref (He.ga K c))
  isi : ∀ T ∈ ["int", "bool", "str", "list", "tuple"], PySem.W.kitOne K (.ref (He.ga K c)) (.type T) = some false
  na : ∀ f ∈ objF c, NoAttr K (He.ga K c) f
/-- what of an own exception class its instances lean on -/
structure ExcK (K : PySem.W.Frag) (c : Str) : Prop where
  ec : ExcC K (He.ga K c)
  isi : ∀ T ∈ ["int", "bool", "str", "list", "tuple"], PySem.W.kitOne K (.ref (He.ga K c)) (.type T) = some false
  nf : objF c = []
theorem ExcK.no {K : PySem.W.Frag} {c : Str} (h : ExcK K c) (z : ClsK K c) : False := by
  have q := (PySem.W.plainGet_of (z.cl.get Str.empty)).1
  rw [h.ec.hg] at q
  exact absurd q (by decide)
/-- an instance's fields as a dict's -/
def kkM (fs : List (Str × V)) : List (Key × V) := fs.map fun q => (Sum.inr q.1, q.2)
mutual
inductive Dt (K : PySem.W.Frag) (H : Hp) : V → D → Prop
  | non : Dt K H .non .non
  | bl (b : Bool) : Dt K H (.bl b) (.bl b)
  | int (i : Int) : Dt K H (.int i) (.int i)
  | str (x : Str) : Dt K H (.str x) (.str x)
  | lst {a : Addr} {xs : List V} {ds : List D} : Rd H a (.lst xs) → DtA K H xs ds → Dt K H (.ref a) (.lst ds)
  | tup {a : Addr} {xs : List V} {ds : List D} : SqT K H a xs → DtA K H xs ds → Dt K H (.ref a) (.tup ds)
  | dct {a : Addr} {kvs : List (Key × V)} {kds : List (Key × D)} : Rd H a (.dK kvs) → DtK K H kvs kds → Dt K H (.ref a) (.dct kds)
  | obj {a dx : Addr} {fs : List (Str × V)} {c : Str} {kds : List (Key × D)} : ClsK K c → H a = some (.ins (He.ga K c) dx fs) → DtK K H (kkM fs) kds → Dt K H (.ref a) (.obj c kds)
  | exc {a : Addr} {c : Str} : ExcK K c → H a = some (ExO (.ref (He.ga K c)) a) → Dt K H (.ref a) (.obj c [])
  | exf {a dx : Addr} {fs : List (Str × V)} {c : Str} {kds : List (Key × D)} : ExcK K c → H a = some (exo a (He.ga K c) (some dx)) → H dx = some (exd dx fs) → DtK K H (kkM fs) kds → Dt K H (.ref a) (.obj c kds)
inductive DtA (K : PySem.W.Frag) (H : Hp) : List V → List D → Prop
  | nil : DtA K H [] []
  | cons {v : V} {vs : List V} {d : D} {ds : List D} : Dt K H v d → DtA K H vs ds → DtA K H (v :: vs) (d :: ds)
inductive DtK (K : PySem.W.Frag) (H : Hp) : List (Key × V) → List (Key × D) → Prop
  | nil : DtK K H [] []
  | cons {k : Key} {v : V} {vs : List (Key × V)} {d : D} {ds : List (Key × D)} : Dt K H v d → DtK K H vs ds → DtK K H ((k, v) :: vs) ((k, d) :: ds)
end

theorem Same.rd {H H' : Hp} {a : Addr} {u : HO} (e : Same H H') (h : Rd H a u) : Rd H' a u := by
  rcases h with h | ⟨o, h⟩
  · exact .inl (e _ _ h)
  · exact .inr ⟨o, e _ _ h⟩
theorem Same.sqt {K : PySem.W.Frag} {H H' : Hp} {a : Addr} {xs : List V} (e : Same H H') (h : SqT K H a xs) : SqT K H' a xs := by
  rcases h with h | h
  · exact .inl (Same.rd e h)
  · exact .inr h
section
variable {K : PySem.W.Frag} {H H' : Hp}
mutual
theorem Dt.mono (e : Same H H') : ∀ (d : D) {v : V}, Dt K H v d → Dt K H' v d
  | .non, _, h => by cases h; exact .non
  | .bl b, _, h => by cases h; exact .bl b
  | .int i, _, h => by cases h; exact .int i
  | .str x, _, h => by cases h; exact .str x
  | .lst ds, _, h => by cases h with | lst a b => exact .lst (Same.rd e a) (DtA.mono e ds b)
  | .tup ds, _, h => by cases h with | tup a b => exact .tup (Same.sqt e a) (DtA.mono e ds b)
  | .dct ds, _, h => by cases h with | dct a b => exact .dct (Same.rd e a) (DtK.mono e ds b)
  | .obj c ds, _, h => by
    cases h with
    | obj o a b => exact .obj o (e _ _ a) (DtK.mono e ds b)
    | exc o a => exact .exc o (e _ _ a)
    | exf o a a2 b => exact .exf o (e _ _ a) (e _ _ a2) (DtK.mono e ds b)
theorem DtA.mono (e : Same H H') : ∀ (ds : List D) {vs : List V}, DtA K H vs ds → DtA K H' vs ds
  | [], _, h => by cases h; exact .nil
  | d :: ds, _, h => by cases h with | cons a b => exact .cons (Dt.mono e d a) (DtA.mono e ds b)
theorem DtK.mono (e : Same H H') : ∀ (ds : List (Key × D)) {vs : List (Key × V)}, DtK K H vs ds → DtK K H' vs ds
  | [], _, h => by cases h; exact .nil
  | (k, d) :: ds, _, h => by cases h with | cons a b => exact .cons (Dt.mono e d a) (DtK.mono e ds b)
end
theorem DtA.length : ∀ {vs : List V} {ds : List D}, DtA K H vs ds → vs.length = ds.length
  | _, _, .nil => rfl
  | _, _, .cons _ b => congrArg (· + 1) (DtA.length b)
theorem DtA.get : ∀ {vs : List V} {ds : List D} {i : Nat} {d : D}, DtA K H vs ds → ds[i]? = some d → ∃ v, vs[i]? = some v ∧ Dt K H v d
  | _, _, _, _, .nil, e => by simp at e
  | _, _, 0, _, .cons a _, e => by simp at e; subst e; exact ⟨_, rfl, a⟩
  | _, _, i + 1, d, .cons _ b, e => by
    obtain ⟨v, h1, h2⟩ := DtA.get (i := i) (d := d) b (by simpa using e)
    exact ⟨v, by simpa using h1, h2⟩
theorem DtA.append : ∀ {vs ws : List V} {ds es : List D}, DtA K H vs ds → DtA K H ws es → DtA K H (vs ++ ws) (ds ++ es)
  | _, _, _, _, .nil, h => h
  | _, _, _, _, .cons a b, h => .cons a (DtA.append b h)
theorem DtA.take : ∀ {vs : List V} {ds : List D} (n : Nat), DtA K H vs ds → DtA K H (vs.take n) (ds.take n)
  | _, _, 0, _ => .nil
  | _, _, _ + 1, .nil => .nil
  | _, _, n + 1, .cons a b => .cons a (DtA.take n b)
theorem DtA.drop : ∀ {vs : List V} {ds : List D} (n : Nat), DtA K H vs ds → DtA K H (vs.drop n) (ds.drop n)
  | _, _, 0, h => h
  | _, _, _ + 1, .nil => .nil
  | _, _, n + 1, .cons _ b => DtA.drop n b
theorem DtA.reverse : ∀ {vs : List V} {ds : List D}, DtA K H vs ds → DtA K H vs.reverse ds.reverse
  | _, _, .nil => .nil
  | _, _, .cons a b => by
    rw [List.reverse_cons, List.reverse_cons]
    exact DtA.append (DtA.reverse b) (.cons a .nil)
theorem DtA.set : ∀ {vs : List V} {ds : List D} (i : Nat) {v : V} {d : D}, Dt K H v d → DtA K H vs ds → DtA K H (vs.set i v) (ds.set i d)
  | _, _, _, _, _, _, .nil => .nil
  | _, _, 0, _, _, h, .cons _ b => .cons h b
  | _, _, i + 1, _, _, h, .cons a b => .cons a (DtA.set i h b)
end

/-! ### own lists -/
inductive AllM (P : V → D → List Addr → Prop) : List V → List D → List Addr → Prop
  | nil : AllM P [] [] []
  | cons {v : V} {vs : List V} {d : D} {ds : List D} {f g : List Addr} : P v d f → AllM P vs ds g → AllM P (v :: vs) (d :: ds) (f ++ g)
inductive AllK (P : Key → V → D → List Addr → Prop) : List (Key × V) → List (Key × D) → List Addr → Prop
  | nil : AllK P [] [] []
  | cons {k : Key} {v : V} {vs : List (Key × V)} {d : D} {ds : List (Key × D)} {f g : List Addr} : P k v d f → AllK P vs ds g → AllK P ((k, v) :: vs) ((k, d) :: ds) (f ++ g)
theorem AllM.imp {P P' : V → D → List Addr → Prop} : ∀ {vs : List V} {ds : List D} {f : List Addr}, AllM P vs ds f → (∀ v d g, (∀ a ∈ g, a ∈ f) → P v d g → P' v d g) → AllM P' vs ds f
  | _, _, _, .nil, _ => .nil
  | _, _, _, .cons h t, k => .cons (k _ _ _ (fun a ha => List.mem_append_left _ ha) h) (AllM.imp t fun v d g hg => k v d g fun a ha => List.mem_append_right _ (hg a ha))
theorem AllK.imp {P P' : Key → V → D → List Addr → Prop} : ∀ {vs : List (Key × V)} {ds : List (Key × D)} {f : List Addr}, AllK P vs ds f → (∀ q v d g, (∀ a ∈ g, a ∈ f) → P q v d g → P' q v d g) → AllK P' vs ds f
  | _, _, _, .nil, _ => .nil
  | _, _, _, .cons h t, k => .cons (k _ _ _ _ (fun a ha => List.mem_append_left _ ha) h) (AllK.imp t fun q v d g hg => k q v d g fun a ha => List.mem_append_right _ (hg a ha))
theorem AllM.append {P : V → D → List Addr → Prop} : ∀ {vs ws : List V} {ds es : List D} {f g : List Addr}, AllM P vs ds f → AllM P ws es g → AllM P (vs ++ ws) (ds ++ es) (f ++ g)
  | _, _, _, _, _, _, .nil, h => h
  | _, _, _, _, _, _, .cons a b, h => by
    rw [List.append_assoc]
    exact .cons a (AllM.append b h)
theorem AllM.length {P : V → D → List Addr → Prop} : ∀ {vs : List V} {ds : List D} {f : List Addr}, AllM P vs ds f → vs.length = ds.length
  | _, _, _, .nil => rfl
  | _, _, _, .cons _ b => congrArg (· + 1) (AllM.length b)
theorem AllM.one {P : V → D → List Addr → Prop} {v : V} {d : D} {f : List Addr} (h : P v d f) : AllM P [v] [d] f := by
  have := AllM.cons h AllM.nil
  rwa [List.append_nil] at this

theorem AllM.bound {P : V → D → List Addr → Prop} {H : Hp} (k : ∀ v d f, P v d f → ∀ a ∈ f, ∃ o, H a = some o) : ∀ {vs : List V} {ds : List D} {f : List Addr}, AllM P vs ds f → ∀ a ∈ f, ∃ o, H a = some o
  | _, _, _, .nil, a, ha => by cases ha
  | _, _, _, .cons h t, a, ha => by
    rcases List.mem_append.mp ha with ha | ha
    · exact k _ _ _ h a ha
    · exact AllM.bound k t a ha
theorem AllK.bound {P : Key → V → D → List Addr → Prop} {H : Hp} (k : ∀ q v d f, P q v d f → ∀ a ∈ f, ∃ o, H a = some o) : ∀ {vs : List (Key × V)} {ds : List (Key × D)} {f : List Addr}, AllK P vs ds f → ∀ a ∈ f, ∃ o, H a = some o
  | _, _, _, .nil, a, ha => by cases ha
  | _, _, _, .cons h t, a, ha => by
    rcases List.mem_append.mp ha with ha | ha
    · exact k _ _ _ _ h a ha
    · exact AllK.bound k t a ha
section
variable (K : PySem.W.Frag) (Hm H : Hp)
/-- a field: own as its object is, or read alone -/
def fldM (b : Bool) (R : V → D → List Addr → Prop) : V → D → List Addr → Prop := fun v d g => match b with
  | true => R v d g
  | false => Dt K Hm v d ∧ g = []
/-- v holds d in the manner m; f: its own objects. What is not own is read in the stable heap Hm -/
def RdM : Md → V → D → List Addr → Prop
  | .im => fun v d f => Dt K Hm v d ∧ f = []
  | .ow k => fun v d f => ∃ a, v = .ref a ∧
      ((∃ xs ds g, d = .lst ds ∧ H a = some (.lst xs) ∧ AllM (RdM k) xs ds g ∧ f = a :: g) ∨
       (∃ kvs kds g, d = .dct kds ∧ H a = some (.dK kvs) ∧ AllK (fun _ => RdM k) kvs kds g ∧ f = a :: g) ∨
       (∃ c dx fs kds g, k ≠ .im ∧ d = .obj c kds ∧ ClsK K c ∧ H a = some (.ins (He.ga K c) dx fs) ∧ H dx = some (.own a) ∧ AllK (fun q => fldM K Hm (ownF c q) (RdM k)) (kkM fs) kds g ∧ f = a :: dx :: g))
end
section
variable {K : PySem.W.Frag} {Hm Hm' H H' G : Hp}
theorem fldM.bound {b : Bool} {R : V → D → List Addr → Prop} (k : ∀ v d f, R v d f → ∀ a ∈ f, ∃ o, H a = some o) {v : V} {d : D} {f : List Addr} (h : fldM K Hm b R v d f) : ∀ a ∈ f, ∃ o, H a = some o := by
  cases b with
  | true => exact k v d f h
  | false => intro a ha; rw [h.2] at ha; cases ha
theorem fldM.imp (e : Same Hm Hm') {b : Bool} {R R' : V → D → List Addr → Prop} {v : V} {d : D} {f : List Addr} (k : R v d f → R' v d f) (h : fldM K Hm b R v d f) : fldM K Hm' b R' v d f := by
  cases b with
  | true => exact k h
  | false => exact ⟨Dt.mono e _ h.1, h.2⟩
theorem fldM.dt (e : Same Hm G) {b : Bool} {R : V → D → List Addr → Prop} {v : V} {d : D} {f : List Addr} (k : R v d f → Dt K G v d) (h : fldM K Hm b R v d f) : Dt K G v d := by
  cases b with
  | true => exact k h
  | false => exact Dt.mono e _ h.1
theorem RdM.bound : ∀ {m : Md} {v : V} {d : D} {f : List Addr}, RdM K Hm H m v d f → ∀ a ∈ f, ∃ o, H a = some o
  | .im, _, _, _, ⟨_, e⟩, a, ha => by subst e; cases ha
  | .ow k, v, d, f, ⟨b, _, h⟩, a, ha => by
    rcases h with ⟨xs, ds, g, _, hb, hall, rfl⟩ | ⟨kvs, kds, g, _, hb, hall, rfl⟩ | ⟨c, dx, fs, kds, g, _, _, _, hb, hx, hall, rfl⟩
    · rcases List.mem_cons.mp ha with rfl | ha
      · exact ⟨_, hb⟩
      · exact hall.bound (fun _ _ _ => RdM.bound) a ha
    · rcases List.mem_cons.mp ha with rfl | ha
      · exact ⟨_, hb⟩
      · exact hall.bound (fun _ _ _ _ => RdM.bound) a ha
    · rcases List.mem_cons.mp ha with rfl | ha
      · exact ⟨_, hb⟩
      · rcases List.mem_cons.mp ha with rfl | ha
        · exact ⟨_, hx⟩
        · exact hall.bound (fun _ _ _ _ h => fldM.bound (fun _ _ _ => RdM.bound) h) a ha
/-- the own objects are kept, the stable heap grows -/
theorem RdM.step (e : Same Hm Hm') : ∀ {m : Md} {v : V} {d : D} {f : List Addr}, RdM K Hm H m v d f → (∀ a ∈ f, ∀ o, H a = some o → H' a = some o) → RdM K Hm' H' m v d f
  | .im, _, _, _, ⟨h, e'⟩, _ => ⟨Dt.mono e _ h, e'⟩
  | .ow k, v, d, f, ⟨b, hv, h⟩, k' => by
    rcases h with ⟨xs, ds, g, hd, hb, hall, rfl⟩ | ⟨kvs, kds, g, hd, hb, hall, rfl⟩ | ⟨c, dx, fs, kds, g, hk, hd, ho, hb, hx, hall, rfl⟩
    · exact ⟨b, hv, .inl ⟨xs, ds, g, hd, k' b List.mem_cons_self _ hb, hall.imp fun v d g' hg hp => RdM.step e hp fun a ha => k' a (List.mem_cons_of_mem _ (hg a ha)), rfl⟩⟩
    · exact ⟨b, hv, .inr (.inl ⟨kvs, kds, g, hd, k' b List.mem_cons_self _ hb, hall.imp fun _ v d g' hg hp => RdM.step e hp fun a ha => k' a (List.mem_cons_of_mem _ (hg a ha)), rfl⟩)⟩
    · exact ⟨b, hv, .inr (.inr ⟨c, dx, fs, kds, g, hk, hd, ho, k' b List.mem_cons_self _ hb, k' dx (List.mem_cons_of_mem _ List.mem_cons_self) _ hx, hall.imp fun _ v d g' hg hp => hp.imp e fun hp => RdM.step e hp fun a ha => k' a (List.mem_cons_of_mem _ (List.mem_cons_of_mem _ (hg a ha))), rfl⟩)⟩
theorem DtA.of_all {P : V → D → List Addr → Prop} : ∀ {vs : List V} {ds : List D} {f : List Addr}, AllM P vs ds f → (∀ v d g, (∀ a ∈ g, a ∈ f) → P v d g → Dt K H v d) → DtA K H vs ds
  | _, _, _, .nil, _ => .nil
  | _, _, _, .cons h t, k => .cons (k _ _ _ (fun a ha => List.mem_append_left _ ha) h) (DtA.of_all t fun v d g hg => k v d g fun a ha => List.mem_append_right _ (hg a ha))
theorem DtK.of_all {P : Key → V → D → List Addr → Prop} : ∀ {vs : List (Key × V)} {ds : List (Key × D)} {f : List Addr}, AllK P vs ds f → (∀ q v d g, (∀ a ∈ g, a ∈ f) → P q v d g → Dt K H v d) → DtK K H vs ds
  | _, _, _, .nil, _ => .nil
  | _, _, _, .cons h t, k => .cons (k _ _ _ _ (fun a ha => List.mem_append_left _ ha) h) (DtK.of_all t fun q v d g hg => k q v d g fun a ha => List.mem_append_right _ (hg a ha))
/-- read as data in a heap where the own objects stand -/
theorem RdM.dt (e : Same Hm G) : ∀ {m : Md} {v : V} {d : D} {f : List Addr}, RdM K Hm H m v d f → (∀ a ∈ f, ∀ o, H a = some o → G a = some o) → Dt K G v d
  | .im, _, _, _, ⟨h, _⟩, _ => Dt.mono e _ h
  | .ow k, v, d, f, ⟨b, hv, h⟩, k' => by
    subst hv
    rcases h with ⟨xs, ds, g, rfl, hb, hall, rfl⟩ | ⟨kvs, kds, g, rfl, hb, hall, rfl⟩ | ⟨c, dx, fs, kds, g, _, rfl, ho, hb, hx, hall, rfl⟩
    · exact .lst (.of (k' b List.mem_cons_self _ hb)) (DtA.of_all hall fun v d g' hg hp => RdM.dt e hp fun a ha => k' a (List.mem_cons_of_mem _ (hg a ha)))
    · exact .dct (.of (k' b List.mem_cons_self _ hb)) (DtK.of_all hall fun _ v d g' hg hp => RdM.dt e hp fun a ha => k' a (List.mem_cons_of_mem _ (hg a ha)))
    · exact .obj ho (k' b List.mem_cons_self _ hb) (DtK.of_all hall fun _ v d g' hg hp => hp.dt e fun hp => RdM.dt e hp fun a ha => k' a (List.mem_cons_of_mem _ (List.mem_cons_of_mem _ (hg a ha))))
theorem all_im : ∀ {vs : List V} {ds : List D} {f : List Addr}, AllM (RdM K Hm H .im) vs ds f → DtA K Hm vs ds ∧ f = []
  | _, _, _, .nil => ⟨.nil, rfl⟩
  | _, _, _, .cons ⟨h, e⟩ t => by
    obtain ⟨h2, e2⟩ := all_im t
    subst e e2
    exact ⟨.cons h h2, rfl⟩
theorem im_all : ∀ {vs : List V} {ds : List D}, DtA K Hm vs ds → AllM (RdM K Hm H .im) vs ds []
  | _, _, .nil => .nil
  | _, _, .cons h t => AllM.cons (f := []) (g := []) ⟨h, rfl⟩ (im_all t)
theorem allk_im : ∀ {vs : List (Key × V)} {ds : List (Key × D)} {f : List Addr}, AllK (fun _ => RdM K Hm H .im) vs ds f → DtK K Hm vs ds ∧ f = []
  | _, _, _, .nil => ⟨.nil, rfl⟩
  | _, _, _, .cons ⟨h, e⟩ t => by
    obtain ⟨h2, e2⟩ := allk_im t
    subst e e2
    exact ⟨.cons h h2, rfl⟩
theorem imk_all : ∀ {vs : List (Key × V)} {ds : List (Key × D)}, DtK K Hm vs ds → AllK (fun _ => RdM K Hm H .im) vs ds []
  | _, _, .nil => .nil
  | _, _, .cons h t => AllK.cons (f := []) (g := []) ⟨h, rfl⟩ (imk_all t)
end

/-! ### the frame -/
abbrev Fps := Nat → List Addr
/-- what a def's frame is: the module's facts, how each slot is held, the slots of mutable parameters with the start, the wish of errors -/
structure Ct where
  Γ : List Md
  R : List Nat
  σ0 : St
  He : Hp
  W : Ex → En → St → Hp → Prop

structure Rel (K : PySem.W.Frag) (C : Ct) (Hm H : Hp) (F : Fps) (σ : St) (ρ : En) : Prop where
  ls : σ.length = C.Γ.length
  lr : ρ.length = C.Γ.length
  sl : ∀ i d, ρ[i]? = some (some d) → ∃ v m, σ[i]? = some (some v) ∧ C.Γ[i]? = some m ∧ RdM K Hm H m v d (F i)
  nd : ∀ i, (F i).Nodup
  dj : ∀ i j a, a ∈ F i → a ∈ F j → i = j
  un : ∀ i a, a ∈ F i → Hm a = none
  sub : Same Hm H
  bd : ∀ i a, a ∈ F i → ∃ o, H a = some o
  tp : ∀ b xs, H b = some (.tup xs) → Hm b = some (.tup xs)
  fz : ∀ b o u, H b = some (.frz o u) → Hm b = some (.frz o u)
  he : ∀ b, H b = none → C.He b = none
  ow : ∀ i a, a ∈ F i → i ∈ C.R ∨ C.He a = none
  fx : ∀ i ∈ C.R, σ[i]? = C.σ0[i]? ∧ ∃ d, ρ[i]? = some (some d)
structure Step (Hm H : Hp) (F : Fps) (Hm' H' : Hp) (F' : Fps) : Prop where
  sm : Same Hm Hm'
  kp : ∀ b o, H b = some o → (∀ i, b ∉ F i) → H' b = some o
  nw : ∀ b o, Hm' b = some o → Hm b = some o ∨ ((∃ j, b ∈ F j) ∨ H b = none)
  fn : ∀ i b, b ∈ F' i → (∃ j, b ∈ F j) ∨ H b = none
  dm : ∀ b, H' b = none → H b = none
theorem Step.refl {Hm H : Hp} {F : Fps} : Step Hm H F Hm H F := ⟨Same.refl _, fun _ _ h _ => h, fun _ _ h => .inl h, fun i _ h => .inl ⟨i, h⟩, fun _ h => h⟩
theorem Step.trans {Hm H : Hp} {F : Fps} {Hm1 H1 : Hp} {F1 : Fps} {Hm2 H2 : Hp} {F2 : Fps} (a : Step Hm H F Hm1 H1 F1) (b : Step Hm1 H1 F1 Hm2 H2 F2) : Step Hm H F Hm2 H2 F2 where
  sm := a.sm.trans b.sm
  kp := fun c o h hf => b.kp c o (a.kp c o h hf) fun i hi => (a.fn i c hi).elim (fun ⟨j, hj⟩ => hf j hj) fun z => by rw [h] at z; cases z
  nw := fun c o h => (b.nw c o h).elim (fun z => a.nw c o z) fun z => .inr (z.elim (fun ⟨j, hj⟩ => a.fn j c hj) fun y => .inr (a.dm c y))
  fn := fun i c h => (b.fn i c h).elim (fun ⟨j, hj⟩ => a.fn j c hj) fun z => .inr (a.dm c z)
  dm := fun c h => a.dm c (b.dm c h)
/-- a value that has just come: its own objects are new and nobody else's -/
structure Val (K : PySem.W.Frag) (H0 : Hp) (Hm H : Hp) (F : Fps) (m : Md) (v : V) (d : D) (f : List Addr) : Prop where
  rd : RdM K Hm H m v d f
  nd : f.Nodup
  un : ∀ a ∈ f, Hm a = none
  ap : ∀ a ∈ f, ∀ i, a ∉ F i
  nw : ∀ a ∈ f, H0 a = none
section
variable {C : Ct} {K : PySem.W.Frag} {H0 Hm H Hm' H' : Hp} {F F' : Fps} {σ : St} {ρ : En} {m : Md} {v : V} {d : D} {f : List Addr}
theorem Val.step (x : Val K H0 Hm H F m v d f) (s : Step Hm H F Hm' H' F') : Val K H0 Hm' H' F' m v d f where
  rd := x.rd.step s.sm fun a ha o h => s.kp a o h (x.ap a ha)
  nd := x.nd
  un := fun a ha => by
    cases q : Hm' a with
    | none => rfl
    | some o =>
      obtain ⟨o', ho⟩ := x.rd.bound a ha
      rcases s.nw a o q with z | ⟨j, z⟩ | z
      · rw [x.un a ha] at z; cases z
      · exact absurd z (x.ap a ha j)
      · rw [ho] at z; cases z
  ap := fun a ha i hi => by
    obtain ⟨o', ho⟩ := x.rd.bound a ha
    rcases s.fn i a hi with ⟨j, z⟩ | z
    · exact x.ap a ha j z
    · rw [ho] at z; cases z
  nw := x.nw
theorem Val.dt (x : Val K H0 Hm H F m v d f) (s : Same Hm H) : Dt K H v d := x.rd.dt s fun _ _ _ h => h
theorem Val.im (h : Dt K Hm v d) : Val K H0 Hm H F .im v d [] := ⟨⟨h, rfl⟩, List.nodup_nil, (fun _ z => by cases z), (fun _ z => by cases z), (fun _ z => by cases z)⟩
theorem Val.of_im (x : Val K H0 Hm H F .im v d f) : Dt K Hm v d := x.rd.1
/-- a slot's value, in the whole heap -/
theorem Rel.at (r : Rel K C Hm H F σ ρ) {i : Nat} (h : ρ[i]? = some (some d)) : ∃ v, σ[i]? = some (some v) ∧ Dt K H v d := by
  obtain ⟨v, m, h1, h2, h3⟩ := r.sl i d h
  exact ⟨v, h1, h3.dt r.sub fun _ _ _ h => h⟩
/-- .. of a slot that is only read -/
theorem Rel.atIm (r : Rel K C Hm H F σ ρ) {i : Nat} (h : ρ[i]? = some (some d)) (hm : C.Γ[i]? = some .im) : ∃ v, σ[i]? = some (some v) ∧ Dt K Hm v d := by
  obtain ⟨v, m, h1, h2, h3⟩ := r.sl i d h
  rw [hm] at h2
  cases h2
  exact ⟨v, h1, h3.1⟩
end

/-! ### growth -/
/-- something was made: G, the heap that one reads in, and H, the whole, grow -/
structure Grow (G H G' H' : Hp) : Prop where
  g : Same G G'
  h : Same H H'
  s : Same G' H'
  n : ∀ b o, G' b = some o → G b = some o ∨ H b = none
  t : ∀ b xs, H' b = some (.tup xs) → H b = some (.tup xs) ∨ G' b = some (.tup xs)
  f : ∀ b o u, H' b = some (.frz o u) → H b = some (.frz o u)
theorem Grow.refl {G H : Hp} (s : Same G H) : Grow G H G H := ⟨Same.refl _, Same.refl _, s, fun _ _ h => .inl h, fun _ _ h => .inl h, fun _ _ _ h => h⟩
theorem same_upd {H : Hp} {p : Addr} {o : HO} (hp : H p = none) : Same H (upd H p o) := fun b x e => by rw [upd_ne (ne_of_none e hp)]; exact e
theorem Same.none {G H : Hp} (s : Same G H) {p : Addr} (hp : H p = none) : G p = none := by
  cases q : G p with
  | none => rfl
  | some x => have := s _ _ q; rw [hp] at this; cases this
/-- a new object, read from now on -/
theorem Grow.one {G H : Hp} {p : Addr} {o : HO} (s : Same G H) (hp : H p = none) (hf : ∀ ob u, o ≠ .frz ob u) : Grow G H (upd G p o) (upd H p o) where
  g := same_upd (Same.none s hp)
  h := same_upd hp
  s := fun b x e => by
    by_cases hb : b = p
    · subst hb; rw [upd_same] at e ⊢; exact e
    · rw [upd_ne hb] at e ⊢; exact s b x e
  n := fun b x e => by
    by_cases hb : b = p
    · subst hb; exact .inr hp
    · rw [upd_ne hb] at e; exact .inl e
  t := fun b xs e => by
    by_cases hb : b = p
    · subst hb; rw [upd_same] at e; exact .inr (by rw [upd_same]; exact e)
    · rw [upd_ne hb] at e; exact .inl e
  f := fun b ob u e => by
    by_cases hb : b = p
    · subst hb; rw [upd_same] at e; cases e; exact absurd rfl (hf _ _)
    · rw [upd_ne hb] at e; exact e
/-- a new list (or dict), own -/
theorem Grow.own {G H : Hp} {p : Addr} {o : HO} (s : Same G H) (hp : H p = none) (hf : ∀ ob u, o ≠ .frz ob u) (ht : ∀ xs, o ≠ .tup xs) : Grow G H G (upd H p o) where
  g := Same.refl _
  h := same_upd hp
  s := fun b x e => by rw [upd_ne (ne_of_none (s b x e) hp)]; exact s b x e
  n := fun _ _ h => .inl h
  t := fun b xs e => by
    by_cases hb : b = p
    · subst hb; rw [upd_same] at e; cases e; exact absurd rfl (ht _)
    · rw [upd_ne hb] at e; exact .inl e
  f := fun b ob u e => by
    by_cases hb : b = p
    · subst hb; rw [upd_same] at e; cases e; exact absurd rfl (hf _ _)
    · rw [upd_ne hb] at e; exact e
theorem Grow.trans {G H G1 H1 G2 H2 : Hp} (a : Grow G H G1 H1) (b : Grow G1 H1 G2 H2) : Grow G H G2 H2 where
  g := a.g.trans b.g
  h := a.h.trans b.h
  s := b.s
  n := fun c o e => (b.n c o e).elim (fun z => a.n c o z) fun z => .inr (Same.none a.h z)
  t := fun c xs e => (b.t c xs e).elim (fun z => (a.t c xs z).imp id fun y => b.g _ _ y) .inr
  f := fun c o u e => a.f c o u (b.f c o u e)
section
variable {C : Ct} {K : PySem.W.Frag} {Hm H Hm' H' : Hp} {F : Fps} {σ : St} {ρ : En}
theorem Rel.grow (r : Rel K C Hm H F σ ρ) (g : Grow Hm H Hm' H') : Rel K C Hm' H' F σ ρ ∧ Step Hm H F Hm' H' F := by
  refine ⟨⟨r.ls, r.lr, fun i d h => ?_, r.nd, r.dj, fun i a h => ?_, g.s, fun i a h => ?_, fun b xs e => ?_, fun b o u e => g.g _ _ (r.fz _ _ _ (g.f _ _ _ e)), fun b e => r.he b (Same.none g.h e), r.ow, r.fx⟩,
    ⟨g.g, fun b x e _ => g.h b x e, fun b o e => (g.n b o e).imp id .inr, fun i b h => .inl ⟨i, h⟩, fun b h => Same.none g.h h⟩⟩
  · obtain ⟨v, m, h1, h2, h3⟩ := r.sl i d h
    exact ⟨v, m, h1, h2, h3.step g.g fun a _ o e => g.h a o e⟩
  · obtain ⟨x, hx⟩ := r.bd i a h
    cases q : Hm' a with
    | none => rfl
    | some o =>
      rcases g.n a o q with z | z
      · rw [r.un i a h] at z; cases z
      · rw [hx] at z; cases z
  · obtain ⟨x, hx⟩ := r.bd i a h
    exact ⟨x, g.h _ _ hx⟩
  · rcases g.t b xs e with z | z
    · exact g.g _ _ (r.tp b xs z)
    · exact z
/-- the stable heap with the tuples that were made -/
noncomputable def more (Hm H H' : Hp) : Hp := fun b => match Hm b with
  | some o => some o
  | none => match H b with
    | some _ => none
    | none => match H' b with
      | some (.tup xs) => some (.tup xs)
      | _ => none
theorem more_grow (s : Same Hm H) (h : Same H H') (hf : ∀ b o u, H' b = some (.frz o u) → H b = some (.frz o u)) : Grow Hm H (more Hm H H') H' where
  g := fun b o e => by unfold more; rw [e]
  h := h
  s := fun b o e => by
    unfold more at e
    cases q : Hm b with
    | some x => rw [q] at e; cases e; exact h _ _ (s _ _ q)
    | none =>
      rw [q] at e
      cases q2 : H b with
      | some x => rw [q2] at e; cases e
      | none =>
        rw [q2] at e
        cases q3 : H' b with
        | none => rw [q3] at e; cases e
        | some x =>
          rw [q3] at e
          cases x <;> first | (cases e; rfl) | cases e
  n := fun b o e => by
    unfold more at e
    cases q : Hm b with
    | some x => rw [q] at e; cases e; exact .inl rfl
    | none =>
      rw [q] at e
      cases q2 : H b with
      | some x => rw [q2] at e; cases e
      | none => exact .inr rfl
  t := fun b xs e => by
    cases q2 : H b with
    | some x => exact .inl (by have := h _ _ q2; rw [e] at this; exact this.symm)
    | none =>
      refine .inr ?_
      unfold more
      rw [Same.none s q2, q2, e]
  f := hf
theorem more_none {p : Addr} (hm : Hm p = none) (ht : ∀ xs, H' p ≠ some (.tup xs)) : more Hm H H' p = none := by
  unfold more
  rw [hm]
  cases q2 : H p with
  | some x => rfl
  | none =>
    cases q3 : H' p with
    | none => rfl
    | some x =>
      cases x with
      | tup xs => exact absurd q3 (ht xs)
      | _ => rfl
end

/-! ### flat data: no list, no dict within -/
mutual
theorem flat_dt {K : PySem.W.Frag} {Hm H : Hp} (tp : ∀ b xs, H b = some (.tup xs) → Hm b = some (.tup xs)) (fz : ∀ b o u, H b = some (.frz o u) → Hm b = some (.frz o u)) :
    ∀ (d : D) {v : V}, flat d = true → Dt K H v d → Dt K Hm v d
  | .non, _, _, h => by cases h; exact .non
  | .bl b, _, _, h => by cases h; exact .bl b
  | .int i, _, _, h => by cases h; exact .int i
  | .str x, _, _, h => by cases h; exact .str x
  | .lst ds, _, f, _ => by simp [flat] at f
  | .dct ds, _, f, _ => by simp [flat] at f
  | .obj c ds, _, f, _ => by simp [flat] at f
  | .tup ds, _, f, h => by
    cases h with
    | tup a b =>
      refine .tup ?_ (flat_dtA tp fz ds (by simpa [flat] using f) b)
      rcases a with (a | ⟨o, a⟩) | a
      · exact .inl (.inl (tp _ _ a))
      · exact .inl (.inr ⟨o, fz _ _ _ a⟩)
      · exact .inr a
theorem flat_dtA {K : PySem.W.Frag} {Hm H : Hp} (tp : ∀ b xs, H b = some (.tup xs) → Hm b = some (.tup xs)) (fz : ∀ b o u, H b = some (.frz o u) → Hm b = some (.frz o u)) :
    ∀ (ds : List D) {vs : List V}, flatA ds = true → DtA K H vs ds → DtA K Hm vs ds
  | [], _, _, h => by cases h; exact .nil
  | d :: ds, _, f, h => by
    cases h with
    | cons a b =>
      rw [flatA, Bool.and_eq_true] at f
      exact .cons (flat_dt tp fz d f.1 a) (flat_dtA tp fz ds f.2 b)
end
end VL

set_option Elab.async false
set_option linter.all false
set_option maxRecDepth 100000
set_option maxHeartbeats 4000000
/-! V2: the judgements of values and their rules. -/
namespace VL
open PySem PySem.Spec L2

theorem PE.mono {X : Cx} {e : Expr} {t t' : TE} (h : PE X e t) (i : ∀ σ H Q, t' σ H Q → t σ H Q) : PE X e t' := ⟨fun pins s σ H Q I q => h.run pins s σ H Q I (i σ H Q q)⟩
theorem PT.mono {X : Cx} {e : Expr} {t t' : TT} (h : PT X e t) (i : ∀ σ H Q, t' σ H Q → t σ H Q) : PT X e t' := ⟨fun pins s σ H Q I q => h.run pins s σ H Q I (i σ H Q q)⟩
theorem PW.mono {X : Cx} {e : Expr} {t t' : TT} (h : PW X e t) (i : ∀ σ H Q, t' σ H Q → t σ H Q) : PW X e t' := ⟨fun wh pins s σ H Q I q => h.run wh pins s σ H Q I (i σ H Q q)⟩
theorem PA.mono {X : Cx} {e : List Expr} {t t' : TA} (h : PA X e t) (i : ∀ σ H Q, t' σ H Q → t σ H Q) : PA X e t' := ⟨fun pos pins s σ H Q I q => h.run pos pins s σ H Q I (i σ H Q q)⟩
theorem PS.mono {X : Cx} {e : Stmt} {t t' : TS} (h : PS X e t) (i : ∀ D σ H, t' D σ H → t D σ H) : PS X e t' := ⟨fun pins s σ H D I q => h.run pins s σ H D I (i D σ H q)⟩
theorem PSs.mono {X : Cx} {e : List Stmt} {t t' : TS} (h : PSs X e t) (i : ∀ D σ H, t' D σ H → t D σ H) : PSs X e t' := ⟨fun pins s σ H D I q => h.run pins s σ H D I (i D σ H q)⟩

section
variable (K : PySem.W.Frag) (C : Ct) (Hm H : Hp) (F : Fps)
/-- what an error has to reach -/
def Er (x : Ex) (ρ' : En) : Prop := ∀ Hm' H' F' σ', Step Hm H F Hm' H' F' → Rel K C Hm' H' F' σ' ρ' → C.W x ρ' σ' H'
def fin {α : Type} (r : Rs α) (P : α → Prop) : Prop := match r with
  | .ok a => P a
  | .err x ρ' => Er K C Hm H F x ρ'
  | .bad => False
end
section
variable {K : PySem.W.Frag} {C : Ct} {Hm H Hm' H' : Hp} {F F' : Fps} {σ : St}
theorem fin.bind {α β : Type} {m : Rs α} {k : α → Rs β} {P : β → Prop} (h : fin K C Hm H F (m >>= k) P) : fin K C Hm H F m (fun a => fin K C Hm H F (k a) P) := by
  cases m <;> exact h
theorem fin.imp {α : Type} {r : Rs α} {P P' : α → Prop} (h : fin K C Hm H F r P) (k : ∀ a, P a → P' a) : fin K C Hm H F r P' := by
  cases r with
  | ok a => exact k a h
  | err x ρ => exact h
  | bad => exact h
theorem fin.step {α : Type} {r : Rs α} {P : α → Prop} (h : fin K C Hm H F r P) (s : Step Hm H F Hm' H' F') : fin K C Hm' H' F' r P := by
  cases r with
  | ok a => exact h
  | err x ρ => exact fun a b c d s' r' => h a b c d (s.trans s') r'
  | bad => exact h
theorem fin.of {α : Type} {o : Option α} {P : α → Prop} (h : fin K C Hm H F (Rs.of o) P) : ∃ a, o = some a ∧ P a := by
  cases o with
  | some a => exact ⟨a, rfl, h⟩
  | none => exact h.elim
end

/-! ### the readings -/
section
variable (K : PySem.W.Frag) (C : Ct)
def OkE (κ : Md) (Hm H : Hp) (F : Fps) (σ : St) (Q : VK) (p : D × En) : Prop :=
  ∀ v Hm' H' F' g, Step Hm H F Hm' H' F' → Rel K C Hm' H' F' σ p.2 → Val K H Hm' H' F' κ v p.1 g → Q v H'
def tE (κ : Md) (f : EF) : TE := fun σ H Q => ∃ Hm F ρ, Rel K C Hm H F σ ρ ∧ fin K C Hm H F (f ρ) (OkE K C κ Hm H F σ Q)
def OkP (Hm H : Hp) (F : Fps) (σ : St) (ρ : En) (Q : VK) (d : D) : Prop :=
  ∀ v Hm' H', Step Hm H F Hm' H' F → Same H H' → Rel K C Hm' H' F σ ρ → Dt K H' v d → Q v H'
/-- pure: nothing own changes; the value may lean on own objects -/
def tP (f : PF) : TE := fun σ H Q => ∃ Hm F ρ, Rel K C Hm H F σ ρ ∧ fin K C Hm H F (f ρ) (OkP K C Hm H F σ ρ Q)
def OkQ (Hm H : Hp) (F : Fps) (σ : St) (ρ : En) (Q : VK) (d : D) : Prop :=
  ∀ p xs ds Hm' H', d = .lst ds → H p = none → Hm' p = none → H' p = some (.lst xs) → Step Hm H F Hm' H' F → Same H H' → Rel K C Hm' H' F σ ρ → DtA K H' xs ds → Q (.ref p) H'
/-- pure, a new list -/
def tQ (f : PF) : TE := fun σ H Q => ∃ Hm F ρ, Rel K C Hm H F σ ρ ∧ fin K C Hm H F (f ρ) (OkQ K C Hm H F σ ρ Q)
def tT (f : TF) : TT := fun σ H Q => ∃ Hm F ρ, Rel K C Hm H F σ ρ ∧ fin K C Hm H F (f ρ) fun p => ∀ Hm' H' F', Step Hm H F Hm' H' F' → Rel K C Hm' H' F' σ p.2 → Q p.1 H'
def tA (n : Nat) (f : En → Rs (List D × En)) : TA := fun σ H Q => ∃ Hm F ρ, Rel K C Hm H F σ ρ ∧ fin K C Hm H F (f ρ) fun p => ∀ vs Hm' H' F', Step Hm H F Hm' H' F' → Rel K C Hm' H' F' σ p.2 → DtA K Hm' vs p.1 → vs.length = n → Q vs H'
def tAP (n : Nat) (f : En → Rs (List D)) : TA := fun σ H Q => ∃ Hm F ρ, Rel K C Hm H F σ ρ ∧ fin K C Hm H F (f ρ) fun ds => ∀ vs Hm' H', Step Hm H F Hm' H' F → Same H H' → Rel K C Hm' H' F σ ρ → DtA K H' vs ds → vs.length = n → Q vs H'
end
abbrev VE (X : Cx) (C : Ct) (κ : Md) (e : Expr) (f : EF) : Prop := PE X e (tE X.K C κ f)
abbrev VP (X : Cx) (C : Ct) (e : Expr) (f : PF) : Prop := PE X e (tP X.K C f)
abbrev VQ (X : Cx) (C : Ct) (e : Expr) (f : PF) : Prop := PE X e (tQ X.K C f)
abbrev VT (X : Cx) (C : Ct) (e : Expr) (f : TF) : Prop := PT X e (tT X.K C f)
abbrev VW (X : Cx) (C : Ct) (e : Expr) (f : TF) : Prop := PW X e (tT X.K C f)
abbrev VA (X : Cx) (C : Ct) (es : List Expr) (n : Nat) (f : En → Rs (List D × En)) : Prop := PA X es (tA X.K C n f)
abbrev VAP (X : Cx) (C : Ct) (es : List Expr) (n : Nat) (f : En → Rs (List D)) : Prop := PA X es (tAP X.K C n f)

section
variable {X : Cx} {C : Ct} {e a b : Expr} {κ : Md} {f fa fb : EF} {pf pa pb : PF} {pos : Pos}

/-! ### from one judgement to another -/
theorem ve_flat (h : VP X C e pf) : VE X C .im e (eFlat pf) := PE.mono h fun σ H Q ⟨Hm, F, ρ, r, q⟩ => ⟨Hm, F, ρ, r, q.bind.imp fun d hd v Hm' H' s sm r' x => by
  by_cases hf : flat d = true
  · rw [if_pos hf] at hd
    exact hd v Hm' H' F [] s r' (Val.im (flat_dt r'.tp r'.fz d hf x))
  · rw [if_neg hf] at hd
    exact hd.elim⟩
theorem ve_flatL (h : VQ X C e pf) : VE X C (.ow .im) e (eFlatL pf) := PE.mono h fun σ H Q ⟨Hm, F, ρ, r, q⟩ => ⟨Hm, F, ρ, r, q.bind.imp fun d hd p xs ds Hm' H' ed hp hmp ho s sm r' x => by
  subst ed
  by_cases hf : VL.flatA ds = true
  · have hd : fin X.K C Hm H F (if VL.flatA ds = true then Rs.ok (D.lst ds, ρ) else Rs.bad) _ := hd
    rw [if_pos hf] at hd
    refine hd (.ref p) Hm' H' F [p] s r' ⟨⟨p, rfl, .inl ⟨xs, ds, [], rfl, ho, im_all (flat_dtA r'.tp r'.fz ds hf x), rfl⟩⟩, (by simp), fun a ha => ?_, fun a ha i hi => ?_, fun a ha => ?_⟩
    · rw [List.mem_singleton.mp ha]; exact hmp
    · rw [List.mem_singleton.mp ha] at hi
      obtain ⟨o, ho'⟩ := r.bd i p hi
      rw [hp] at ho'; cases ho'
    · rw [List.mem_singleton.mp ha]; exact hp
  · have hd : fin X.K C Hm H F (if VL.flatA ds = true then Rs.ok (D.lst ds, ρ) else Rs.bad) _ := hd
    rw [if_neg hf] at hd
    exact hd.elim⟩
theorem vp_q (h : VQ X C e pf) : VP X C e pf := PE.mono h fun σ H Q ⟨Hm, F, ρ, r, q⟩ => ⟨Hm, F, ρ, r, q.imp fun d hd p xs ds Hm' H' ed hp hmp ho s sm r' x => by
  subst ed
  exact hd (.ref p) Hm' H' s sm r' (.lst (.of ho) x)⟩
/-- own things are laid down: read from now on -/
theorem freeze {K : PySem.W.Frag} {H0 Hm H : Hp} {F : Fps} {σ : St} {ρ : En} {κ : Md} {v : V} {d : D} {g : List Addr} (r : Rel K C Hm H F σ ρ) (x : Val K H0 Hm H F κ v d g) :
    ∃ Hm', Rel K C Hm' H F σ ρ ∧ Same Hm Hm' ∧ Dt K Hm' v d ∧ (∀ b o, Hm' b = some o → Hm b = some o ∨ H0 b = none) := by
  refine ⟨fun b => if b ∈ g then H b else Hm b, ?_, ?_, ?_, ?_⟩
  · have sm : Same Hm (fun b => if b ∈ g then H b else Hm b) := fun b o e => by
      show (if b ∈ g then H b else Hm b) = some o
      by_cases hb : b ∈ g
      · rw [if_pos hb]; exact r.sub b o e
      · rw [if_neg hb]; exact e
    refine ⟨r.ls, r.lr, fun i d h => ?_, r.nd, r.dj, fun i a h => ?_, fun b o e => ?_, r.bd, fun b xs e => ?_, fun b o u e => sm _ _ (r.fz _ _ _ e), r.he, r.ow, r.fx⟩
    · obtain ⟨v, m, h1, h2, h3⟩ := r.sl i d h
      exact ⟨v, m, h1, h2, h3.step sm fun a _ o e => e⟩
    · have : a ∉ g := fun z => x.ap a z i h
      show (if a ∈ g then H a else Hm a) = none
      rw [if_neg this]
      exact r.un i a h
    · have e : (if b ∈ g then H b else Hm b) = some o := e
      by_cases hb : b ∈ g
      · rw [if_pos hb] at e; exact e
      · rw [if_neg hb] at e; exact r.sub b o e
    · exact sm _ _ (r.tp _ _ e)
  · exact fun b o e => by
      show (if b ∈ g then H b else Hm b) = some o
      by_cases hb : b ∈ g
      · rw [if_pos hb]; exact r.sub b o e
      · rw [if_neg hb]; exact e
  · exact x.rd.dt (fun b o e => by
      show (if b ∈ g then H b else Hm b) = some o
      by_cases hb : b ∈ g
      · rw [if_pos hb]; exact r.sub b o e
      · rw [if_neg hb]; exact e) fun a ha o e => by
      show (if a ∈ g then H a else Hm a) = some o
      rw [if_pos ha]; exact e
  · intro b o e
    have e : (if b ∈ g then H b else Hm b) = some o := e
    by_cases hb : b ∈ g
    · exact .inr (x.nw b hb)
    · rw [if_neg hb] at e; exact .inl e
theorem ve_im (h : VE X C κ e f) : VE X C .im e f := PE.mono h fun σ H Q ⟨Hm, F, ρ, r, q⟩ => ⟨Hm, F, ρ, r, q.imp fun p hp v Hm' H' F' g s r' x => by
  obtain ⟨Hm2, r2, s2, x2, n2⟩ := freeze r' x
  exact hp v Hm2 H' F' [] ⟨s.sm.trans s2, s.kp, fun b o e => (n2 b o e).elim (fun z => s.nw b o z) (fun z => .inr (.inr z)), s.fn, s.dm⟩ r2 (Val.im x2)⟩

/-! ### names, constants -/
theorem ve_name {i : Nat} {x : Str} (hm : C.Γ[i]? = some .im := by rfl) (hN : X.N[i]? = some x := by rfl) (hv : Vis X.env.scope x := by first | exact Or.inl rfl | exact Or.inr (Or.inl rfl) | exact Or.inr (Or.inr rfl))
    (hd : (x == ("__debug__" : Str)) = false := by decide) (hcd : (x == ("__classdict__" : Str)) = false := by decide) : VE X C .im (.Name x pos) (eName i) := by
  refine PE.mono (pe_var hN hv hd hcd) fun σ H Q ⟨Hm, F, ρ, r, q⟩ => ?_
  unfold eName at q
  split at q
  · rename_i d e
    obtain ⟨v, h1, h2⟩ := r.atIm e hm
    exact ⟨v, h1, q v Hm H F [] .refl r (Val.im h2)⟩
  · exact q.elim
theorem vp_name {i : Nat} {x : Str} (hN : X.N[i]? = some x := by rfl) (hv : Vis X.env.scope x := by first | exact Or.inl rfl | exact Or.inr (Or.inl rfl) | exact Or.inr (Or.inr rfl))
    (hd : (x == ("__debug__" : Str)) = false := by decide) (hcd : (x == ("__classdict__" : Str)) = false := by decide) : VP X C (.Name x pos) (pName i) := by
  refine PE.mono (pe_var hN hv hd hcd) fun σ H Q ⟨Hm, F, ρ, r, q⟩ => ?_
  unfold pName at q
  split at q
  · rename_i d e
    obtain ⟨v, h1, h2⟩ := r.at e
    exact ⟨v, h1, q v Hm H .refl (Same.refl _) r h2⟩
  · exact q.elim
theorem ve_const {v : V} {d : D} (h : PE X e (tC v)) (hd : ∀ (K : PySem.W.Frag) (H : Hp), Dt K H v d) : VE X C .im e (eC d) := PE.mono h fun σ H Q ⟨Hm, F, ρ, r, q⟩ => q v Hm H F [] .refl r (Val.im (hd _ _))
theorem vp_const {v : V} {d : D} (h : PE X e (tC v)) (hd : ∀ (K : PySem.W.Frag) (H : Hp), Dt K H v d) : VP X C e (pC d) := PE.mono h fun σ H Q ⟨Hm, F, ρ, r, q⟩ => q v Hm H .refl (Same.refl _) r (hd _ _)
theorem ve_int {i j} : VE X C .im (.Constant (.int i) j pos) (eC (.int i)) := ve_const pe_int fun _ _ => .int i
theorem ve_bl {i j} : VE X C .im (.Constant (.bool i) j pos) (eC (.bl i)) := ve_const pe_bl fun _ _ => .bl i
theorem ve_str {i j} : VE X C .im (.Constant (.str i) j pos) (eC (.str i)) := ve_const pe_str fun _ _ => .str i
theorem ve_non {j} : VE X C .im (.Constant .none j pos) (eC .non) := ve_const pe_non fun _ _ => .non
theorem vp_int {i j} : VP X C (.Constant (.int i) j pos) (pC (.int i)) := vp_const pe_int fun _ _ => .int i
theorem vp_bl {i j} : VP X C (.Constant (.bool i) j pos) (pC (.bl i)) := vp_const pe_bl fun _ _ => .bl i
theorem vp_str {i j} : VP X C (.Constant (.str i) j pos) (pC (.str i)) := vp_const pe_str fun _ _ => .str i
theorem vp_non {j} : VP X C (.Constant .none j pos) (pC .non) := vp_const pe_non fun _ _ => .non
end

/-! ### operations on values -/
/-- what an operation hands back: read in G', or own and new -/
structure Res (K : PySem.W.Frag) (H0 G H : Hp) (κ : Md) (v : V) (d : D) (f : List Addr) : Prop where
  rd : RdM K G H κ v d f
  nd : f.Nodup
  un : ∀ a ∈ f, G a = none
  nw : ∀ a ∈ f, H0 a = none
theorem Res.im {K : PySem.W.Frag} {H0 G H : Hp} {v : V} {d : D} (h : Dt K G v d) : Res K H0 G H .im v d [] := ⟨⟨h, rfl⟩, List.nodup_nil, (fun _ z => by cases z), (fun _ z => by cases z)⟩
theorem Res.lst {K : PySem.W.Frag} {G H : Hp} {p : Addr} {xs : List V} {ds : List D} (s : Same G H) (hp : H p = none) (h : DtA K G xs ds) : Res K H G (upd H p (.lst xs)) (.ow .im) (.ref p) (.lst ds) [p] :=
  ⟨⟨p, rfl, .inl ⟨xs, ds, [], rfl, upd_same, im_all h, rfl⟩⟩, (by simp), fun a ha => by rw [List.mem_singleton.mp ha]; exact Same.none s hp, fun a ha => by rw [List.mem_singleton.mp ha]; exact hp⟩
def Prim1 (K : PySem.W.Frag) (r : V → Hp → VK → Prop) (g : D → Option D) (κ : Md) : Prop :=
  ∀ (G H : Hp) (x : V) (d z : D) (Q : VK), Same G H → Dt K G x d → g d = some z → (∀ v G' H' f, Grow G H G' H' → Res K H G' H' κ v z f → Q v H') → r x H Q
def Prim2 (K : PySem.W.Frag) (r : R2) (g : D → D → Option D) (κ : Md) : Prop :=
  ∀ (G H : Hp) (x y : V) (d e z : D) (Q : VK), Same G H → Dt K G x d → Dt K G y e → g d e = some z → (∀ v G' H' f, Grow G H G' H' → Res K H G' H' κ v z f → Q v H') → r x y H Q
def PrimN (K : PySem.W.Frag) (r : List V → Hp → VK → Prop) (g : List D → Option D) (κ : Md) : Prop :=
  ∀ (G H : Hp) (xs : List V) (ds : List D) (z : D) (Q : VK), Same G H → DtA K G xs ds → g ds = some z → (∀ v G' H' f, Grow G H G' H' → Res K H G' H' κ v z f → Q v H') → r xs H Q
section
variable {K : PySem.W.Frag} {C : Ct} {Hm H Hm' H' : Hp} {F : Fps} {σ : St} {ρ : En} {κ : Md} {Q : VK} {z : D}
/-- the end of an operation: its result is handed on -/
theorem endE {Hm0 H0 : Hp} {F0 : Fps} {v : V} {f : List Addr} (q : OkE K C κ Hm0 H0 F0 σ Q (z, ρ)) (s : Step Hm0 H0 F0 Hm H F) (r : Rel K C Hm H F σ ρ) (g : Grow Hm H Hm' H') (x : Res K H Hm' H' κ v z f) : Q v H' := by
  obtain ⟨r', s'⟩ := r.grow g
  refine q v Hm' H' F f (s.trans s') r' ⟨x.rd, x.nd, x.un, fun a ha i hi => ?_, fun a ha => s.dm a (x.nw a ha)⟩
  obtain ⟨o, ho⟩ := r.bd i a hi
  rw [x.nw a ha] at ho; cases ho
/-- .. of a pure one: G is the whole heap -/
theorem endP {Hm0 H0 G' : Hp} {v : V} {f : List Addr} (q : OkP K C Hm0 H0 F σ ρ Q z) (s : Step Hm0 H0 F Hm H F) (sm : Same H0 H) (r : Rel K C Hm H F σ ρ) (g : Grow H H G' H') (x : Res K H G' H' κ v z f) : Q v H' := by
  obtain ⟨r', s'⟩ := r.grow (more_grow r.sub g.h g.f)
  exact q v _ H' (s.trans s') (sm.trans g.h) r' (x.rd.dt g.s fun _ _ _ h => h)
theorem endQ {Hm0 H0 G' : Hp} {v : V} {f : List Addr} (q : OkQ K C Hm0 H0 F σ ρ Q z) (s : Step Hm0 H0 F Hm H F) (sm : Same H0 H) (r : Rel K C Hm H F σ ρ) (g : Grow H H G' H') (x : Res K H G' H' (.ow .im) v z f) (hz : ∀ kvs, z ≠ .dct kvs) : Q v H' := by
  obtain ⟨r', s'⟩ := r.grow (more_grow r.sub g.h g.f)
  obtain ⟨p, rfl, h⟩ := x.rd
  rcases h with ⟨xs, ds, gg, rfl, ho, hall, rfl⟩ | ⟨kvs, kds, gg, rfl, _⟩ | ⟨_, _, _, _, _, hk, _⟩
  · have hp := x.nw p List.mem_cons_self
    exact q p xs ds _ H' rfl (s.dm p hp) (more_none (Same.none r.sub hp) fun xs' e => by rw [ho] at e; cases e) ho (s.trans s') (sm.trans g.h) r' (DtA.mono g.s ds (all_im hall).1)
  · exact absurd rfl (hz _)
  · exact absurd rfl hk
end
section
variable {K : PySem.W.Frag} {C : Ct} {κ : Md} {σ : St} {H : Hp} {Q : VK}
theorem red1 {r : V → Hp → VK → Prop} {g : D → Option D} {fa : EF} (hp : Prim1 K r g κ) (h : tE K C κ (eOp1 g fa) σ H Q) : tUn r (tE K C .im fa) σ H Q := by
  obtain ⟨Hm, F, ρ, rl, q⟩ := h
  refine ⟨Hm, F, ρ, rl, q.bind.imp fun p hq v Hm1 H1 F1 g1 s1 r1 x1 => ?_⟩
  obtain ⟨z, ez, hz⟩ := hq.bind.of
  exact hp Hm1 H1 v p.1 z Q r1.sub x1.of_im ez fun w G' H' f gr rs => endE hz s1 r1 gr rs
theorem redP1 {r : V → Hp → VK → Prop} {g : D → Option D} {fa : PF} (hp : Prim1 K r g κ) (h : tP K C (pOp1 g fa) σ H Q) : tUn r (tP K C fa) σ H Q := by
  obtain ⟨Hm, F, ρ, rl, q⟩ := h
  refine ⟨Hm, F, ρ, rl, q.bind.imp fun d hq v Hm1 H1 s1 sm1 r1 x1 => ?_⟩
  obtain ⟨z, ez, hz⟩ := hq.of
  exact hp H1 H1 v d z Q (Same.refl _) x1 ez fun w G' H' f gr rs => endP hz s1 sm1 r1 gr rs
theorem redQ1 {r : V → Hp → VK → Prop} {g : D → Option D} {fa : PF} (hp : Prim1 K r g (.ow .im)) (hn : ∀ x kvs, g x ≠ some (.dct kvs)) (h : tQ K C (pOp1 g fa) σ H Q) : tUn r (tP K C fa) σ H Q := by
  obtain ⟨Hm, F, ρ, rl, q⟩ := h
  refine ⟨Hm, F, ρ, rl, q.bind.imp fun d hq v Hm1 H1 s1 sm1 r1 x1 => ?_⟩
  obtain ⟨z, ez, hz⟩ := hq.of
  exact hp H1 H1 v d z Q (Same.refl _) x1 ez fun w G' H' f gr rs => endQ hz s1 sm1 r1 gr rs fun kvs e => hn _ _ (ez.trans (congrArg some e))
theorem red2 {r : R2} {g : D → D → Option D} {fa fb : EF} (hp : Prim2 K r g κ) (h : tE K C κ (eOp2 g fa fb) σ H Q) : tOp r (tE K C .im fa) (tE K C .im fb) σ H Q := by
  obtain ⟨Hm, F, ρ, rl, q⟩ := h
  refine ⟨Hm, F, ρ, rl, q.bind.imp fun p hq v Hm1 H1 F1 g1 s1 r1 x1 => ?_⟩
  refine ⟨Hm1, F1, p.2, r1, (hq.step s1).bind.imp fun p2 hq2 v2 Hm2 H2 F2 g2 s2 r2 x2 => ?_⟩
  obtain ⟨z, ez, hz⟩ := (hq2.step s2).bind.of
  exact hp Hm2 H2 v v2 p.1 p2.1 z Q r2.sub (Dt.mono s2.sm _ x1.of_im) x2.of_im ez fun w G' H' f gr rs => endE hz (s1.trans s2) r2 gr rs
theorem redP2 {r : R2} {g : D → D → Option D} {fa fb : PF} (hp : Prim2 K r g κ) (h : tP K C (pOp2 g fa fb) σ H Q) : tOp r (tP K C fa) (tP K C fb) σ H Q := by
  obtain ⟨Hm, F, ρ, rl, q⟩ := h
  refine ⟨Hm, F, ρ, rl, q.bind.imp fun d hq v Hm1 H1 s1 sm1 r1 x1 => ?_⟩
  refine ⟨Hm1, F, ρ, r1, (hq.step s1).bind.imp fun e hq2 v2 Hm2 H2 s2 sm2 r2 x2 => ?_⟩
  obtain ⟨z, ez, hz⟩ := (hq2.step s2).of
  exact hp H2 H2 v v2 d e z Q (Same.refl _) (Dt.mono sm2 _ x1) x2 ez fun w G' H' f gr rs => endP hz (s1.trans s2) (sm1.trans sm2) r2 gr rs
theorem redQ2 {r : R2} {g : D → D → Option D} {fa fb : PF} (hp : Prim2 K r g (.ow .im)) (hn : ∀ x y kvs, g x y ≠ some (.dct kvs)) (h : tQ K C (pOp2 g fa fb) σ H Q) : tOp r (tP K C fa) (tP K C fb) σ H Q := by
  obtain ⟨Hm, F, ρ, rl, q⟩ := h
  refine ⟨Hm, F, ρ, rl, q.bind.imp fun d hq v Hm1 H1 s1 sm1 r1 x1 => ?_⟩
  refine ⟨Hm1, F, ρ, r1, (hq.step s1).bind.imp fun e hq2 v2 Hm2 H2 s2 sm2 r2 x2 => ?_⟩
  obtain ⟨z, ez, hz⟩ := (hq2.step s2).of
  exact hp H2 H2 v v2 d e z Q (Same.refl _) (Dt.mono sm2 _ x1) x2 ez fun w G' H' f gr rs => endQ hz (s1.trans s2) (sm1.trans sm2) r2 gr rs fun kvs e => hn _ _ _ (ez.trans (congrArg some e))
theorem redN {r : List V → Hp → VK → Prop} {g : List D → Option D} {n : Nat} {fs : List EF} (hp : PrimN K r g κ) (h : tE K C κ (eOpN g fs) σ H Q) : tCB r (tA K C n (eArgs fs)) σ H Q := by
  obtain ⟨Hm, F, ρ, rl, q⟩ := h
  refine ⟨Hm, F, ρ, rl, q.bind.imp fun p hq vs Hm1 H1 F1 s1 r1 x1 _ => ?_⟩
  obtain ⟨z, ez, hz⟩ := hq.bind.of
  exact hp Hm1 H1 vs p.1 z Q r1.sub x1 ez fun w G' H' f gr rs => endE hz s1 r1 gr rs
theorem redPN {r : List V → Hp → VK → Prop} {g : List D → Option D} {n : Nat} {fs : List PF} (hp : PrimN K r g κ) (h : tP K C (pOpN g fs) σ H Q) : tCB r (tAP K C n (pArgs fs)) σ H Q := by
  obtain ⟨Hm, F, ρ, rl, q⟩ := h
  refine ⟨Hm, F, ρ, rl, q.bind.imp fun ds hq vs Hm1 H1 s1 sm1 r1 x1 _ => ?_⟩
  obtain ⟨z, ez, hz⟩ := hq.of
  exact hp H1 H1 vs ds z Q (Same.refl _) x1 ez fun w G' H' f gr rs => endP hz s1 sm1 r1 gr rs
theorem redQN {r : List V → Hp → VK → Prop} {g : List D → Option D} {n : Nat} {fs : List PF} (hp : PrimN K r g (.ow .im)) (hn : ∀ x kvs, g x ≠ some (.dct kvs)) (h : tQ K C (pOpN g fs) σ H Q) : tCB r (tAP K C n (pArgs fs)) σ H Q := by
  obtain ⟨Hm, F, ρ, rl, q⟩ := h
  refine ⟨Hm, F, ρ, rl, q.bind.imp fun ds hq vs Hm1 H1 s1 sm1 r1 x1 _ => ?_⟩
  obtain ⟨z, ez, hz⟩ := hq.of
  exact hp H1 H1 vs ds z Q (Same.refl _) x1 ez fun w G' H' f gr rs => endQ hz s1 sm1 r1 gr rs fun kvs e => hn _ _ (ez.trans (congrArg some e))
end

/-! ### argument lists, displays -/
section
variable {X : Cx} {C : Ct} {e a b : Expr} {es : List Expr} {κ : Md} {n : Nat} {f fa fb : EF} {fs : List EF} {pf pa pb : PF} {ps : List PF} {pos : Pos}
theorem va_nil : VA X C [] 0 (eArgs []) := PA.mono pa_nil fun σ H Q ⟨Hm, F, ρ, r, q⟩ => q [] Hm H F .refl r .nil rfl
theorem va_cons (h1 : VE X C .im e f) (h2 : VA X C es n (eArgs fs)) (hs : starEach (e :: es) X.env = (false, eval e X.env) :: starEach es X.env := by rfl) : VA X C (e :: es) (n + 1) (eArgs (f :: fs)) := by
  refine PA.mono (pa_cons h1 h2 hs) fun σ H Q ⟨Hm, F, ρ, r, q⟩ => ?_
  refine ⟨Hm, F, ρ, r, q.bind.imp fun p hq v Hm1 H1 F1 g1 s1 r1 x1 => ?_⟩
  refine ⟨Hm1, F1, p.2, r1, (hq.step s1).bind.imp fun p2 hq2 vs Hm2 H2 F2 s2 r2 x2 hn => ?_⟩
  exact hq2 (v :: vs) Hm2 H2 F2 (s1.trans s2) r2 (.cons (Dt.mono s2.sm _ x1.of_im) x2) (by rw [List.length_cons, hn])
theorem vap_nil : VAP X C [] 0 (pArgs []) := PA.mono pa_nil fun σ H Q ⟨Hm, F, ρ, r, q⟩ => q [] Hm H .refl (Same.refl _) r .nil rfl
theorem vap_cons (h1 : VP X C e pf) (h2 : VAP X C es n (pArgs ps)) (hs : starEach (e :: es) X.env = (false, eval e X.env) :: starEach es X.env := by rfl) : VAP X C (e :: es) (n + 1) (pArgs (pf :: ps)) := by
  refine PA.mono (pa_cons h1 h2 hs) fun σ H Q ⟨Hm, F, ρ, r, q⟩ => ?_
  refine ⟨Hm, F, ρ, r, q.bind.imp fun d hq v Hm1 H1 s1 sm1 r1 x1 => ?_⟩
  refine ⟨Hm1, F, ρ, r1, (hq.step s1).bind.imp fun ds hq2 vs Hm2 H2 s2 sm2 r2 x2 hn => ?_⟩
  exact hq2 (v :: vs) Hm2 H2 (s1.trans s2) (sm1.trans sm2) r2 (.cons (Dt.mono sm2 _ x1) x2) (by rw [List.length_cons, hn])
theorem ve_tup {x1} (h : VA X C es n (eArgs fs)) (hn : n ≤ 1000 := by decide) : VE X C .im (.Tuple es x1 pos) (eTup fs) := by
  refine PE.mono (pe_tup h) fun σ H Q ⟨Hm, F, ρ, r, q⟩ => ⟨Hm, F, ρ, r, q.bind.imp fun p hq vs Hm1 H1 F1 s1 r1 x1 hl => ⟨Nat.le_of_lt (small1000 (by omega)), fun a ha => ?_⟩⟩
  have g := Grow.one (o := .tup vs) r1.sub ha fun _ _ z => by cases z
  exact endE hq s1 r1 g (Res.im (.tup (.of upd_same) (DtA.mono g.g _ x1)))
theorem ve_lst (h : VA X C es n (eArgs fs)) (hn : n ≤ 1000 := by decide) : VE X C (.ow .im) (.List es pos) (eLst fs) := by
  refine PE.mono (pe_lst h) fun σ H Q ⟨Hm, F, ρ, r, q⟩ => ⟨Hm, F, ρ, r, q.bind.imp fun p hq vs Hm1 H1 F1 s1 r1 x1 hl => ⟨Nat.le_of_lt (small1000 (by omega)), fun a ha => ?_⟩⟩
  exact endE hq s1 r1 (Grow.own (o := .lst vs) r1.sub ha (fun _ _ z => by cases z) fun _ z => by cases z) (Res.lst r1.sub ha x1)
theorem vp_tup {x1} (h : VAP X C es n (pArgs ps)) (hn : n ≤ 1000 := by decide) : VP X C (.Tuple es x1 pos) (pTup ps) := by
  refine PE.mono (pe_tup h) fun σ H Q ⟨Hm, F, ρ, r, q⟩ => ⟨Hm, F, ρ, r, q.bind.imp fun p hq vs Hm1 H1 s1 sm1 r1 x1 hl => ⟨Nat.le_of_lt (small1000 (by omega)), fun a ha => ?_⟩⟩
  have g := Grow.one (o := .tup vs) (Same.refl H1) ha fun _ _ z => by cases z
  exact endP (κ := .im) hq s1 sm1 r1 g (Res.im (.tup (.of upd_same) (DtA.mono g.g _ x1)))
theorem vq_lst (h : VAP X C es n (pArgs ps)) (hn : n ≤ 1000 := by decide) : VQ X C (.List es pos) (pLst ps) := by
  refine PE.mono (pe_lst h) fun σ H Q ⟨Hm, F, ρ, r, q⟩ => ⟨Hm, F, ρ, r, q.bind.imp fun p hq vs Hm1 H1 s1 sm1 r1 x1 hl => ⟨Nat.le_of_lt (small1000 (by omega)), fun a ha => ?_⟩⟩
  exact endQ hq s1 sm1 r1 (Grow.own (o := .lst vs) (Same.refl H1) ha (fun _ _ z => by cases z) fun _ z => by cases z) (Res.lst (Same.refl H1) ha x1) fun _ z => by cases z

/-! ### operators -/
theorem ve_bin {op : Operator} {r : R2} {g : D → D → Option D} (ho : OpR X (binaryOp op) r) (hp : Prim2 X.K r g κ) (ha : VE X C .im a fa) (hb : VE X C .im b fb) : VE X C κ (.BinOp a op b pos) (eOp2 g fa fb) :=
  PE.mono (pe_op ho ha hb) fun _ _ _ => red2 hp
theorem vp_bin {op : Operator} {r : R2} {g : D → D → Option D} (ho : OpR X (binaryOp op) r) (hp : Prim2 X.K r g κ) (ha : VP X C a pa) (hb : VP X C b pb) : VP X C (.BinOp a op b pos) (pOp2 g pa pb) :=
  PE.mono (pe_op ho ha hb) fun _ _ _ => redP2 hp
theorem vq_bin {op : Operator} {r : R2} {g : D → D → Option D} (ho : OpR X (binaryOp op) r) (hp : Prim2 X.K r g (.ow .im)) (hn : ∀ x y kvs, g x y ≠ some (.dct kvs)) (ha : VP X C a pa) (hb : VP X C b pb) : VQ X C (.BinOp a op b pos) (pOp2 g pa pb) :=
  PE.mono (pe_op ho ha hb) fun _ _ _ => redQ2 hp hn
theorem ve_un {op : UnaryOp} {r : V → Hp → VK → Prop} {g : D → Option D} (ho : UnR X (unaryOp op) r) (hp : Prim1 X.K r g κ) (ha : VE X C .im a fa) : VE X C κ (.UnaryOp op a pos) (eOp1 g fa) :=
  PE.mono (pe_un ho ha) fun _ _ _ => red1 hp
theorem vp_un {op : UnaryOp} {r : V → Hp → VK → Prop} {g : D → Option D} (ho : UnR X (unaryOp op) r) (hp : Prim1 X.K r g κ) (ha : VP X C a pa) : VP X C (.UnaryOp op a pos) (pOp1 g pa) :=
  PE.mono (pe_un ho ha) fun _ _ _ => redP1 hp
theorem ve_cmp {op : CmpOp} {r : R2} {g : D → D → Option D} (ho : OpR X (compareOp op) r) (hp : Prim2 X.K r g κ) (ha : VE X C .im a fa) (hb : VE X C .im b fb) (hm : behindInMarks op b = false := by rfl) : VE X C κ (.Compare a [op] [b] pos) (eOp2 g fa fb) :=
  PE.mono (pe_cmpR ho ha hb hm) fun _ _ _ => red2 hp
theorem vp_cmp {op : CmpOp} {r : R2} {g : D → D → Option D} (ho : OpR X (compareOp op) r) (hp : Prim2 X.K r g κ) (ha : VP X C a pa) (hb : VP X C b pb) (hm : behindInMarks op b = false := by rfl) : VP X C (.Compare a [op] [b] pos) (pOp2 g pa pb) :=
  PE.mono (pe_cmpR ho ha hb hm) fun _ _ _ => redP2 hp
theorem redT {K : PySem.W.Frag} {σ : St} {H : Hp} {Q : Bool → Hp → Prop} {t : TE} (i : ∀ Q, tE K C .im f σ H Q → t σ H Q) (h : tT K C (tVal f) σ H Q) : tTest t σ H Q := by
  refine i _ ?_
  obtain ⟨Hm, F, ρ, r, q⟩ := h
  refine ⟨Hm, F, ρ, r, q.bind.imp fun p hq v Hm1 H1 F1 g1 s1 r1 x1 => ?_⟩
  obtain ⟨d, ρ'⟩ := p
  have x2 := x1.of_im
  cases d with
  | bl b => cases x2; exact ⟨b, rfl, hq Hm1 H1 F1 s1 r1⟩
  | _ => exact hq.elim
theorem redF {K : PySem.W.Frag} {σ : St} {H : Hp} {Q : VK} (h : tE K C .im (eFlat pf) σ H Q) : tP K C pf σ H Q := by
  obtain ⟨Hm, F, ρ, r, q⟩ := h
  refine ⟨Hm, F, ρ, r, q.bind.imp fun d hd v Hm' H' s sm r' x => ?_⟩
  by_cases hf : flat d = true
  · rw [if_pos hf] at hd
    exact hd v Hm' H' F [] s r' (Val.im (flat_dt r'.tp r'.fz d hf x))
  · rw [if_neg hf] at hd
    exact hd.elim
theorem vt_cmp {op : CmpOp} {r : R2} {g : D → D → Option D} (ho : OpR X (compareOp op) r) (hp : Prim2 X.K r g .im) (ha : VE X C .im a fa) (hb : VE X C .im b fb) (hm : behindInMarks op b = false := by rfl) : VT X C (.Compare a [op] [b] pos) (tVal (eOp2 g fa fb)) :=
  PT.mono (pt_cmpR ho ha hb hm) fun _ _ _ => redT fun _ => red2 hp
theorem vtp_cmp {op : CmpOp} {r : R2} {g : D → D → Option D} (ho : OpR X (compareOp op) r) (hp : Prim2 X.K r g .im) (ha : VP X C a pa) (hb : VP X C b pb) (hm : behindInMarks op b = false := by rfl) : VT X C (.Compare a [op] [b] pos) (tVal (eFlat (pOp2 g pa pb))) :=
  PT.mono (pt_cmpR ho ha hb hm) fun _ _ _ => redT fun _ h => redP2 hp (redF h)
theorem vt_val (h : VE X C .im e f) (he : ∀ whole, isTrue e X.env whole = (do let v ← whole; standAt e.pos; holding [v] (truthy v)) := by intro _; rfl) : VT X C e (tVal f) :=
  PT.mono (pt_val h he) fun _ _ _ h => redT (fun _ z => z) h

/-! ### and, or, not -/
variable {ta tb : TF} {rest : List Expr}
theorem vw_and1 (ha : VT X C a ta) : VW X C (.BoolOp .And [a] pos) ta := pw_and1 ha
theorem vw_or1 (ha : VT X C a ta) : VW X C (.BoolOp .Or [a] pos) ta := pw_or1 ha
theorem vw_and (ha : VT X C a ta) (hb : VW X C (.BoolOp .And (b :: rest) pos) tb) : VW X C (.BoolOp .And (a :: b :: rest) pos) (tAndF ta tb) := by
  refine PW.mono (pw_and ha hb) fun σ H Q ⟨Hm, F, ρ, r, q⟩ => ⟨Hm, F, ρ, r, q.bind.imp fun p hq Hm1 H1 F1 s1 r1 => ?_⟩
  obtain ⟨c, ρ'⟩ := p
  cases c with
  | true => exact iteT ⟨Hm1, F1, ρ', r1, (hq.step s1).imp fun p2 hq2 Hm2 H2 F2 s2 r2 => hq2 Hm2 H2 F2 (s1.trans s2) r2⟩
  | false => exact iteF (hq Hm1 H1 F1 s1 r1)
theorem vw_or (ha : VT X C a ta) (hb : VW X C (.BoolOp .Or (b :: rest) pos) tb) : VW X C (.BoolOp .Or (a :: b :: rest) pos) (tOrF ta tb) := by
  refine PW.mono (pw_or ha hb) fun σ H Q ⟨Hm, F, ρ, r, q⟩ => ⟨Hm, F, ρ, r, q.bind.imp fun p hq Hm1 H1 F1 s1 r1 => ?_⟩
  obtain ⟨c, ρ'⟩ := p
  cases c with
  | false => exact iteF ⟨Hm1, F1, ρ', r1, (hq.step s1).imp fun p2 hq2 Hm2 H2 F2 s2 r2 => hq2 Hm2 H2 F2 (s1.trans s2) r2⟩
  | true => exact iteT (hq Hm1 H1 F1 s1 r1)
theorem vt_not (ha : VT X C a ta) : VT X C (.UnaryOp .Not a pos) (tNotF ta) :=
  PT.mono (pt_not ha) fun σ H Q ⟨Hm, F, ρ, r, q⟩ => ⟨Hm, F, ρ, r, q.bind.imp fun p hq Hm1 H1 F1 s1 r1 => hq Hm1 H1 F1 s1 r1⟩
theorem ve_one {op} (h : VE X C κ a f) : VE X C κ (.BoolOp op [a] pos) f := pe_one h
theorem ve_and (ha : VE X C .im a fa) (hb : VE X C .im (.BoolOp .And (b :: rest) pos) fb) : VE X C .im (.BoolOp .And (a :: b :: rest) pos) (eAnd fa fb) := by
  refine PE.mono (pe_and ha hb) fun σ H Q ⟨Hm, F, ρ, r, q⟩ => ⟨Hm, F, ρ, r, q.bind.imp fun p hq v Hm1 H1 F1 g1 s1 r1 x1 => ?_⟩
  obtain ⟨d, ρ'⟩ := p
  have x2 := x1.of_im
  cases d with
  | bl c =>
    cases x2
    refine ⟨c, rfl, ?_⟩
    cases c with
    | true => exact iteT ⟨Hm1, F1, ρ', r1, (hq.step s1).imp fun p2 hq2 v2 Hm2 H2 F2 g2 s2 r2 x2 => hq2 v2 Hm2 H2 F2 g2 (s1.trans s2) r2 ⟨x2.rd, x2.nd, x2.un, x2.ap, fun a ha => s1.dm a (x2.nw a ha)⟩⟩
    | false => exact iteF (hq (.bl false) Hm1 H1 F1 [] s1 r1 (Val.im (.bl false)))
  | _ => exact hq.elim
theorem ve_or (ha : VE X C .im a fa) (hb : VE X C .im (.BoolOp .Or (b :: rest) pos) fb) : VE X C .im (.BoolOp .Or (a :: b :: rest) pos) (eOr fa fb) := by
  refine PE.mono (pe_or ha hb) fun σ H Q ⟨Hm, F, ρ, r, q⟩ => ⟨Hm, F, ρ, r, q.bind.imp fun p hq v Hm1 H1 F1 g1 s1 r1 x1 => ?_⟩
  obtain ⟨d, ρ'⟩ := p
  have x2 := x1.of_im
  cases d with
  | bl c =>
    cases x2
    refine ⟨c, rfl, ?_⟩
    cases c with
    | false => exact iteF ⟨Hm1, F1, ρ', r1, (hq.step s1).imp fun p2 hq2 v2 Hm2 H2 F2 g2 s2 r2 x2 => hq2 v2 Hm2 H2 F2 g2 (s1.trans s2) r2 ⟨x2.rd, x2.nd, x2.un, x2.ap, fun a ha => s1.dm a (x2.nw a ha)⟩⟩
    | true => exact iteT (hq (.bl true) Hm1 H1 F1 [] s1 r1 (Val.im (.bl true)))
  | _ => exact hq.elim
theorem ve_not (ha : VE X C .im a fa) : VE X C .im (.UnaryOp .Not a pos) (eNot fa) := by
  refine PE.mono (pe_not ha) fun σ H Q ⟨Hm, F, ρ, r, q⟩ => ⟨Hm, F, ρ, r, q.bind.imp fun p hq v Hm1 H1 F1 g1 s1 r1 x1 => ?_⟩
  obtain ⟨d, ρ'⟩ := p
  have x2 := x1.of_im
  cases d with
  | bl c => cases x2; exact ⟨c, rfl, hq (.bl (!c)) Hm1 H1 F1 [] s1 r1 (Val.im (.bl _))⟩
  | _ => exact hq.elim
theorem ve_if {c : Expr} (hc : VT X C c ta) (ha : VE X C κ a fa) (hb : VE X C κ b fb) : VE X C κ (.IfExp c a b pos) (eIf ta fa fb) := by
  refine PE.mono (pe_ifExp hc ha hb) fun σ H Q ⟨Hm, F, ρ, r, q⟩ => ⟨Hm, F, ρ, r, q.bind.imp fun p hq Hm1 H1 F1 s1 r1 => ?_⟩
  obtain ⟨c, ρ'⟩ := p
  have cont : ∀ {ff : EF}, fin X.K C Hm H F (ff ρ') (OkE X.K C κ Hm H F σ Q) → tE X.K C κ ff σ H1 Q := fun {ff} hq =>
    ⟨Hm1, F1, ρ', r1, (hq.step s1).imp fun p2 hq2 v2 Hm2 H2 F2 g2 s2 r2 x2 => hq2 v2 Hm2 H2 F2 g2 (s1.trans s2) r2 ⟨x2.rd, x2.nd, x2.un, x2.ap, fun a ha => s1.dm a (x2.nw a ha)⟩⟩
  cases c with
  | true => exact iteT (cont hq)
  | false => exact iteF (cont hq)
end
end VL

set_option Elab.async false
set_option linter.all false
set_option maxRecDepth 100000
set_option maxHeartbeats 4000000
/-! V3: statements. -/
namespace VL
open PySem PySem.Spec L2

section
variable (K : PySem.W.Frag) (C : Ct) (rm : Md)
def OkS (Hm H : Hp) (F : Fps) (D : Ends) (p : Fl × En) : Prop := match p.1 with
  | .next => ∀ Hm' H' F' σ', Step Hm H F Hm' H' F' → Rel K C Hm' H' F' σ' p.2 → D.nx σ' H'
  | .brk => ∀ Hm' H' F' σ', Step Hm H F Hm' H' F' → Rel K C Hm' H' F' σ' p.2 → D.bk σ' H'
  | .cont => ∀ Hm' H' F' σ', Step Hm H F Hm' H' F' → Rel K C Hm' H' F' σ' p.2 → D.ct σ' H'
  | .ret d => ∀ v Hm' H' F' σ' g, Step Hm H F Hm' H' F' → Rel K C Hm' H' F' σ' p.2 → Val K C.He Hm' H' (fun i => if i ∈ C.R then F' i else []) rm v d g → D.rt v H'
def tS (f : SF) : TS := fun D σ H => ∃ Hm F ρ, Rel K C Hm H F σ ρ ∧ fin K C Hm H F (f ρ) (OkS K C rm Hm H F D)
end
theorem OkS.step {K : PySem.W.Frag} {C : Ct} {rm : Md} {Hm H : Hp} {F : Fps} {D : Ends} {p : Fl × En} {Hm1 H1 : Hp} {F1 : Fps} (h : OkS K C rm Hm H F D p) (s : Step Hm H F Hm1 H1 F1) : OkS K C rm Hm1 H1 F1 D p := by
  obtain ⟨fl, ρ⟩ := p
  cases fl with
  | next => exact fun a b c d s' r => h a b c d (s.trans s') r
  | brk => exact fun a b c d s' r => h a b c d (s.trans s') r
  | cont => exact fun a b c d s' r => h a b c d (s.trans s') r
  | ret v => exact fun a b c d e f s' r x => h a b c d e f (s.trans s') r x
abbrev VS (X : Cx) (C : Ct) (rm : Md) (st : Stmt) (f : SF) : Prop := PS X st (tS X.K C rm f)
abbrev VB (X : Cx) (C : Ct) (rm : Md) (st : List Stmt) (f : SF) : Prop := PSs X st (tS X.K C rm f)

/-! ### slots -/
def Fps.put (F : Fps) (i : Nat) (g : List Addr) : Fps := fun j => if j = i then g else F j
theorem put_same {F : Fps} {i : Nat} {g : List Addr} : F.put i g i = g := if_pos rfl
theorem put_ne {F : Fps} {i j : Nat} {g : List Addr} (h : j ≠ i) : F.put i g j = F j := if_neg h
section
variable {K : PySem.W.Frag} {C : Ct} {Hm H Hm' H' H0 Hm0 : Hp} {F F0 : Fps} {σ : St} {ρ : En} {m : Md} {v : V} {d : D} {g : List Addr}
theorem Rel.set (r : Rel K C Hm H F σ ρ) {i : Nat} (x : Val K H0 Hm H F m v d g) (hm : C.Γ[i]? = some m) (hR : i ∉ C.R) (hn : ∀ a ∈ g, C.He a = none) : Rel K C Hm H (F.put i g) (σ.set i (some v)) (ρ.set i (some d)) where
  ls := by rw [List.length_set]; exact r.ls
  lr := by rw [List.length_set]; exact r.lr
  sl := fun j d' h => by
    by_cases e : j = i
    · subst e
      have hl : j < C.Γ.length := (List.getElem?_eq_some_iff.mp hm).1
      rw [List.getElem?_set_self (by rw [r.lr]; exact hl)] at h
      cases h
      exact ⟨v, m, List.getElem?_set_self (by rw [r.ls]; exact hl), hm, by rw [put_same]; exact x.rd⟩
    · rw [List.getElem?_set_ne (Ne.symm e)] at h ⊢
      obtain ⟨v', m', h1, h2, h3⟩ := r.sl j d' h
      exact ⟨v', m', h1, h2, by rw [put_ne e]; exact h3⟩
  nd := fun j => by
    by_cases e : j = i
    · subst e; rw [put_same]; exact x.nd
    · rw [put_ne e]; exact r.nd j
  dj := fun j k a hj hk => by
    by_cases e : j = i
    · subst e
      rw [put_same] at hj
      by_cases e2 : k = j
      · exact e2.symm
      · rw [put_ne e2] at hk; exact absurd hk (x.ap a hj k)
    · rw [put_ne e] at hj
      by_cases e2 : k = i
      · subst e2
        rw [put_same] at hk; exact absurd hj (x.ap a hk j)
      · rw [put_ne e2] at hk; exact r.dj j k a hj hk
  un := fun j a h => by
    by_cases e : j = i
    · subst e; rw [put_same] at h; exact x.un a h
    · rw [put_ne e] at h; exact r.un j a h
  sub := r.sub
  bd := fun j a h => by
    by_cases e : j = i
    · subst e; rw [put_same] at h; exact x.rd.bound a h
    · rw [put_ne e] at h; exact r.bd j a h
  tp := r.tp
  fz := r.fz
  he := r.he
  ow := fun j a h => by
    by_cases e : j = i
    · subst e; rw [put_same] at h; exact .inr (hn a h)
    · rw [put_ne e] at h; exact r.ow j a h
  fx := fun j hj => by
    have e : j ≠ i := fun e => by subst e; exact hR hj
    rw [List.getElem?_set_ne (Ne.symm e), List.getElem?_set_ne (Ne.symm e)]
    exact r.fx j hj
theorem Step.put {Hm0 H0 : Hp} {F0 : Fps} (s : Step Hm0 H0 F0 Hm H F) {i : Nat} (hn : ∀ a ∈ g, H0 a = none) : Step Hm0 H0 F0 Hm H (F.put i g) where
  sm := s.sm
  kp := s.kp
  nw := s.nw
  fn := fun j b h => by
    by_cases e : j = i
    · subst e; rw [put_same] at h; exact .inr (hn b h)
    · rw [put_ne e] at h; exact s.fn j b h
  dm := s.dm
/-- an own list is rewritten: its items are given anew (the own objects among them are old ones of its, or new) -/
theorem Rel.rew (r : Rel K C Hm H F σ ρ) {i : Nat} {a : Addr} {o : HO} {g : List Addr} (hm : C.Γ[i]? = some m) (hv : σ[i]? = some (some v)) (ha : a ∈ F i) (hx : RdM K Hm (upd H a o) m v d g)
    (nd : g.Nodup) (un : ∀ b ∈ g, Hm b = none) (ap : ∀ b ∈ g, ∀ j, j ≠ i → b ∉ F j) (hn : ∀ b ∈ g, b ∈ F i ∨ C.He b = none) (ht : ∀ xs, o ≠ .tup xs) (hf : ∀ ob u, o ≠ .frz ob u) : Rel K C Hm (upd H a o) (F.put i g) σ (ρ.set i (some d)) where
  ls := r.ls
  lr := by rw [List.length_set]; exact r.lr
  sl := fun j d' h => by
    by_cases e : j = i
    · subst e
      have hl : j < C.Γ.length := (List.getElem?_eq_some_iff.mp hm).1
      rw [List.getElem?_set_self (by rw [r.lr]; exact hl)] at h
      cases h
      exact ⟨_, m, hv, hm, by rw [put_same]; exact hx⟩
    · rw [List.getElem?_set_ne (Ne.symm e)] at h
      obtain ⟨v', m', h1, h2, h3⟩ := r.sl j d' h
      refine ⟨v', m', h1, h2, ?_⟩
      rw [put_ne e]
      refine h3.step (Same.refl _) fun b hb o' ho => ?_
      have hne : b ≠ a := fun z => by subst z; exact e (r.dj j i b hb ha)
      rw [upd_ne hne]
      exact ho
  nd := fun j => by
    by_cases e : j = i
    · subst e; rw [put_same]; exact nd
    · rw [put_ne e]; exact r.nd j
  dj := fun j k b hj hk => by
    by_cases e : j = i
    · subst e
      rw [put_same] at hj
      by_cases e2 : k = j
      · exact e2.symm
      · rw [put_ne e2] at hk; exact absurd hk (ap b hj k e2)
    · rw [put_ne e] at hj
      by_cases e2 : k = i
      · subst e2
        rw [put_same] at hk; exact absurd hj (ap b hk j e)
      · rw [put_ne e2] at hk; exact r.dj j k b hj hk
  un := fun j b h => by
    by_cases e : j = i
    · subst e; rw [put_same] at h; exact un b h
    · rw [put_ne e] at h; exact r.un j b h
  sub := fun b x e => by
    have : b ≠ a := fun z => by subst z; rw [r.un i b ha] at e; cases e
    rw [upd_ne this]
    exact r.sub b x e
  bd := fun j b h => by
    by_cases e : j = i
    · subst e; rw [put_same] at h; exact hx.bound b h
    · rw [put_ne e] at h
      obtain ⟨x, q⟩ := r.bd j b h
      by_cases z : b = a
      · exact ⟨o, by rw [z]; exact upd_same⟩
      · exact ⟨x, by rw [upd_ne z]; exact q⟩
  tp := fun b xs e => by
    by_cases z : b = a
    · subst z; rw [upd_same] at e; cases e; exact absurd rfl (ht _)
    · rw [upd_ne z] at e; exact r.tp b xs e
  fz := fun b ob u e => by
    by_cases z : b = a
    · subst z; rw [upd_same] at e; cases e; exact absurd rfl (hf _ _)
    · rw [upd_ne z] at e; exact r.fz b ob u e
  he := fun b e => by
    by_cases z : b = a
    · subst z; rw [upd_same] at e; cases e
    · rw [upd_ne z] at e; exact r.he b e
  ow := fun j b h => by
    by_cases e : j = i
    · subst e
      rw [put_same] at h
      rcases hn b h with q | q
      · exact r.ow j b q
      · exact .inr q
    · rw [put_ne e] at h; exact r.ow j b h
  fx := fun j hj => by
    obtain ⟨h1, d', h2⟩ := r.fx j hj
    refine ⟨h1, ?_⟩
    by_cases e : j = i
    · subst e
      have hl : j < C.Γ.length := (List.getElem?_eq_some_iff.mp hm).1
      exact ⟨d, List.getElem?_set_self (by rw [r.lr]; exact hl)⟩
    · exact ⟨d', by rw [List.getElem?_set_ne (Ne.symm e)]; exact h2⟩
theorem Step.rew {Hm0 H0 : Hp} {F0 : Fps} (s : Step Hm0 H0 F0 Hm H F) {i : Nat} {a : Addr} {o : HO} {g : List Addr} (ha : a ∈ F i) (hb : ∃ x, H a = some x) (hn : ∀ b ∈ g, b ∈ F i ∨ H0 b = none) : Step Hm0 H0 F0 Hm (upd H a o) (F.put i g) where
  sm := s.sm
  kp := fun b x e hf => by
    have h1 := s.kp b x e hf
    have : b ≠ a := fun z => by
      subst z
      rcases s.fn i b ha with ⟨j, q⟩ | q
      · exact hf j q
      · rw [e] at q; cases q
    rw [upd_ne this]
    exact h1
  nw := s.nw
  fn := fun j b h => by
    by_cases e : j = i
    · subst e
      rw [put_same] at h
      rcases hn b h with q | q
      · exact s.fn j b q
      · exact .inr q
    · rw [put_ne e] at h; exact s.fn j b h
  dm := fun b e => by
    by_cases z : b = a
    · subst z; rw [upd_same] at e; cases e
    · rw [upd_ne z] at e; exact s.dm b e
end

section
variable {X : Cx} {C : Ct} {rm κ : Md} {st : Stmt} {rest : List Stmt} {e : Expr} {f g : SF} {fe fk : EF} {t : TF} {pos : Pos}
theorem vb_nil : VB X C rm [] sNext := PSs.mono pss_nil fun D σ H ⟨Hm, F, ρ, r, q⟩ => q Hm H F σ .refl r
theorem vb_cons (h1 : VS X C rm st f) (h2 : VB X C rm rest g) : VB X C rm (st :: rest) (sSeq f g) := by
  refine PSs.mono (pss_cons h1 h2) fun D σ H ⟨Hm, F, ρ, r, q⟩ => ⟨Hm, F, ρ, r, q.bind.imp fun p hq => ?_⟩
  obtain ⟨fl, ρ'⟩ := p
  cases fl with
  | next => exact fun Hm' H' F' σ' s r' => ⟨Hm', F', ρ', r', (hq.step s).imp fun p2 hp => hp.step s⟩
  | brk => exact hq
  | cont => exact hq
  | ret v => exact hq
theorem vb_one (h1 : VS X C rm st f) : VB X C rm [st] f := pss_one h1
theorem vs_pass : VS X C rm (.Pass pos) sNext := PS.mono ps_pass fun D σ H ⟨Hm, F, ρ, r, q⟩ => q Hm H F σ .refl r
theorem vs_brk : VS X C rm (.Break pos) sBrk := PS.mono ps_break fun D σ H ⟨Hm, F, ρ, r, q⟩ => q Hm H F σ .refl r
theorem vs_cont : VS X C rm (.Continue pos) sCont := PS.mono ps_continue fun D σ H ⟨Hm, F, ρ, r, q⟩ => q Hm H F σ .refl r
theorem vs_drop (h : VE X C κ e fe) (hs : swapsWith e none pos.line X.env = pure false := by rfl) : VS X C rm (.Expr e pos) (sDrop fe) :=
  PS.mono (ps_expr h hs) fun D σ H ⟨Hm, F, ρ, r, q⟩ => ⟨Hm, F, ρ, r, q.bind.imp fun p hq v Hm1 H1 F1 g1 s1 r1 x1 => hq Hm1 H1 F1 σ s1 r1⟩
theorem vs_ret (h : VE X C rm e fe) : VS X C rm (.Return (some e) pos) (sRet fe) :=
  PS.mono (ps_ret h) fun D σ H ⟨Hm, F, ρ, r, q⟩ => ⟨Hm, F, ρ, r, q.bind.imp fun p hq v Hm1 H1 F1 g1 s1 r1 x1 => hq v Hm1 H1 F1 σ g1 s1 r1 ⟨x1.rd, x1.nd, x1.un, fun a ha i hi => (by
    split at hi
    · exact x1.ap a ha i hi
    · cases hi), fun a ha => r.he a (x1.nw a ha)⟩⟩
/-- an own name is handed back -/
theorem vs_retOwn {i : Nat} {x : Str} {p : Pos} (hm : C.Γ[i]? = some rm := by rfl) (hR : i ∉ C.R := by exact notIn_of rfl) (hN : X.N[i]? = some x := by rfl) (hv : Vis X.env.scope x := by first | exact Or.inl rfl | exact Or.inr (Or.inl rfl) | exact Or.inr (Or.inr rfl))
    (hd : (x == ("__debug__" : Str)) = false := by decide) (hcd : (x == ("__classdict__" : Str)) = false := by decide) : VS X C rm (.Return (some (.Name x p)) pos) (sRet (eName i)) := by
  refine PS.mono (ps_ret (pe_var hN hv hd hcd)) fun D σ H ⟨Hm, F, ρ, r, q⟩ => ?_
  have q := q.bind
  unfold eName at q
  split at q
  · rename_i d e
    obtain ⟨v, m, h1, h2, h3⟩ := r.sl i d e
    rw [hm] at h2
    cases h2
    refine ⟨v, h1, q v Hm H F σ (F i) .refl r ⟨h3, r.nd i, r.un i, fun a ha j hj => ?_, fun a ha => ?_⟩⟩
    · split at hj
      · rename_i hjR
        have := r.dj i j a ha hj
        subst this
        exact hR hjR
      · cases hj
    · rcases r.ow i a ha with z | z
      · exact absurd z hR
      · exact z
  · exact q.elim
theorem vs_retN : VS X C .im (.Return none pos) sRetN := PS.mono ps_retN fun D σ H ⟨Hm, F, ρ, r, q⟩ => q .non Hm H F σ [] .refl r ⟨⟨.non, rfl⟩, List.nodup_nil, (fun _ z => by cases z), (fun _ z => by cases z), (fun _ z => by cases z)⟩
theorem vs_if {c : Expr} {a b : List Stmt} (hc : VT X C c t) (ha : VB X C rm a f) (hb : VB X C rm b g) : VS X C rm (.If c a b pos) (sIf t f g) := by
  refine PS.mono (ps_if hc ha hb) fun D σ H ⟨Hm, F, ρ, r, q⟩ => ⟨Hm, F, ρ, r, q.bind.imp fun p hq Hm1 H1 F1 s1 r1 => ?_⟩
  obtain ⟨c, ρ'⟩ := p
  have cont : ∀ {ff : SF}, fin X.K C Hm H F (ff ρ') (OkS X.K C rm Hm H F D) → tS X.K C rm ff D σ H1 := fun {ff} hq => ⟨Hm1, F1, ρ', r1, (hq.step s1).imp fun p2 hp => hp.step s1⟩
  cases c with
  | true => exact iteT (cont hq)
  | false => exact iteF (cont hq)
theorem vs_set {i : Nat} {x : Str} {pos' : Pos} (h : VE X C κ e fe) (hm : C.Γ[i]? = some κ := by rfl) (hR : i ∉ C.R := by exact notIn_of rfl) (hN : X.N.Nodup := by first | assumption | decide) (hi : X.N[i]? = some x := by rfl)
    (hx : Loc X.env.scope x := by first | exact Or.inl rfl | exact Or.inr rfl) (hs : swapsWith e (some (.Name x pos')) pos.line X.env = pure false := by rfl) (hf : X.fn x = true ∨ X.env.scope.names.lookup x = some .local := by first | exact .inl rfl | exact .inr rfl | assumption) :
    VS X C rm (.Assign [.Name x pos'] e pos) (sSet i fe) := by
  refine PS.mono (ps_set hN hi hx h hs hf) fun D σ H ⟨Hm, F, ρ, r, q⟩ => ⟨Hm, F, ρ, r, q.bind.imp fun p hq v Hm1 H1 F1 g1 s1 r1 x1 => ?_⟩
  exact hq Hm1 H1 _ _ (s1.put x1.nw) (r1.set x1 hm hR fun a ha => r.he a (x1.nw a ha))
theorem vs_aug {i : Nat} {x : Str} {op : Operator} {ti : TIp} {g : D → D → Option D} {pos' : Pos} (h : VE X C .im e fe) (ho : PIp X op ti) (hp : Prim2 X.K ti g .im) (hm : C.Γ[i]? = some .im := by rfl) (hR : i ∉ C.R := by exact notIn_of rfl) (hN : X.N.Nodup := by first | assumption | decide) (hi : X.N[i]? = some x := by rfl)
    (hx : Loc X.env.scope x := by first | exact Or.inl rfl | exact Or.inr rfl) (hf : X.fn x = true ∨ X.env.scope.names.lookup x = some .local := by first | exact .inl rfl | exact .inr rfl | assumption) :
    VS X C rm (.AugAssign (.Name x pos') op e pos) (sAug i g fe) := by
  refine PS.mono (ps_aug hN hi hx h ho hf) fun D σ H ⟨Hm, F, ρ, r, q⟩ => ?_
  unfold sAug at q
  split at q
  · rename_i d ed
    obtain ⟨v, h1, h2⟩ := r.atIm ed hm
    refine ⟨v, h1, Hm, F, ρ, r, q.bind.imp fun p hq w Hm1 H1 F1 g1 s1 r1 x1 => ?_⟩
    obtain ⟨z, ez, hz⟩ := hq.bind.of
    refine hp Hm1 H1 v w d p.1 z _ r1.sub (Dt.mono s1.sm _ h2) x1.of_im ez fun u G' H' f gr rs => ?_
    obtain ⟨r2, s2⟩ := r1.grow gr
    have hu : Val X.K H1 G' H' F1 .im u z f := ⟨rs.rd, rs.nd, rs.un, fun a ha i hi => (by rw [rs.rd.2] at ha; cases ha), rs.nw⟩
    exact hz G' H' _ _ ((s1.trans s2).put fun a ha => (by rw [rs.rd.2] at ha; cases ha)) (r2.set hu hm hR fun a ha => (by rw [rs.rd.2] at ha; cases ha))
  · exact q.elim
end
end VL

set_option Elab.async false
set_option linter.all false
set_option maxRecDepth 100000
set_option maxHeartbeats 4000000
/-! V4: the promise of a def, its proof from the body, its call. -/
namespace VL
open PySem PySem.Spec PyProof.Rows L2

section
variable (K : PySem.W.Frag) (Hm H : Hp)
inductive ArgsOk : List Pm → List V → List D → List Addr → Prop
  | nil : ArgsOk [] [] [] []
  | im {ms : List Pm} {vs : List V} {ds : List D} {as : List Addr} {v : V} {d : D} : Dt K Hm v d → ArgsOk ms vs ds as → ArgsOk (.im :: ms) (v :: vs) (d :: ds) as
  | rf {ms : List Pm} {vs : List V} {ds : List D} {as : List Addr} {a : Addr} {d : D} : RdM K Hm H (.ow .im) (.ref a) d [a] → Hm a = none → a ∉ as → ArgsOk ms vs ds as → ArgsOk (.rf :: ms) (.ref a :: vs) (d :: ds) (a :: as)
inductive RefsOk : List Addr → List D → Prop
  | nil : RefsOk [] []
  | cons {as : List Addr} {ds : List D} {a : Addr} {d : D} : RdM K Hm H (.ow .im) (.ref a) d [a] → Hm a = none → RefsOk as ds → RefsOk (a :: as) (d :: ds)
end
/-- the heap behind a call, and what the callee has changed -/
structure Back (K : PySem.W.Frag) (Hm H : Hp) (as : List Addr) (Hm' H' : Hp) (rs : List D) : Prop where
  st : Step Hm H (fun _ => as) Hm' H' (fun _ => as)
  sub : Same Hm' H'
  tp : ∀ b xs, H' b = some (.tup xs) → Hm' b = some (.tup xs)
  fz : ∀ b o u, H' b = some (.frz o u) → Hm' b = some (.frz o u)
  rf : RefsOk K Hm' H' as rs
/-- what is wanted of an error -/
abbrev EW := Ex → XK → Hp → Prop
/-- no error leaves -/
def EW0 : EW := fun _ _ _ => False
def spV (Ek : EW) (K : PySem.W.Frag) (ms : List Pm) (rm : Md) (f : FF) : Sp := fun vs H Q E => ∃ Hm ds as, Same Hm H ∧ (∀ b xs, H b = some (.tup xs) → Hm b = some (.tup xs)) ∧ (∀ b o u, H b = some (.frz o u) → Hm b = some (.frz o u)) ∧
  ArgsOk K Hm H ms vs ds as ∧ match f ds with
  | .ok r => ∀ v Hm' H' g, Back K Hm H as Hm' H' r.2 → Val K H Hm' H' (fun _ => as) rm v r.1 g → Q v H'
  | .err x _ => ∀ Hm' H' rs, Back K Hm H as Hm' H' rs → Ek x E H'
  | .bad => False

section
variable {K : PySem.W.Frag} {Hm H : Hp} {ms : List Pm} {vs : List V} {ds : List D} {as : List Addr}
theorem ArgsOk.lenV (x : ArgsOk K Hm H ms vs ds as) : vs.length = ms.length := by
  induction x with
  | nil => rfl
  | im _ _ ih => rw [List.length_cons, List.length_cons, ih]
  | rf _ _ _ _ ih => rw [List.length_cons, List.length_cons, ih]
theorem ArgsOk.lenD (x : ArgsOk K Hm H ms vs ds as) : ds.length = ms.length := by
  induction x with
  | nil => rfl
  | im _ _ ih => rw [List.length_cons, List.length_cons, ih]
  | rf _ _ _ _ ih => rw [List.length_cons, List.length_cons, ih]
theorem ArgsOk.at (x : ArgsOk K Hm H ms vs ds as) : ∀ {i : Nat} {d : D}, ds[i]? = some d → ∃ v m, vs[i]? = some v ∧ ms[i]? = some m ∧ ((m = .im ∧ Dt K Hm v d) ∨ (m = .rf ∧ ∃ a, a ∈ as ∧ v = .ref a ∧ RdM K Hm H (.ow .im) (.ref a) d [a] ∧ Hm a = none)) := by
  induction x with
  | nil => intro i d h; simp at h
  | im h _ ih =>
    intro i d e
    cases i with
    | zero => simp at e; subst e; exact ⟨_, _, rfl, rfl, .inl ⟨rfl, h⟩⟩
    | succ i =>
      obtain ⟨v, m, h1, h2, h3⟩ := ih (i := i) (d := d) (by simpa using e)
      exact ⟨v, m, by simpa using h1, by simpa using h2, h3⟩
  | rf h hm hn _ ih =>
    intro i d e
    cases i with
    | zero => simp at e; subst e; exact ⟨_, _, rfl, rfl, .inr ⟨rfl, _, List.mem_cons_self, rfl, h, hm⟩⟩
    | succ i =>
      obtain ⟨v, m, h1, h2, h3⟩ := ih (i := i) (d := d) (by simpa using e)
      refine ⟨v, m, by simpa using h1, by simpa using h2, ?_⟩
      rcases h3 with h3 | ⟨q, a, ha, r⟩
      · exact .inl h3
      · exact .inr ⟨q, a, List.mem_cons_of_mem _ ha, r⟩
theorem ArgsOk.mem (x : ArgsOk K Hm H ms vs ds as) : ∀ {b : Addr}, b ∈ as → ∃ i : Nat, ms[i]? = some Pm.rf ∧ vs[i]? = some (V.ref b) := by
  induction x with
  | nil => intro b h; cases h
  | im h _ ih =>
    intro b hb
    obtain ⟨i, h1, h2⟩ := ih hb
    exact ⟨i + 1, by simpa using h1, by simpa using h2⟩
  | rf h hm hn _ ih =>
    intro b hb
    rcases List.mem_cons.mp hb with rfl | hb
    · exact ⟨0, rfl, rfl⟩
    · obtain ⟨i, h1, h2⟩ := ih hb
      exact ⟨i + 1, by simpa using h1, by simpa using h2⟩
theorem ArgsOk.rfm (x : ArgsOk K Hm H ms vs ds as) : ∀ {i : Nat}, ms[i]? = some Pm.rf → ∃ a, a ∈ as ∧ vs[i]? = some (V.ref a) := by
  induction x with
  | nil => intro i h; simp at h
  | im h _ ih =>
    intro i hi
    cases i with
    | zero => simp at hi
    | succ i =>
      obtain ⟨a, h1, h2⟩ := ih (i := i) (by simpa using hi)
      exact ⟨a, h1, by simpa using h2⟩
  | rf h hm hn _ ih =>
    intro i hi
    cases i with
    | zero => exact ⟨_, List.mem_cons_self, rfl⟩
    | succ i =>
      obtain ⟨a, h1, h2⟩ := ih (i := i) (by simpa using hi)
      exact ⟨a, List.mem_cons_of_mem _ h1, by simpa using h2⟩
theorem ArgsOk.dj (x : ArgsOk K Hm H ms vs ds as) : ∀ {i j : Nat} {a : Addr}, ms[i]? = some Pm.rf → ms[j]? = some Pm.rf → vs[i]? = some (V.ref a) → vs[j]? = some (V.ref a) → i = j := by
  induction x with
  | nil => intro i j a h; simp at h
  | im h _ ih =>
    intro i j a h1 h2 h3 h4
    cases i with
    | zero => simp at h1
    | succ i =>
      cases j with
      | zero => simp at h2
      | succ j => rw [ih (i := i) (j := j) (a := a) (by simpa using h1) (by simpa using h2) (by simpa using h3) (by simpa using h4)]
  | rf h hm hn t ih =>
    intro i j a h1 h2 h3 h4
    cases i with
    | zero =>
      cases j with
      | zero => rfl
      | succ j =>
        simp at h3
        obtain ⟨a', ha', e'⟩ := t.rfm (i := j) (by simpa using h2)
        have h4 := (show _ = _ by simpa using h4).symm.trans e'
        cases h4
        subst h3
        exact absurd ha' hn
    | succ i =>
      cases j with
      | zero =>
        simp at h4
        obtain ⟨a', ha', e'⟩ := t.rfm (i := i) (by simpa using h1)
        have h3 := (show _ = _ by simpa using h3).symm.trans e'
        cases h3
        subst h4
        exact absurd ha' hn
      | succ j => rw [ih (i := i) (j := j) (a := a) (by simpa using h1) (by simpa using h2) (by simpa using h3) (by simpa using h4)]
theorem RdM.own1 {v : V} {d : D} {f : List Addr} (h : RdM K Hm H (.ow .im) v d f) : ∃ a, v = .ref a ∧ f = [a] := by
  obtain ⟨a, hv, h⟩ := h
  rcases h with ⟨xs, ds, g, _, _, hall, rfl⟩ | ⟨kvs, kds, g, _, _, hall, rfl⟩ | ⟨_, _, _, _, _, hk, _⟩
  · exact ⟨a, hv, by rw [(all_im hall).2]⟩
  · exact ⟨a, hv, by rw [(allk_im hall).2]⟩
  · exact absurd rfl hk
theorem refs_of {Hm' H' : Hp} (x : ArgsOk K Hm H ms vs ds as) : ∀ {ρ : En} {rs : List D}, refsOf ms ρ = some rs →
    (∀ (i : Nat) a d, ms[i]? = some Pm.rf → vs[i]? = some (V.ref a) → ρ[i]? = some (some d) → RdM K Hm' H' (.ow .im) (.ref a) d [a] ∧ Hm' a = none) → RefsOk K Hm' H' as rs := by
  induction x with
  | nil => intro ρ rs e _; cases e; exact .nil
  | im h _ ih =>
    intro ρ rs e k
    refine ih (ρ := ρ.tail) e fun i a d h1 h2 h3 => k (i + 1) a d (by simpa using h1) (by simpa using h2) ?_
    cases ρ with
    | nil => simp at h3
    | cons y ρ => simpa using h3
  | rf h hm hn _ ih =>
    intro ρ rs e k
    unfold refsOf at e
    split at e
    · rename_i d hd
      cases ρ with
      | nil => simp at hd
      | cons y ρ =>
        simp at hd
        subst hd
        obtain ⟨r, hr, e⟩ := Option.map_eq_some_iff.mp e
        cases e
        obtain ⟨q1, q2⟩ := k 0 _ d rfl rfl rfl
        exact .cons q1 q2 (ih (ρ := ρ) hr fun i a d h1 h2 h3 => k (i + 1) a d (by simpa using h1) (by simpa using h2) (by simpa using h3))
    · cases e
end

/-! ### the start -/
def refIx : List Pm → List Nat
  | [] => []
  | .im :: ms => (refIx ms).map (· + 1)
  | .rf :: ms => 0 :: (refIx ms).map (· + 1)
theorem mem_refIx : ∀ {ms : List Pm} {i : Nat}, i ∈ refIx ms ↔ ms[i]? = some .rf
  | [], i => by simp [refIx]
  | .im :: ms, 0 => by simp [refIx]
  | .im :: ms, i + 1 => by simp [refIx, mem_refIx (ms := ms) (i := i)]
  | .rf :: ms, 0 => by simp [refIx]
  | .rf :: ms, i + 1 => by simp [refIx, mem_refIx (ms := ms) (i := i)]
def argF (ms : List Pm) (vs : List V) : Fps := fun i => match ms[i]?, vs[i]? with
  | some .rf, some (.ref a) => [a]
  | _, _ => []
theorem mem_argF {ms : List Pm} {vs : List V} {i : Nat} {b : Addr} (h : b ∈ argF ms vs i) : ms[i]? = some .rf ∧ vs[i]? = some (.ref b) := by
  unfold argF at h
  split at h
  · rename_i a h1 h2
    rw [List.mem_singleton.mp h]
    exact ⟨h1, h2⟩
  · cases h
/-- the modes of the slots fit the parameters -/
def modesOk : List Pm → List Md → Bool
  | [], _ => true
  | .im :: ms, .im :: Γ => modesOk ms Γ
  | .rf :: ms, .ow .im :: Γ => modesOk ms Γ
  | _, _ => false
theorem modes_at : ∀ {ms : List Pm} {Γ : List Md} {i : Nat} {m : Pm}, modesOk ms Γ = true → ms[i]? = some m → Γ[i]? = some (match m with | .im => .im | .rf => .ow .im)
  | [], _, _, _, _, h => by simp at h
  | .im :: ms, .im :: Γ, 0, m, h, e => by simp at e; subst e; rfl
  | .im :: ms, .im :: Γ, i + 1, m, h, e => by
    have := modes_at (ms := ms) (Γ := Γ) (i := i) (m := m) h (by simpa using e)
    simpa using this
  | .rf :: ms, .ow .im :: Γ, 0, m, h, e => by simp at e; subst e; rfl
  | .rf :: ms, .ow .im :: Γ, i + 1, m, h, e => by
    have := modes_at (ms := ms) (Γ := Γ) (i := i) (m := m) h (by simpa using e)
    simpa using this
  | .im :: ms, [], _, _, h, _ => by simp [modesOk] at h
  | .rf :: ms, [], _, _, h, _ => by simp [modesOk] at h
  | .im :: ms, .ow _ :: Γ, _, _, h, _ => by simp [modesOk] at h
  | .rf :: ms, .im :: Γ, _, _, h, _ => by simp [modesOk] at h
  | .rf :: ms, .ow (.ow _) :: Γ, _, _, h, _ => by simp [modesOk] at h
theorem start_get {α : Type} {vs : List α} {n i : Nat} {v : α} (h : (vs.map some ++ List.replicate n none)[i]? = some (some v)) : vs[i]? = some v := by
  by_cases hi : i < vs.length
  · rw [List.getElem?_append_left (by simpa using hi), List.getElem?_map] at h
    cases e : vs[i]? with
    | none => rw [e] at h; cases h
    | some a => rw [e] at h; cases h; rfl
  · rw [List.getElem?_append_right (by simpa using hi), List.getElem?_replicate] at h
    split at h <;> cases h
theorem start_put {α : Type} {vs : List α} {n i : Nat} {v : α} (h : vs[i]? = some v) : (vs.map some ++ List.replicate n none)[i]? = some (some v) := by
  have hi : i < vs.length := (List.getElem?_eq_some_iff.mp h).1
  rw [List.getElem?_append_left (by simpa using hi), List.getElem?_map, h]
  rfl
section
variable {K : PySem.W.Frag} {Hm H : Hp} {ms : List Pm} {vs : List V} {ds : List D} {as : List Addr}
theorem rel_start {Γ : List Md} {N : List Str} {W : Ex → En → L2.St → Hp → Prop} (x : ArgsOk K Hm H ms vs ds as) (sub : Same Hm H) (tp : ∀ b xs, H b = some (.tup xs) → Hm b = some (.tup xs)) (fz : ∀ b o u, H b = some (.frz o u) → Hm b = some (.frz o u))
    (hΓ : Γ.length = N.length) (hl : ms.length ≤ N.length) (hm : modesOk ms Γ = true) :
    Rel K ⟨Γ, refIx ms, L2.start N vs, H, W⟩ Hm H (argF ms vs) (L2.start N vs) (ds.map some ++ List.replicate (N.length - ds.length) none) where
  ls := by
    have := x.lenV
    unfold L2.start
    rw [List.length_append, List.length_map, List.length_replicate]
    show _ = Γ.length
    omega
  lr := by
    have := x.lenD
    rw [List.length_append, List.length_map, List.length_replicate]
    show _ = Γ.length
    omega
  sl := fun i d h => by
    have h := start_get h
    obtain ⟨v, m, h1, h2, h3⟩ := x.at h
    refine ⟨v, _, start_put h1, modes_at hm h2, ?_⟩
    rcases h3 with ⟨rfl, h3⟩ | ⟨rfl, a, ha, rfl, h3, h4⟩
    · refine ⟨h3, ?_⟩
      unfold argF
      rw [h2]
    · have e : argF ms vs i = [a] := by unfold argF; rw [h2, h1]
      rw [e]
      exact h3
  nd := fun i => by
    unfold argF
    split
    · simp
    · exact List.nodup_nil
  dj := fun i j a hi hj => by
    obtain ⟨h1, h2⟩ := mem_argF hi
    obtain ⟨h3, h4⟩ := mem_argF hj
    exact x.dj h1 h3 h2 h4
  un := fun i a hi => by
    obtain ⟨h1, h2⟩ := mem_argF hi
    have hi : i < ds.length := by rw [x.lenD]; exact (List.getElem?_eq_some_iff.mp h1).1
    obtain ⟨v, m, h3, h4, h5⟩ := x.at (List.getElem?_eq_getElem hi)
    rw [h1] at h4
    cases h4
    rcases h5 with ⟨z, _⟩ | ⟨_, a', _, e, _, h6⟩
    · cases z
    · rw [h2] at h3; cases h3; cases e; exact h6
  sub := sub
  bd := fun i a hi => by
    obtain ⟨h1, h2⟩ := mem_argF hi
    have hi : i < ds.length := by rw [x.lenD]; exact (List.getElem?_eq_some_iff.mp h1).1
    obtain ⟨v, m, h3, h4, h5⟩ := x.at (List.getElem?_eq_getElem hi)
    rw [h1] at h4
    cases h4
    rcases h5 with ⟨z, _⟩ | ⟨_, a', _, e, h6, _⟩
    · cases z
    · rw [h2] at h3; cases h3; cases e; exact h6.bound a List.mem_cons_self
  tp := tp
  fz := fz
  he := fun _ h => h
  ow := fun i a hi => .inl (mem_refIx.mpr (mem_argF hi).1)
  fx := fun i hi => by
    have hi := mem_refIx.mp hi
    refine ⟨rfl, ?_⟩
    have hl : i < ds.length := by rw [x.lenD]; exact (List.getElem?_eq_some_iff.mp hi).1
    exact ⟨_, start_put (List.getElem?_eq_getElem hl)⟩
end

/-! ### a def keeps its promise -/
section
variable {P : Program} {w : World} {K : PySem.W.Frag} {mg : Str → Option Value} {base : Heap} {cl : Str → Value}
theorem argF_as {Hm H : Hp} {ms : List Pm} {vs : List V} {ds : List D} {as : List Addr} (x : ArgsOk K Hm H ms vs ds as) {i : Nat} {b : Addr} (hi : b ∈ argF ms vs i) : b ∈ as := by
  obtain ⟨h1, h2⟩ := mem_argF hi
  obtain ⟨a, ha, h3⟩ := x.rfm h1
  rw [h2] at h3
  cases h3
  exact ha
/-- the end of a body: what the caller gets -/
theorem back_of {Hm H : Hp} {ms : List Pm} {vs : List V} {ds : List D} {as : List Addr} {Γ : List Md} {N : List Str} {W : Ex → En → L2.St → Hp → Prop} {Hm' H' : Hp} {F' : Fps} {σ' : L2.St} {ρ' : En} {rs : List D}
    (x : ArgsOk K Hm H ms vs ds as) (hm : modesOk ms Γ = true) (s : Step Hm H (argF ms vs) Hm' H' F') (r : Rel K ⟨Γ, refIx ms, L2.start N vs, H, W⟩ Hm' H' F' σ' ρ') (e : refsOf ms ρ' = some rs) :
    Back K Hm H as Hm' H' rs ∧ ∀ a ∈ as, ∃ i ∈ refIx ms, a ∈ F' i := by
  have key : ∀ i a d, ms[i]? = some .rf → vs[i]? = some (.ref a) → ρ'[i]? = some (some d) → RdM K Hm' H' (.ow .im) (.ref a) d [a] ∧ Hm' a = none ∧ F' i = [a] := fun i a d h1 h2 h3 => by
    obtain ⟨v, m, h4, h5, h6⟩ := r.sl i d h3
    have h7 := (r.fx i (mem_refIx.mpr h1)).1
    have h8 : (L2.start N vs)[i]? = some (some (.ref a)) := start_put h2
    rw [h4, h8] at h7
    cases h7
    have h9 := modes_at hm h1
    rw [show (Ct.mk Γ (refIx ms) (L2.start N vs) H W).Γ[i]? = Γ[i]? from rfl, h9] at h5
    cases h5
    obtain ⟨a', e1, e2⟩ := h6.own1
    cases e1
    rw [e2] at h6
    refine ⟨h6, r.un i a (by rw [e2]; exact List.mem_cons_self), e2⟩
  refine ⟨⟨⟨s.sm, fun b o h hb => s.kp b o h fun i hi => ?_, fun b o h => (s.nw b o h).imp id fun z => z.imp (fun ⟨i, hi⟩ => ⟨0, argF_as x hi⟩) id, fun i b h => .inl ⟨i, h⟩, s.dm⟩, r.sub, r.tp, r.fz, refs_of x e fun i a d h1 h2 h3 => ⟨(key i a d h1 h2 h3).1, (key i a d h1 h2 h3).2.1⟩⟩, fun a ha => ?_⟩
  · obtain ⟨h1, h2⟩ := mem_argF hi
    obtain ⟨a, ha, h3⟩ := x.rfm h1
    rw [h2] at h3
    cases h3
    exact hb 0 ha
  · obtain ⟨i, h1, h2⟩ := x.mem ha
    obtain ⟨_, d, hd⟩ := r.fx i (mem_refIx.mpr h1)
    exact ⟨i, mem_refIx.mpr h1, by rw [(key i a d h1 h2 hd).2.2]; exact List.mem_cons_self⟩
theorem refs_some : ∀ {ms : List Pm} {ρ : En}, (∀ i ∈ refIx ms, ∃ d, ρ[i]? = some (some d)) → ∃ rs, refsOf ms ρ = some rs
  | [], _, _ => ⟨[], rfl⟩
  | .im :: ms, ρ, h => refs_some (ms := ms) (ρ := ρ.tail) fun i hi => by
    obtain ⟨d, e⟩ := h (i + 1) (mem_refIx.mpr (by simpa using mem_refIx.mp hi))
    refine ⟨d, ?_⟩
    cases ρ with
    | nil => simp at e
    | cons y ρ => simpa using e
  | .rf :: ms, ρ, h => by
    obtain ⟨d, e⟩ := h 0 (mem_refIx.mpr rfl)
    obtain ⟨rs, er⟩ := refs_some (ms := ms) (ρ := ρ.tail) fun i hi => by
      obtain ⟨d, e⟩ := h (i + 1) (mem_refIx.mpr (by simpa using mem_refIx.mp hi))
      refine ⟨d, ?_⟩
      cases ρ with
      | nil => simp at e
      | cons y ρ => simpa using e
    cases ρ with
    | nil => simp at e
    | cons y ρ =>
      simp at e
      subst e
      refine ⟨d :: rs, ?_⟩
      have er : refsOf ms ρ = some rs := er
      show (refsOf ms ρ).map (d :: ·) = some (d :: rs)
      rw [er]
      rfl
theorem body_red {N : List Str} {ms : List Pm} {rm : Md} {Γ : List Md} {body : SF} {Ek : EW} {vs : List V} {H : Hp} {Q : VK} {E : XK} (hl : ms.length ≤ N.length) (hΓ : Γ.length = N.length) (hm : modesOk ms Γ = true) (hn : rm = .im ∨ ∀ ρ ρ', body ρ ≠ .ok (.next, ρ'))
    (h : spV Ek K ms rm (runF N.length ms body) vs H Q E) : tS K ⟨Γ, refIx ms, L2.start N vs, H, fun x _ _ H' => Ek x E H'⟩ rm body { nx := fun _ H' => Q .non H', rt := Q } (L2.start N vs) H := by
  obtain ⟨Hm, ds, as, sub, tp, fz, ha, h⟩ := h
  refine ⟨Hm, argF ms vs, _, rel_start ha sub tp fz hΓ hl hm, ?_⟩
  unfold runF at h
  cases eb : body (ds.map some ++ List.replicate (N.length - ds.length) none) with
  | bad => rw [eb] at h; exact h.elim
  | err x ρ =>
    rw [eb] at h
    intro Hm' H' F' σ' s' r'
    obtain ⟨rs, er⟩ := refs_some fun i hi => (r'.fx i hi).2
    exact h Hm' H' rs (back_of ha hm s' r' er).1
  | ok p =>
    obtain ⟨fl, ρ'⟩ := p
    rw [eb] at h
    cases fl with
    | next =>
      have h : (match (Rs.of (refsOf ms ρ') >>= fun rs => Rs.ok (D.non, rs) : Rs (D × List D)) with
        | .ok r => ∀ v Hm' H' g, Back K Hm H as Hm' H' r.2 → Val K H Hm' H' (fun _ => as) rm v r.1 g → Q v H'
        | .err x _ => ∀ Hm' H' rs, Back K Hm H as Hm' H' rs → Ek x E H'
        | .bad => False) := h
      cases er : refsOf ms ρ' with
      | none => rw [er] at h; exact h.elim
      | some rs =>
        rw [er] at h
        intro Hm' H' F' σ' s' r'
        obtain ⟨bk, _⟩ := back_of ha hm s' r' er
        rcases hn with rfl | hn
        · exact h .non Hm' H' [] bk (Val.im .non)
        · exact absurd eb (hn _ _)
    | ret d =>
      have h : (match (Rs.of (refsOf ms ρ') >>= fun rs => Rs.ok (d, rs) : Rs (D × List D)) with
        | .ok r => ∀ v Hm' H' g, Back K Hm H as Hm' H' r.2 → Val K H Hm' H' (fun _ => as) rm v r.1 g → Q v H'
        | .err x _ => ∀ Hm' H' rs, Back K Hm H as Hm' H' rs → Ek x E H'
        | .bad => False) := h
      cases er : refsOf ms ρ' with
      | none => rw [er] at h; exact h.elim
      | some rs =>
        rw [er] at h
        intro v Hm' H' F' σ' g s' r' xv
        obtain ⟨bk, hin⟩ := back_of ha hm s' r' er
        refine h v Hm' H' g bk ⟨xv.rd, xv.nd, xv.un, fun a hg i hi => ?_, xv.nw⟩
        obtain ⟨j, hj, hjF⟩ := hin a hi
        exact xv.ap a hg j (by
          show a ∈ (if j ∈ refIx ms then F' j else [])
          rw [if_pos hj]; exact hjF)
    | brk => exact h.elim
    | cont => exact h.elim
/-! ### a promise that may lean on the guards (what repr asks) -/
/-- room, and no repr under way -/
structure RoomG (k : Nat) (A : Around) : Prop where
  rm : Room k A
  gd : A.guards = some []
theorem RoomG.mono {j k : Nat} {A : Around} (r : RoomG k A) (h : j ≤ k) : RoomG j A := ⟨r.rm.mono h, r.gd⟩
structure FnG (P : Program) (w : World) (K : PySem.W.Frag) (mg : Str → Option Value) (base : Heap) (k : Nat) (f : Addr) (fd : FuncData) (ps : List Str) (sp : Sp) : Prop where
  ar : ∀ vs H Q E, sp vs H Q E → vs.length = ps.length
  go : ∀ (A : Around) (outer : List PySem.Env) (s : Shared) (H : Hp) (args : Args) (us : List Value) (vs : List V) (Q : VK) (E : XK), RoomG k A →
    Env0 P w K mg base A outer s H → BindsTo s fd args (ps.zip us) → Vals vs us → sp vs H Q E → codeAny (model P w) A (.call (.ref f) args) (CR CX0 outer P w H s Q E) s
theorem FnG.mono {mg : Str → Option Value} {base : Heap} {j k : Nat} {f : Addr} {fd : FuncData} {ps : List Str} {sp : Sp} (F : FnG P w K mg base j f fd ps sp) (h : j ≤ k) : FnG P w K mg base k f fd ps sp :=
  ⟨F.ar, fun A o s H args us vs Q E hr => F.go A o s H args us vs Q E (hr.mono h)⟩
theorem fn_g {f : Addr} {name qual : Str} {params : Arguments} {body : List Stmt} {scope : Scope} {dV kV doc pm cdv ct oc : Value} {an od : Option Addr}
    {osl : Array (Option Value)} {N ps : List Str} {sp : Sp} {k : Nat} (look : K.lookup f = some ⟨oc, od, .func (PySem.W.fnOf name qual params body scope dV kV doc pm an cdv ct), osl⟩) (code : PySem.W.codeIn K cdv qual = true) (S : FnScope N ps scope)
    (ar : ∀ vs H Q E, sp vs H Q E → vs.length = ps.length)
    (hb : ∀ (A : Around) (outer : List PySem.Env) (s : Shared) (H : Hp) (vs : List V) (Q : VK) (E : XK), RoomG k (A.deeper (envOfC qual scope s.heap.objs.size f cdv)) → sp vs H Q E →
      ∃ t, PSs (cxOf CX0 P w K mg base N qual scope f cdv A outer s H E) body t ∧ t { nx := fun _ H' => Q .non H', rt := Q } (L2.start N vs) H) :
    FnG P w K mg base (k + 1) f (PySem.W.fnOf name qual params body scope dV kV doc pm an cdv ct) ps sp := by
  refine ⟨ar, fun A outer s H args us vs Q E room e0 bnd rel pro => ?_⟩
  have up : ∀ b o, base.get? b = some o → s.heap.get? b = some o := fun b o e => (e0.bs b o e).1
  have kin : K.In s.heap := e0.mod.kin.keeps up
  have kinds : ∀ y ∈ ps.zip us, scope.names.lookup y.1 = some .local ∨ (scope.names.lookup y.1 = some .cell ∧ ((cellsFrom (s.heap.objs.size + 1) scope.names []).lookup y.1).isSome = true) := by
    intro y hy
    rcases S.par y.1 (List.of_mem_zip hy).1 with z | z
    · exact Or.inl z
    · exact Or.inr ⟨z, PySem.W.cellsFrom_some _ _ _ (Or.inl z)⟩
  refine codeAny_call_function room.rm.depth (kin _ _ look) rfl S.co S.gen rfl (PySem.W.codeRec_of kin code) (bnd _ _ _ _ ?_)
  refine wpAny_newFunctionEnv_cells S.kind kinds fun env he s1 x => ?_
  cases he
  refine ⟨(e0.mod.nolimit.keeps up).keeps x.toInCall.keep, codeAny_func ?_⟩
  obtain ⟨t, run, q⟩ := hb A outer s H vs Q E ⟨room.rm.deeper _, room.gd⟩ pro
  have inv0 : Inv (cxOf CX0 P w K mg base N qual scope f cdv A outer s H E) [] (L2.start N vs) H s1 := inv_start S room.rm.hd e0 (ar _ _ _ _ pro) rel x
  refine wpAny_mono (run.run [] s1 (L2.start N vs) H _ inv0 q) (fun fl s' z => ?_) fun e s' z => z
  cases fl with
  | next =>
    obtain ⟨σ', H', J, q⟩ := z
    exact ⟨V.non, H', J.os, J.bare, J.base, J.hok, rfl, q⟩
  | ret u =>
    obtain ⟨v, σ', H', J, rv, q⟩ := z
    exact ⟨v, H', J.os, J.bare, J.base, J.hok, rv, q⟩
  | brk =>
    obtain ⟨_, _, _, q⟩ := z
    exact q.elim
  | cont =>
    obtain ⟨_, _, _, q⟩ := z
    exact q.elim
/-- a def of the top, without defaults -/
abbrev FnT (K : PySem.W.Frag) (x : Str) (st : Stmt) (f : Addr) (fd : FuncData) : Prop := FunD K x x (defArgs st) (defBody st) (defScope st) [] [] f fd
theorem fn_ok0 {x : Str} {st : Stmt} {f : Addr} {fd : FuncData} {N ps : List Str} {k : Nat} {ms : List Pm} {rm : Md} {Γ : List Md} {body : SF} (F : FnT K x st f fd) (S : FnScope N ps (defScope st)) (hms : ms.length = ps.length) (hΓ : Γ.length = N.length) (hm : modesOk ms Γ = true)
    (hn : rm = .im ∨ ∀ ρ ρ', body ρ ≠ .ok (.next, ρ'))
    (hb : ∀ (cdv : Value) (A : Around) (outer : List PySem.Env) (s : Shared) (H : Hp) (vs : List V) (E : XK), RoomG k (A.deeper (envOfC x (defScope st) s.heap.objs.size f cdv)) →
      VB (cxOf CX0 P w K mg base N x (defScope st) f cdv A outer s H E).nox ⟨Γ, refIx ms, L2.start N vs, H, fun x _ _ H' => EW0 x E H'⟩ rm (defBody st) body) :
    FnG P w K mg base (k + 1) f fd ps (spV EW0 K ms rm (runF N.length ms body)) := by
  have hpl : ps.length ≤ N.length := by have := congrArg List.length S.pre; rw [List.length_take] at this; omega
  obtain ⟨oc, od, dV, kV, doc, pm, an, cdv, ct, osl, rfl, lk, hcd, _, _⟩ := F.ex
  refine fn_g lk hcd S (fun vs H Q E h => ?_) (fun A outer s H vs Q E hr h => ⟨_, PSs.nox (hb cdv A outer s H vs E hr), body_red (by omega) hΓ hm hn h⟩)
  obtain ⟨Hm, ds, as, _, _, _, h, _⟩ := h
  rw [h.lenV, hms]
end

/-! ### a call -/
section
variable {X : Cx} {k : Nat} {f : Addr} {fd : FuncData} {ps : List Str} {sp : Sp} {x : Str} {p pos : Pos} {e : Expr} {es : List Expr} {t : TA}
theorem run_g {pins : List (Addr × Obj)} {σ : L2.St} {H : Hp} {s : Shared} {Q : VK} {us : List Value} {vs : List V} (F : FnG X.prog X.w X.K X.mg X.base k f fd ps sp) (hr : RoomG k X.A) (hb : Binds X.K fd ps [])
    (I : Inv X pins σ H s) (r : Vals vs us) (h : sp vs H Q E0) : wpAny (model X.prog X.w) X.A (call (.ref f) us) (EP X pins σ Q) X.xe s := by
  have hl : (us ++ []).length = ps.length := by rw [List.append_nil, ← r.length]; exact F.ar _ _ _ _ h
  have hbs := hb s us I.kIn hl
  rw [List.append_nil] at hbs
  refine wpAny_call (codeAny_mono (F.go X.A X.stack s H _ us vs Q E0 hr I.env0 hbs r h) fun r s' hq => ?_)
  cases r with
  | error e => exact pass0 pins σ H s e s' I hq
  | ok fl =>
    cases fl with
    | ret u => exact I.after hq
    | _ => exact False.elim hq
theorem pe_callG (F : FnG X.prog X.w X.K X.mg X.base k f fd ps sp) (hr : RoomG k X.A) (hg : Gl X x) (hm : X.mg x = some (.ref f)) (hk : PySem.W.keepIn X.K (.ref f) = true) (hb : Binds X.K fd ps [])
    (ha : PA X (e :: es) t) (hdb : (x == ("__debug__" : Str)) = false := by decide) (he : starEach (e :: es) X.env = (false, eval e X.env) :: starEach es X.env := by rfl) (hpl : (backTo pos (starEach es X.env)).any (·.1) = false := by rfl) :
    PE X (.Call (.Name x p) (e :: es) [] pos) (fun σ H Q => t σ H fun vs H1 => sp vs H1 Q E0) :=
  ⟨fun pins s σ H Q I h => wpAny_Call_Name_kw (ld_glob I hg hm (PySem.W.callWith_K (h₀ := X.base) I.ok.mod.kin hk
    (thn (ha.run pos pins s σ H _ I h) fun us s1 ⟨vs, H1, I1, r, q⟩ => ⟨I1.kIn, run_g F hr hb I1 r q⟩) he hpl) hdb)⟩
end
end VL

set_option Elab.async false
set_option linter.all false
set_option maxRecDepth 100000
set_option maxHeartbeats 4000000
/-! V5: calls of defs. -/
namespace VL
open PySem PySem.Spec L2

inductive AgOk (K : PySem.W.Frag) (C : Ct) (Hm : Hp) (σ : St) : List Ag → List V → List Aq → Prop
  | nil : AgOk K C Hm σ [] [] []
  | e {f : EF} {v : V} {d : D} {gs : List Ag} {vs : List V} {qs : List Aq} : Dt K Hm v d → AgOk K C Hm σ gs vs qs → AgOk K C Hm σ (.e f :: gs) (v :: vs) (.e d :: qs)
  | r {i : Nat} {v : V} {gs : List Ag} {vs : List V} {qs : List Aq} : σ[i]? = some (some v) → C.Γ[i]? = some (.ow .im) → AgOk K C Hm σ gs vs qs → AgOk K C Hm σ (.r i :: gs) (v :: vs) (.r i :: qs)
  | n {i : Nat} {v : V} {gs : List Ag} {vs : List V} {qs : List Aq} : σ[i]? = some (some v) → AgOk K C Hm σ gs vs qs → AgOk K C Hm σ (.n i :: gs) (v :: vs) (.n i :: qs)
def tG (K : PySem.W.Frag) (C : Ct) (n : Nat) (gs : List Ag) : TA := fun σ H Q => ∃ Hm F ρ, Rel K C Hm H F σ ρ ∧ fin K C Hm H F (agEval gs ρ) fun p => ∀ vs Hm' H' F', Step Hm H F Hm' H' F' → Rel K C Hm' H' F' σ p.2 → AgOk K C Hm' σ gs vs p.1 → vs.length = n → Q vs H'
abbrev VG (X : Cx) (C : Ct) (es : List Expr) (n : Nat) (gs : List Ag) : Prop := PA X es (tG X.K C n gs)
theorem AgOk.mono {K : PySem.W.Frag} {C : Ct} {Hm Hm' : Hp} {σ : St} {gs : List Ag} {vs : List V} {qs : List Aq} (e : Same Hm Hm') (x : AgOk K C Hm σ gs vs qs) : AgOk K C Hm' σ gs vs qs := by
  induction x with
  | nil => exact .nil
  | e h _ ih => exact .e (Dt.mono e _ h) ih
  | r h1 h2 _ ih => exact .r h1 h2 ih
  | n h1 _ ih => exact .n h1 ih
section
variable {X : Cx} {C : Ct} {e : Expr} {es : List Expr} {n : Nat} {f : EF} {gs : List Ag}
theorem vg_nil : VG X C [] 0 [] := PA.mono pa_nil fun σ H Q ⟨Hm, F, ρ, r, q⟩ => q [] Hm H F .refl r .nil rfl
theorem vg_e (h1 : VE X C .im e f) (h2 : VG X C es n gs) (hs : starEach (e :: es) X.env = (false, eval e X.env) :: starEach es X.env := by rfl) : VG X C (e :: es) (n + 1) (.e f :: gs) := by
  refine PA.mono (pa_cons h1 h2 hs) fun σ H Q ⟨Hm, F, ρ, r, q⟩ => ?_
  refine ⟨Hm, F, ρ, r, q.bind.imp fun p hq v Hm1 H1 F1 g1 s1 r1 x1 => ?_⟩
  refine ⟨Hm1, F1, p.2, r1, (hq.step s1).bind.imp fun p2 hq2 vs Hm2 H2 F2 s2 r2 x2 hn => ?_⟩
  exact hq2 (v :: vs) Hm2 H2 F2 (s1.trans s2) r2 (.e (Dt.mono s2.sm _ x1.of_im) x2) (by rw [List.length_cons, hn])
theorem vg_r {i : Nat} {x : Str} {pos : Pos} (h2 : VG X C es n gs) (hm : C.Γ[i]? = some (.ow .im) := by rfl) (hN : X.N[i]? = some x := by rfl) (hv : Vis X.env.scope x := by first | exact Or.inl rfl | exact Or.inr (Or.inl rfl) | exact Or.inr (Or.inr rfl))
    (hd : (x == ("__debug__" : Str)) = false := by decide) (hcd : (x == ("__classdict__" : Str)) = false := by decide) (hs : starEach ((.Name x pos) :: es) X.env = (false, eval (.Name x pos) X.env) :: starEach es X.env := by rfl) : VG X C ((.Name x pos) :: es) (n + 1) (.r i :: gs) := by
  refine PA.mono (pa_cons (pe_var hN hv hd hcd) h2 hs) fun σ H Q ⟨Hm, F, ρ, r, q⟩ => ?_
  unfold agEval at q
  split at q
  · rename_i d ed
    obtain ⟨v, h1, _⟩ := r.at ed
    refine ⟨v, h1, Hm, F, ρ, r, q.bind.imp fun p hq vs Hm1 H1 F1 s1 r1 x1 hn => ?_⟩
    exact hq (v :: vs) Hm1 H1 F1 s1 r1 (.r h1 hm x1) (by rw [List.length_cons, hn])
  · exact q.elim
theorem vg_n {i : Nat} {x : Str} {pos : Pos} (h2 : VG X C es n gs) (hN : X.N[i]? = some x := by rfl) (hv : Vis X.env.scope x := by first | exact Or.inl rfl | exact Or.inr (Or.inl rfl) | exact Or.inr (Or.inr rfl))
    (hd : (x == ("__debug__" : Str)) = false := by decide) (hcd : (x == ("__classdict__" : Str)) = false := by decide) (hs : starEach ((.Name x pos) :: es) X.env = (false, eval (.Name x pos) X.env) :: starEach es X.env := by rfl) : VG X C ((.Name x pos) :: es) (n + 1) (.n i :: gs) := by
  refine PA.mono (pa_cons (pe_var hN hv hd hcd) h2 hs) fun σ H Q ⟨Hm, F, ρ, r, q⟩ => ?_
  unfold agEval at q
  split at q
  · rename_i d ed
    obtain ⟨v, h1, _⟩ := r.at ed
    refine ⟨v, h1, Hm, F, ρ, r, q.bind.imp fun p hq vs Hm1 H1 F1 s1 r1 x1 hn => ?_⟩
    exact hq (v :: vs) Hm1 H1 F1 s1 r1 (.n h1 x1) (by rw [List.length_cons, hn])
  · exact q.elim
end

/-! ### what the callee is handed -/
def fitA : List Pm → List Ag → Bool
  | [], [] => true
  | .im :: ms, .e _ :: gs => fitA ms gs
  | .im :: ms, .n _ :: gs => fitA ms gs
  | .rf :: ms, .r _ :: gs => fitA ms gs
  | _, _ => false
def noN : List Ag → Bool
  | [] => true
  | .n _ :: _ => false
  | _ :: gs => noN gs
/-- own names that are read alone are not among the mutable ones -/
def sepN (rs : List Nat) : List Ag → Bool
  | [] => true
  | .n i :: gs => !rs.contains i && sepN rs gs
  | _ :: gs => sepN rs gs
inductive At (σ : St) (F : Fps) : List Nat → List Addr → Prop
  | nil : At σ F [] []
  | cons {i : Nat} {is : List Nat} {a : Addr} {as : List Addr} : σ[i]? = some (some (.ref a)) → F i = [a] → At σ F is as → At σ F (i :: is) (a :: as)
theorem At.mem {σ : St} {F : Fps} {is : List Nat} {as : List Addr} (x : At σ F is as) : ∀ {a : Addr}, a ∈ as → ∃ i ∈ is, F i = [a] := by
  induction x with
  | nil => intro a h; cases h
  | cons h1 h2 _ ih =>
    intro a h
    rcases List.mem_cons.mp h with rfl | h
    · exact ⟨_, List.mem_cons_self, h2⟩
    · obtain ⟨i, hi, e⟩ := ih h
      exact ⟨i, List.mem_cons_of_mem _ hi, e⟩
section
variable {K : PySem.W.Frag} {C : Ct} {Hm H G : Hp} {F : Fps} {σ : St} {ρ : En}
/-- G: the heap in which the callee reads -/
theorem fill_args {gs : List Ag} {vs : List V} {qs : List Aq} (x : AgOk K C Hm σ gs vs qs) (r : Rel K C Hm H F σ ρ) (sg : Same Hm G) (gn : ∀ i a, F i = [a] → i ∈ refsA gs → G a = none) :
    ∀ {ms : List Pm} {ds : List D}, fitA ms gs = true → (refsA gs).Nodup → (∀ i v d, Ag.n i ∈ gs → σ[i]? = some (some v) → ρ[i]? = some (some d) → Dt K G v d) → agFill qs ρ = some ds → ∃ as, ArgsOk K G H ms vs ds as ∧ At σ F (refsA gs) as := by
  induction x with
  | nil =>
    intro ms ds hf _ _ e
    cases e
    cases ms with
    | nil => exact ⟨[], .nil, .nil⟩
    | cons m ms => cases m <;> simp [fitA] at hf
  | e h _ ih =>
    intro ms ds hf nd hn e
    cases ms with
    | nil => simp [fitA] at hf
    | cons m ms =>
      cases m with
      | rf => simp [fitA] at hf
      | im =>
        obtain ⟨ds', e', e2⟩ := Option.map_eq_some_iff.mp e
        subst e2
        obtain ⟨as, h1, h2⟩ := ih gn hf nd (fun i v d hi => hn i v d (List.mem_cons_of_mem _ hi)) e'
        exact ⟨as, .im (Dt.mono sg _ h) h1, h2⟩
  | @r i v gs vs qs h1 h2 _ ih =>
    intro ms ds hf nd hn e
    cases ms with
    | nil => simp [fitA] at hf
    | cons m ms =>
      cases m with
      | im => simp [fitA] at hf
      | rf =>
        unfold agFill at e
        split at e
        · rename_i d ed
          obtain ⟨ds', e', e2⟩ := Option.map_eq_some_iff.mp e
          subst e2
          have nd' := List.nodup_cons.mp nd
          obtain ⟨as, h3, h4⟩ := ih (fun j a hj hm => gn j a hj (List.mem_cons_of_mem _ hm)) hf nd'.2 (fun i v d hi => hn i v d (List.mem_cons_of_mem _ hi)) e'
          obtain ⟨v', m', h5, h6, h7⟩ := r.sl i d ed
          rw [h1] at h5
          cases h5
          rw [h2] at h6
          cases h6
          obtain ⟨a, ea, ef⟩ := h7.own1
          subst ea
          refine ⟨a :: as, .rf ?_ (gn i a ef List.mem_cons_self) (fun ha => ?_) h3, .cons h1 ef h4⟩
          · rw [ef] at h7
            exact h7.step sg fun _ _ _ h => h
          · obtain ⟨j, hj, ej⟩ := h4.mem ha
            have := r.dj i j a (by rw [ef]; exact List.mem_cons_self) (by rw [ej]; exact List.mem_cons_self)
            subst this
            exact nd'.1 hj
        · cases e
  | @n i v gs vs qs h1 _ ih =>
    intro ms ds hf nd hn e
    cases ms with
    | nil => simp [fitA] at hf
    | cons m ms =>
      cases m with
      | rf => simp [fitA] at hf
      | im =>
        unfold agFill at e
        split at e
        · rename_i d ed
          obtain ⟨ds', e', e2⟩ := Option.map_eq_some_iff.mp e
          subst e2
          obtain ⟨as, h3, h4⟩ := ih gn hf nd (fun i v d hi => hn i v d (List.mem_cons_of_mem _ hi)) e'
          exact ⟨as, .im (hn i v d List.mem_cons_self h1 ed) h3, h4⟩
        · cases e
theorem back_at {Hm' H' : Hp} {is : List Nat} {as : List Addr} (x : At σ F is as) : ∀ {rs : List D} {ρ : En} {j : Nat} {d : D}, is.Nodup → RefsOk K Hm' H' as rs → (agBack is rs ρ)[j]? = some (some d) →
    (j ∉ is ∧ ρ[j]? = some (some d)) ∨ ∃ a, j ∈ is ∧ σ[j]? = some (some (.ref a)) ∧ F j = [a] ∧ RdM K Hm' H' (.ow .im) (.ref a) d [a] ∧ Hm' a = none := by
  induction x with
  | nil =>
    intro rs ρ j d _ h e
    cases h
    exact .inl ⟨by simp, e⟩
  | @cons i is a as h1 h2 _ ih =>
    intro rs ρ j d nd h e
    cases h with
    | @cons _ rs _ d0 h3 h4 h5 =>
      have nd' := List.nodup_cons.mp nd
      rcases ih (rs := rs) (ρ := ρ.set i (some d0)) (j := j) (d := d) nd'.2 h5 e with ⟨q1, q2⟩ | ⟨b, q1, q2⟩
      · by_cases hj : j = i
        · subst hj
          right
          rw [List.getElem?_set] at q2
          simp only [if_true] at q2
          split at q2
          · cases q2
            exact ⟨a, List.mem_cons_self, h1, h2, h3, h4⟩
          · cases q2
        · rw [List.getElem?_set_ne (Ne.symm hj)] at q2
          exact .inl ⟨fun z => (List.mem_cons.mp z).elim hj q1, q2⟩
      · exact .inr ⟨b, List.mem_cons_of_mem _ q1, q2⟩
theorem back_some {is : List Nat} : ∀ {rs : List D} {ρ : En} {j : Nat}, (∃ d, ρ[j]? = some (some d)) → ∃ d, (agBack is rs ρ)[j]? = some (some d) := by
  induction is with
  | nil => intro rs ρ j h; exact h
  | cons i is ih =>
    intro rs ρ j h
    cases rs with
    | nil => exact h
    | cons d0 rs =>
      refine ih (rs := rs) (ρ := ρ.set i (some d0)) ?_
      by_cases hj : j = i
      · subst hj
        obtain ⟨d, e⟩ := h
        exact ⟨d0, List.getElem?_set_self (List.getElem?_eq_some_iff.mp e).1⟩
      · rw [List.getElem?_set_ne (Ne.symm hj)]
        exact h
theorem back_len {is : List Nat} : ∀ {rs : List D} {ρ : En}, (agBack is rs ρ).length = ρ.length := by
  induction is with
  | nil => intro rs ρ; rfl
  | cons i is ih =>
    intro rs ρ
    cases rs with
    | nil => rfl
    | cons d0 rs =>
      show (agBack is rs (ρ.set i (some d0))).length = _
      rw [ih, List.length_set]
/-- behind a call: the caller's frame -/
theorem back_rel {Hm' H' : Hp} {is : List Nat} {as : List Addr} {rs : List D} (r : Rel K C Hm H F σ ρ) (x : At σ F is as) (nd : is.Nodup) (hi : ∀ i ∈ is, C.Γ[i]? = some (.ow .im)) (st : Step Hm H (fun _ => as) Hm' H' (fun _ => as)) (sub : Same Hm' H')
    (tp : ∀ b xs, H' b = some (.tup xs) → Hm' b = some (.tup xs)) (fz : ∀ b o u, H' b = some (.frz o u) → Hm' b = some (.frz o u)) (rf : RefsOk K Hm' H' as rs) (hrs : ∀ i a, i ∈ is → F i = [a] → Hm' a = none ∧ ∃ o, H' a = some o) : Rel K C Hm' H' F σ (agBack is rs ρ) ∧ Step Hm H F Hm' H' F := by
  have kept : ∀ j, j ∉ is → ∀ a ∈ F j, ∀ o, H a = some o → H' a = some o := fun j hj a ha o ho => st.kp a o ho fun _ hb => by
    obtain ⟨i, hi, e⟩ := x.mem hb
    have := r.dj i j a (by rw [e]; exact List.mem_cons_self) ha
    subst this
    exact hj hi
  have single : ∀ j, j ∈ is → ∃ a, F j = [a] := by
    clear rf hrs hi kept st nd
    induction x with
    | nil => intro j hj; cases hj
    | cons h1 h2 _ ih =>
      intro j hj
      rcases List.mem_cons.mp hj with rfl | hj
      · exact ⟨_, h2⟩
      · exact ih j hj
  refine ⟨⟨r.ls, by rw [back_len]; exact r.lr, fun j d h => ?_, r.nd, r.dj, fun j a ha => ?_, sub, fun j a ha => ?_, tp, fz, fun b h => r.he b (st.dm b h), r.ow, fun j hj => ?_⟩, ⟨st.sm, fun b o h hb => st.kp b o h fun _ hb' => ?_, fun b o h => (st.nw b o h).imp id fun z => z.imp (fun ⟨_, hb⟩ => (x.mem hb).elim fun i hi => ⟨i, by rw [hi.2]; exact List.mem_cons_self⟩) id, fun j b h => .inl ⟨j, h⟩, st.dm⟩⟩
  · rcases back_at x nd rf h with ⟨q1, q2⟩ | ⟨a, q1, q2, q3, q4, _⟩
    · obtain ⟨v, m, h1, h2, h3⟩ := r.sl j d q2
      exact ⟨v, m, h1, h2, h3.step st.sm (kept j q1)⟩
    · exact ⟨_, _, q2, hi j q1, by rw [q3]; exact q4⟩
  · by_cases hj : j ∈ is
    · obtain ⟨b, e⟩ := single j hj
      rw [e] at ha
      rw [List.mem_singleton.mp ha]
      exact (hrs j b hj e).1
    · cases q : Hm' a with
      | none => rfl
      | some o =>
        obtain ⟨o', ho'⟩ := r.bd j a ha
        rcases st.nw a o q with z | ⟨_, z⟩ | z
        · rw [r.un j a ha] at z; cases z
        · obtain ⟨i, hi, e⟩ := x.mem z
          have := r.dj i j a (by rw [e]; exact List.mem_cons_self) ha
          subst this
          exact absurd hi hj
        · rw [ho'] at z; cases z
  · by_cases hj : j ∈ is
    · obtain ⟨b, e⟩ := single j hj
      rw [e] at ha
      rw [List.mem_singleton.mp ha]
      exact (hrs j b hj e).2
    · obtain ⟨o', ho'⟩ := r.bd j a ha
      exact ⟨o', kept j hj a ha o' ho'⟩
  · obtain ⟨h1, h2⟩ := r.fx j hj
    exact ⟨h1, back_some h2⟩
  · obtain ⟨i, hi, e⟩ := x.mem hb'
    exact hb i (by rw [e]; exact List.mem_cons_self)
theorem refs_none {Hm' H' : Hp} {as : List Addr} {rs : List D} (x : RefsOk K Hm' H' as rs) : ∀ {a : Addr}, a ∈ as → Hm' a = none := by
  induction x with
  | nil => intro a h; cases h
  | cons _ h2 _ ih =>
    intro a h
    rcases List.mem_cons.mp h with rfl | h
    · exact h2
    · exact ih h
theorem refs_at {Hm' H' : Hp} {is : List Nat} {as : List Addr} {rs : List D} (x : At σ F is as) (rf : RefsOk K Hm' H' as rs) : ∀ i a, i ∈ is → F i = [a] → Hm' a = none ∧ ∃ o, H' a = some o := by
  induction x generalizing rs with
  | nil => intro i a h; cases h
  | cons h1 h2 _ ih =>
    intro i a h e
    cases rf with
    | cons q1 q2 q3 =>
      rcases List.mem_cons.mp h with rfl | h
      · rw [h2] at e
        cases e
        exact ⟨q2, q1.bound _ List.mem_cons_self⟩
      · exact ih q3 i a h e
end
section
variable {K : PySem.W.Frag} {C : Ct} {σ : St} {H : Hp} {Q : VK} {Ek : EW} {E : XK} {ms : List Pm} {rm : Md} {f : FF} {gs : List Ag} {n : Nat}
theorem no_n : ∀ {gs : List Ag}, noN gs = true → ∀ i, Ag.n i ∉ gs
  | [], _, i, h => by cases h
  | .n j :: gs, hn, i, h => by simp [noN] at hn
  | .e f :: gs, hn, i, h => (List.mem_cons.mp h).elim (fun z => by cases z) (no_n (gs := gs) hn i)
  | .r j :: gs, hn, i, h => (List.mem_cons.mp h).elim (fun z => by cases z) (no_n (gs := gs) hn i)
theorem call_red (hf : fitA ms gs = true) (hn : noN gs = true) (nd : (refsA gs).Nodup) (hi : ∀ i ∈ refsA gs, C.Γ[i]? = some (.ow .im)) (h : tE K C rm (eCall f gs) σ H Q) : tG K C n gs σ H fun vs H1 => spV Ek K ms rm f vs H1 Q E := by
  obtain ⟨Hm, F, ρ, rl, q⟩ := h
  refine ⟨Hm, F, ρ, rl, q.bind.imp fun p hq vs Hm1 H1 F1 s1 r1 x1 _ => ?_⟩
  obtain ⟨ds, ed, hq⟩ := hq.bind.of
  have nn := no_n hn
  obtain ⟨as, ha, hat⟩ := fill_args (G := Hm1) x1 r1 (Same.refl _) (fun i a e _ => r1.un i a (by rw [e]; exact List.mem_cons_self)) (ms := ms) hf nd (fun i v d z => absurd z (nn i)) ed
  refine ⟨Hm1, ds, as, r1.sub, r1.tp, r1.fz, ha, ?_⟩
  cases ef : f ds with
  | bad => rw [ef] at hq; exact hq.elim
  | err x ρ => rw [ef] at hq; exact hq.elim
  | ok r =>
    rw [ef] at hq
    intro v Hm' H' g bk xv
    obtain ⟨r2, s2⟩ := back_rel r1 hat nd hi bk.st bk.sub bk.tp bk.fz bk.rf (refs_at hat bk.rf)
    refine hq v Hm' H' F1 g (s1.trans s2) r2 ⟨xv.rd, xv.nd, xv.un, fun a ha i hi => ?_, fun a ha => s1.dm a (xv.nw a ha)⟩
    obtain ⟨o, ho⟩ := r1.bd i a hi
    rw [xv.nw a ha] at ho; cases ho
theorem flat_all {k : Md} {P P' : V → D → List Addr → Prop} : ∀ {xs : List V} {ds : List D} {g : List Addr}, AllM P xs ds g → ds.all (flatM k) = true → (∀ v d g, flatM k d = true → P v d g → P' v d g) → AllM P' xs ds g
  | _, _, _, .nil, _, _ => .nil
  | _, _, _, .cons h t, hf, i => by
    rw [List.all_cons, Bool.and_eq_true] at hf
    exact .cons (i _ _ _ hf.1 h) (flat_all t hf.2 i)
theorem flat_rd {Hk Hm' H' : Hp} (sub : Same Hk H') (tp : ∀ b xs, H' b = some (.tup xs) → Hm' b = some (.tup xs)) (fz : ∀ b o u, H' b = some (.frz o u) → Hm' b = some (.frz o u)) :
    ∀ {m : Md} {v : V} {d : D} {g : List Addr}, flatM m d = true → RdM K Hk H' m v d g → RdM K Hm' H' m v d g
  | .im, v, d, g, hf, ⟨h, e⟩ => ⟨flat_dt tp fz d hf (Dt.mono sub _ h), e⟩
  | .ow k, v, d, g, hf, ⟨a, hv, h⟩ => by
    rcases h with ⟨xs, ds, g', rfl, ho, hall, rfl⟩ | ⟨kvs, kds, g', rfl, _⟩ | ⟨_, _, _, _, _, _, rfl, _⟩
    · refine ⟨a, hv, .inl ⟨xs, ds, g', rfl, ho, ?_, rfl⟩⟩
      exact flat_all hall (show ds.all (flatM k) = true from hf) fun _ _ _ h1 h2 => flat_rd sub tp fz h1 h2
    · cases hf
    · cases hf
theorem call_redN (hf : fitA ms gs = true) (hn : sepN (refsA gs) gs = true) (nd : (refsA gs).Nodup) (hi : ∀ i ∈ refsA gs, C.Γ[i]? = some (.ow .im)) (h : tE K C rm (eCallN rm f gs) σ H Q) : tG K C n gs σ H fun vs H1 => spV Ek K ms rm f vs H1 Q E := by
  obtain ⟨Hm, F, ρ, rl, q⟩ := h
  refine ⟨Hm, F, ρ, rl, q.bind.imp fun p hq vs Hm1 H1 F1 s1 r1 x1 _ => ?_⟩
  obtain ⟨ds, ed, hq⟩ := hq.bind.of
  have sep : ∀ {rs : List Nat} {l : List Ag}, sepN rs l = true → ∀ i, Ag.n i ∈ l → i ∉ rs := by
    intro rs l
    induction l with
    | nil => intro _ i h; cases h
    | cons g l ih =>
      intro hs i h
      cases g with
      | n j =>
        rw [sepN, Bool.and_eq_true] at hs
        rcases List.mem_cons.mp h with e | h
        · cases e; simpa using hs.1
        · exact ih hs.2 i h
      | e f => exact (List.mem_cons.mp h).elim (fun z => by cases z) (ih hs i)
      | r j => exact (List.mem_cons.mp h).elim (fun z => by cases z) (ih hs i)
  -- the callee reads all but what it may change
  let G : Hp := fun b => if ∃ i ∈ refsA gs, b ∈ F1 i then none else H1 b
  have gsub : Same G H1 := fun b o e => by
    have e : (if ∃ i ∈ refsA gs, b ∈ F1 i then none else H1 b) = some o := e
    split at e
    · cases e
    · exact e
  have gother : ∀ b o, H1 b = some o → (∀ i ∈ refsA gs, b ∉ F1 i) → G b = some o := fun b o e hb => by
    show (if ∃ i ∈ refsA gs, b ∈ F1 i then none else H1 b) = some o
    rw [if_neg (fun ⟨i, h1, h2⟩ => hb i h1 h2)]
    exact e
  have hmg : Same Hm1 G := fun b o e => gother b o (r1.sub b o e) fun i _ hb => by rw [r1.un i b hb] at e; cases e
  obtain ⟨as, ha, hat⟩ := fill_args (G := G) x1 r1 hmg (fun i a e hm => if_pos ⟨i, hm, by rw [e]; exact List.mem_cons_self⟩) (ms := ms) hf nd (fun i v d z h1 h2 => by
    obtain ⟨v', m, h3, h4, h5⟩ := r1.sl i d h2
    rw [h1] at h3
    cases h3
    refine h5.dt hmg fun a ha o ho => gother a o ho fun j hj hb => ?_
    have := r1.dj i j a ha hb
    subst this
    exact sep hn i z hj) ed
  have asF : ∀ b, b ∈ as → ∃ i ∈ refsA gs, b ∈ F1 i := fun b hb => by
    obtain ⟨i, hi, e⟩ := hat.mem hb
    exact ⟨i, hi, by rw [e]; exact List.mem_cons_self⟩
  refine ⟨G, ds, as, gsub, fun b xs e => gother b _ e fun i _ hb => (by have := r1.un i b hb; rw [r1.tp b xs e] at this; cases this), fun b o u e => gother b _ e fun i _ hb => (by have := r1.un i b hb; rw [r1.fz b o u e] at this; cases this), ha, ?_⟩
  cases ef : f ds with
  | bad => rw [ef] at hq; exact hq.elim
  | err x ρ => rw [ef] at hq; exact hq.elim
  | ok r =>
    rw [ef] at hq
    have hq : fin K C Hm H F (if (flatM rm r.1 && r.2.all (flatM (.ow .im))) = true then Rs.ok (r.1, agBack (refsA gs) r.2 p.2) else Rs.bad) _ := hq
    by_cases hfl : (flatM rm r.1 && r.2.all (flatM (.ow .im))) = true
    · rw [if_pos hfl] at hq
      rw [Bool.and_eq_true] at hfl
      intro v Gk H' g bk xv
      -- what the caller reads from now on: as before, and what is new
      let Hm' : Hp := fun b => match Hm1 b with
        | some o => some o
        | none => match H1 b with
          | some _ => none
          | none => Gk b
      have m1 : Same Hm1 Hm' := fun b o e => by show (match Hm1 b with | some o => some o | none => _) = _; rw [e]
      have m2 : ∀ b o, Hm' b = some o → Hm1 b = some o ∨ (H1 b = none ∧ Gk b = some o) := fun b o e => by
        have e : (match Hm1 b with | some o => some o | none => (match H1 b with | some _ => none | none => Gk b)) = some o := e
        split at e
        · rename_i q; rw [q]; exact .inl e
        · split at e
          · cases e
          · rename_i q; exact .inr ⟨q, e⟩
      have m3 : ∀ b o, H1 b = none → Gk b = some o → Hm' b = some o := fun b o e1 e2 => by
        show (match Hm1 b with | some o => some o | none => (match H1 b with | some _ => none | none => Gk b)) = some o
        rw [Same.none r1.sub e1, e1]
        exact e2
      have sub' : Same Hm' H' := fun b o e => by
        rcases m2 b o e with q | ⟨_, q⟩
        · exact bk.st.kp b o (r1.sub b o q) fun _ hb => by
            obtain ⟨i, _, hi⟩ := asF b hb
            rw [r1.un i b hi] at q; cases q
        · exact bk.sub b o q
      have tp' : ∀ b xs, H' b = some (.tup xs) → Hm' b = some (.tup xs) := fun b xs e => by
        cases q : H1 b with
        | none => exact m3 b _ q (bk.tp b xs e)
        | some o =>
          have hb : ∀ i : Nat, b ∉ (fun _ : Nat => as) i := fun _ hb => by
            obtain ⟨i, _, hi⟩ := asF b hb
            have z := bk.tp b xs e
            rw [refs_none bk.rf hb] at z
            cases z
          have := bk.st.kp b o q hb
          rw [e] at this
          cases this
          exact m1 _ _ (r1.tp b xs q)
      have fz' : ∀ b o u, H' b = some (.frz o u) → Hm' b = some (.frz o u) := fun b o u e => by
        cases q : H1 b with
        | none => exact m3 b _ q (bk.fz b o u e)
        | some o' =>
          have hb : ∀ i : Nat, b ∉ (fun _ : Nat => as) i := fun _ hb => by
            have z := bk.fz b o u e
            rw [refs_none bk.rf hb] at z
            cases z
          have := bk.st.kp b o' q hb
          rw [e] at this
          cases this
          exact m1 _ _ (r1.fz b o u q)
      have gkn : ∀ a, a ∈ as → Hm' a = none := fun a ha => by
        obtain ⟨i, hi, hF⟩ := asF a ha
        cases q : Hm' a with
        | none => rfl
        | some o =>
          rcases m2 a o q with z | ⟨z, _⟩
          · rw [r1.un i a hF] at z; cases z
          · obtain ⟨o', ho'⟩ := r1.bd i a hF
            rw [ho'] at z; cases z
      have rf' : ∀ {l : List Addr} {rs : List D}, (∀ a ∈ l, a ∈ as) → rs.all (flatM (.ow .im)) = true → RefsOk K Gk H' l rs → RefsOk K Hm' H' l rs := by
        intro l rs hl hall h
        induction h with
        | nil => exact .nil
        | cons h1 h2 _ ih =>
          rw [List.all_cons, Bool.and_eq_true] at hall
          exact .cons (flat_rd bk.sub tp' fz' hall.1 h1) (gkn _ (hl _ List.mem_cons_self)) (ih (fun a ha => hl a (List.mem_cons_of_mem _ ha)) hall.2)
      have rfn := rf' (fun _ h => h) hfl.2 bk.rf
      obtain ⟨r2, s2⟩ := back_rel r1 hat nd hi (Hm' := Hm') (H' := H') ⟨m1, bk.st.kp, fun b o e => (m2 b o e).imp id fun z => .inr z.1, fun i b h => .inl ⟨i, h⟩, bk.st.dm⟩ sub' tp' fz' rfn (refs_at hat rfn)
      refine hq v Hm' H' F1 g (s1.trans s2) r2 ⟨flat_rd bk.sub tp' fz' hfl.1 xv.rd, xv.nd, fun a ha => ?_, fun a ha i hi => ?_, fun a ha => s1.dm a (xv.nw a ha)⟩
      · cases q : Hm' a with
        | none => rfl
        | some o =>
          rcases m2 a o q with z | ⟨_, z⟩
          · have := r1.sub a o z
            rw [xv.nw a ha] at this; cases this
          · rw [xv.un a ha] at z; cases z
      · obtain ⟨o, ho⟩ := r1.bd i a hi
        rw [xv.nw a ha] at ho; cases ho
    · rw [if_neg hfl] at hq
      exact hq.elim
end

/-! ### the rules -/
section
variable {X : Cx} {C : Ct} {e : Expr} {es : List Expr} {n k : Nat} {gs : List Ag} {fa : Addr} {fd : FuncData} {ps : List Str} {ms : List Pm} {rm : Md} {f : FF} {x : Str} {p pos : Pos}
theorem ve_call (Fn : FnG X.prog X.w X.K X.mg X.base k fa fd ps (spV EW0 X.K ms rm f)) (hr : RoomG k X.A) (hm : X.mg x = some (.ref fa)) (hk : PySem.W.keepIn X.K (.ref fa) = true) (hb : Binds X.K fd ps [])
    (ha : VG X C (e :: es) n gs) (hf : fitA ms gs = true := by rfl) (hn : noN gs = true := by rfl) (nd : (refsA gs).Nodup := by decide) (hi : ∀ i ∈ refsA gs, C.Γ[i]? = some (.ow .im) := by first | exact fun _ h => absurd h List.not_mem_nil | (intro i h; simp [refsA] at h; rcases h with rfl | rfl <;> rfl) | (intro i h; simp [refsA] at h; subst h; rfl))
    (hg : Gl X x := by rfl) (hdb : (x == ("__debug__" : Str)) = false := by decide) (he : starEach (e :: es) X.env = (false, eval e X.env) :: starEach es X.env := by rfl) (hpl : (backTo pos (starEach es X.env)).any (·.1) = false := by rfl) :
    VE X C rm (.Call (.Name x p) (e :: es) [] pos) (eCall f gs) := by
  refine PE.mono (pe_callG Fn hr hg hm hk hb ha hdb he hpl) fun σ H Q h => ?_
  obtain ⟨Hm, F, ρ, r, q⟩ := call_red (Ek := EW0) (E := E0) (n := n) hf hn nd hi h
  refine ⟨Hm, F, ρ, r, q.imp fun p hp vs Hm' H' F' s r' a hl => ?_⟩
  exact hp vs Hm' H' F' s r' a hl
theorem ve_callN (Fn : FnG X.prog X.w X.K X.mg X.base k fa fd ps (spV EW0 X.K ms rm f)) (hr : RoomG k X.A) (hm : X.mg x = some (.ref fa)) (hk : PySem.W.keepIn X.K (.ref fa) = true) (hb : Binds X.K fd ps [])
    (ha : VG X C (e :: es) n gs) (hf : fitA ms gs = true := by rfl) (hn : sepN (refsA gs) gs = true := by rfl) (nd : (refsA gs).Nodup := by decide) (hi : ∀ i ∈ refsA gs, C.Γ[i]? = some (.ow .im) := by first | exact fun _ h => absurd h List.not_mem_nil | (intro i h; simp [refsA] at h; rcases h with rfl | rfl <;> rfl) | (intro i h; simp [refsA] at h; subst h; rfl))
    (hg : Gl X x := by rfl) (hdb : (x == ("__debug__" : Str)) = false := by decide) (he : starEach (e :: es) X.env = (false, eval e X.env) :: starEach es X.env := by rfl) (hpl : (backTo pos (starEach es X.env)).any (·.1) = false := by rfl) :
    VE X C rm (.Call (.Name x p) (e :: es) [] pos) (eCallN rm f gs) := by
  refine PE.mono (pe_callG Fn hr hg hm hk hb ha hdb he hpl) fun σ H Q h => ?_
  obtain ⟨Hm, F, ρ, r, q⟩ := call_redN (Ek := EW0) (E := E0) (n := n) hf hn nd hi h
  refine ⟨Hm, F, ρ, r, q.imp fun p hp vs Hm' H' F' s r' a hl => ?_⟩
  exact hp vs Hm' H' F' s r' a hl
end
end VL

set_option Elab.async false
set_option linter.all false
set_option maxRecDepth 100000
set_option maxHeartbeats 4000000
/-! V6: loops, comprehensions. -/
namespace VL
open PySem PySem.Spec L2

structure Iter (K : PySem.W.Frag) (Hm : Hp) (J : It) (ds : List D) : Prop where
  go : ∀ i d Hm2 H2, Same Hm Hm2 → Same Hm2 H2 → ds[i]? = some d → J.go i H2 ∧ ∀ x H3, J.yld i H2 x H3 → ∃ Hm3, Grow Hm2 H2 Hm3 H3 ∧ Dt K Hm3 x d
  stop : ∀ Hm2 H2, Same Hm Hm2 → Same Hm2 H2 → J.stop ds.length H2
section
variable (K : PySem.W.Frag) (C : Ct)
def tI (f : IF) : TI := fun σ H R => ∃ Hm F ρ, Rel K C Hm H F σ ρ ∧ fin K C Hm H F (f ρ) fun p => ∀ J Hm' H' F', Step Hm H F Hm' H' F' → Rel K C Hm' H' F' σ p.2 → Iter K Hm' J p.1 → R J H'
/-- is: the slots that may be stored -/
def tGt (is : List Nat) (g : GF) : TG := fun v σ H Q => ∃ Hm F ρ d, Rel K C Hm H F σ ρ ∧ Dt K Hm v d ∧ fin K C Hm H F (g d ρ) fun ρ' => ∀ Hm' H' F' σ', Step Hm H F Hm' H' F' → Rel K C Hm' H' F' σ' ρ' → (∀ j, j ∉ is → σ'[j]? = σ[j]?) → σ'.length = σ.length → Q σ' H'
def tGts (is : List Nat) (gs : List GF) : TGs := fun vs σ H Q => ∃ Hm F ρ ds, Rel K C Hm H F σ ρ ∧ DtA K Hm vs ds ∧ fin K C Hm H F (gAll gs ds ρ) fun ρ' => ∀ Hm' H' F' σ', Step Hm H F Hm' H' F' → Rel K C Hm' H' F' σ' ρ' → (∀ j, j ∉ is → σ'[j]? = σ[j]?) → σ'.length = σ.length → Q σ' H'
end
abbrev VI (X : Cx) (C : Ct) (tg iter : Expr) (f : IF) : Prop := PI X tg iter (tI X.K C f)
abbrev VGt (X : Cx) (C : Ct) (tg : Expr) (is : List Nat) (g : GF) : Prop := PG X tg (tGt X.K C is g)
abbrev VGs (X : Cx) (C : Ct) (tgs : List Expr) (is : List Nat) (gs : List GF) : Prop := PGs X tgs (tGts X.K C is gs)
theorem PG.mono {X : Cx} {e : Expr} {t t' : TG} (h : PG X e t) (i : ∀ v σ H Q, t' v σ H Q → t v σ H Q) : PG X e t' := ⟨fun pins s σ H v u Q I r q => h.run pins s σ H v u Q I r (i v σ H Q q)⟩
theorem PGs.mono {X : Cx} {e : List Expr} {t t' : TGs} (h : PGs X e t) (i : ∀ v σ H Q, t' v σ H Q → t v σ H Q) : PGs X e t' := ⟨fun pins s σ H v u Q I r q => h.run pins s σ H v u Q I r (i v σ H Q q)⟩
theorem PI.mono {X : Cx} {tg e : Expr} {t t' : TI} (h : PI X tg e t) (i : ∀ σ H Q, t' σ H Q → t σ H Q) : PI X tg e t' := ⟨fun pins s σ H Q I q => h.run pins s σ H Q I (i σ H Q q)⟩

/-! ### targets -/
section
variable {X : Cx} {C : Ct} {e : Expr} {es : List Expr} {g : GF} {gs : List GF} {is js : List Nat} {pos : Pos}
theorem vg_name {i : Nat} {x : Str} (hm : C.Γ[i]? = some .im := by rfl) (hR : i ∉ C.R := by exact notIn_of rfl) (hN : X.N.Nodup := by first | assumption | decide) (hi : X.N[i]? = some x := by rfl) (hx : Loc X.env.scope x := by first | exact Or.inl rfl | exact Or.inr rfl)
    (hf : X.fn x = true ∨ X.env.scope.names.lookup x = some .local := by first | exact .inl rfl | exact .inr rfl | assumption) : VGt X C (.Name x pos) [i] (gSet i) :=
  PG.mono (pg_name hN hi hx hf) fun v σ H Q ⟨Hm, F, ρ, d, r, dt, q⟩ => q Hm H _ _ (Step.refl.put (g := []) (i := i) fun a ha => (by cases ha)) (r.set (Val.im (H0 := H) dt) hm hR fun a ha => (by cases ha)) (fun j hj => List.getElem?_set_ne (fun e => hj (by simp [e]))) (List.length_set ..)
theorem vgs_nil : VGs X C [] [] [] := PGs.mono pgs_nil fun v σ H Q ⟨Hm, F, ρ, ds, r, dt, q⟩ => by
  cases dt with
  | nil => exact ⟨rfl, q Hm H F σ .refl r (fun _ _ => rfl) rfl⟩
  | cons h1 h2 => exact q.elim
theorem vgs_cons (h1 : VGt X C e is g) (h2 : VGs X C es js gs) (hs : (assignEach (e :: es) X.env).map (·.2) = assign e X.env :: (assignEach es X.env).map (·.2) := by rfl) : VGs X C (e :: es) (is ++ js) (g :: gs) := by
  refine PGs.mono (pgs_cons h1 h2 hs) fun vs σ H Q ⟨Hm, F, ρ, ds, r, dt, q⟩ => ?_
  cases dt with
  | nil => exact q.elim
  | @cons v vs d ds h3 h4 =>
    refine ⟨v, vs, rfl, Hm, F, ρ, d, r, h3, q.bind.imp fun ρ1 hq Hm1 H1 F1 σ1 s1 r1 k1 l1 => ?_⟩
    refine ⟨Hm1, F1, ρ1, ds, r1, DtA.mono s1.sm _ h4, (hq.step s1).imp fun ρ2 hq2 Hm2 H2 F2 σ2 s2 r2 k2 l2 => hq2 Hm2 H2 F2 σ2 (s1.trans s2) r2 (fun j hj => ?_) (l2.trans l1)⟩
    exact (k2 j fun z => hj (List.mem_append_right _ z)).trans (k1 j fun z => hj (List.mem_append_left _ z))
theorem vg_tup {k : Nat} {n : Nat} (h : VGs X C es is gs) (hc : X.calm = true := by rfl) (hl : gs.length = n := by rfl) (hn : (assignEach es X.env).length = n := by rfl) (hst : (assignEach es X.env).findIdx? (·.1) = none := by rfl) : VGt X C (.Tuple es k pos) is (gTupF gs) := by
  refine PG.mono (pg_tup hc h hn hst) fun v σ H Q ⟨Hm, F, ρ, d, r, dt, q⟩ => ?_
  cases dt with
  | @tup a xs ds h1 h2 =>
    have q : fin X.K C Hm H F (if ds.length = gs.length then gAll gs ds ρ else .bad) _ := q
    by_cases hx : ds.length = gs.length
    · rw [if_pos hx] at q
      exact ⟨a, xs, rfl, Same.sqt r.sub h1, (h2.length.trans hx).trans hl, Hm, F, ρ, ds, r, h2, q⟩
    · rw [if_neg hx] at q
      exact q.elim
  | _ => exact q.elim
/-- (a, b) = e -/
theorem vs_asg {tg v : Expr} {fe : EF} {rm : Md} (h : VE X C .im v fe) (hg : VGt X C tg is g) (hs : swapsWithSole [tg] v pos.line X.env = pure false := by rfl) (hw : swappedStores [tg] v X.env = pure none := by rfl)
    (h1 : (assignEach [tg] X.env).map (·.2) = [assign tg X.env] := by rfl) : VS X C rm (.Assign [tg] v pos) (sAsg g fe) := by
  refine PS.mono (ps_asg h hg hs hw h1) fun D σ H ⟨Hm, F, ρ, r, q⟩ => ⟨Hm, F, ρ, r, q.bind.imp fun p hq v Hm1 H1 F1 g1 s1 r1 x1 => ?_⟩
  exact ⟨Hm1, F1, p.2, p.1, r1, x1.of_im, (hq.step s1).bind.imp fun ρ' hq2 Hm2 H2 F2 σ2 s2 r2 _ _ => hq2 Hm2 H2 F2 σ2 (s1.trans s2) r2⟩
end

/-! ### for, while -/
section
variable {X : Cx} {C : Ct} {rm : Md} {g : GF} {is : List Nat} {pos : Pos} {b : SF} {src : IF} {t : TF}
theorem vs_for {tg iter : Expr} {body : List Stmt} (hi : VI X C tg iter src) (hg : VGt X C tg is g) (hb : VB X C rm body b) (hp : PassesOwn (model X.prog X.w) X.A X.env X.xe := by exact PassesOwn.never) (hc : X.calm = true := by rfl)
    (hs : ∀ x, foldedSetIterable iter X.env x = pure x := by intro _; rfl) : VS X C rm (.For tg iter body [] pos) (sFor src g b) := by
  refine PS.mono (ps_for hp hc hi hg hb hs) fun D σ H ⟨Hm, F, ρ, r, q⟩ => ⟨Hm, F, ρ, r, q.bind.imp fun p hq J Hm1 H1 F1 s1 r1 it => ?_⟩
  refine ⟨fun i m σ' H' => ∃ Hm' F' ρ', Step Hm1 H1 F1 Hm' H' F' ∧ Rel X.K C Hm' H' F' σ' ρ' ∧ i + m = p.1.length ∧ fin X.K C Hm' H' F' (loop g b (p.1.drop i) ρ') (OkS X.K C rm Hm H F D),
    ⟨p.1.length, Hm1, F1, p.2, .refl, r1, by omega, hq.step s1⟩, ?_⟩
  rintro i m σ2 H2 ⟨Hm2, F2, ρ2, s2, r2, hl, q2⟩
  by_cases hlt : i < p.1.length
  · rw [List.drop_eq_getElem_cons hlt] at q2
    have q2 := q2.bind
    obtain ⟨hgo, hy⟩ := it.go i _ Hm2 H2 s2.sm r2.sub (List.getElem?_eq_getElem hlt)
    refine .inr ⟨hgo, fun σ' H' => ∃ Hm' F' ρ', Step Hm1 H1 F1 Hm' H' F' ∧ Rel X.K C Hm' H' F' σ' ρ' ∧ fin X.K C Hm' H' F' (loop g b (p.1.drop (i + 1)) ρ') (OkS X.K C rm Hm H F D), ?_, fun x H3 hx => ?_⟩
    · rintro σ' H' ⟨Hm', F', ρ', h1, h2, h3⟩
      exact ⟨m - 1, by omega, Hm', F', ρ', h1, h2, by omega, h3⟩
    · obtain ⟨Hm3, g3, d3⟩ := hy x H3 hx
      obtain ⟨r3, s3⟩ := r2.grow g3
      have s03 := s1.trans (s2.trans s3)
      refine ⟨Hm3, F2, ρ2, _, r3, d3, (q2.step s3).imp fun ρ4 hq4 Hm4 H4 F4 σ4 s4 r4 _ _ => ?_⟩
      refine ⟨Hm4, F4, ρ4, r4, (hq4.step (s3.trans s4)).bind.imp fun p5 hq5 => ?_⟩
      obtain ⟨fl, ρ5⟩ := p5
      cases fl with
      | next => exact fun Hm6 H6 F6 σ6 s6 r6 => ⟨Hm6, F6, ρ5, (s2.trans s3).trans (s4.trans s6), r6, fin.step hq5 s6⟩
      | cont => exact fun Hm6 H6 F6 σ6 s6 r6 => ⟨Hm6, F6, ρ5, (s2.trans s3).trans (s4.trans s6), r6, fin.step hq5 s6⟩
      | brk => exact fun Hm6 H6 F6 σ6 s6 r6 => hq5 Hm6 H6 F6 σ6 ((s03.trans s4).trans s6) r6
      | ret v => exact fun v Hm6 H6 F6 σ6 g6 s6 r6 x6 => hq5 v Hm6 H6 F6 σ6 g6 ((s03.trans s4).trans s6) r6 x6
  · have e : i = p.1.length := by omega
    subst e
    rw [List.drop_length] at q2
    exact .inl ⟨it.stop Hm2 H2 s2.sm r2.sub, q2 Hm2 H2 F2 σ2 (s1.trans s2) r2⟩
theorem vs_while {c : Expr} {body : List Stmt} (hc : VT X C c t) (hb : VB X C rm body b) (hp : PassesOwn (model X.prog X.w) X.A X.env X.xe := by exact PassesOwn.never) : VS X C rm (.While c body [] pos) (sWhile t b) := by
  refine PS.mono (ps_while hp hc hb) fun D σ H ⟨Hm, F, ρ, r, q⟩ => ?_
  refine ⟨fun m σ' H' => ∃ Hm' F' ρ', Step Hm H F Hm' H' F' ∧ Rel X.K C Hm' H' F' σ' ρ' ∧ fin X.K C Hm' H' F' (whileN t b m ρ') (OkS X.K C rm Hm H F D), ⟨fuel, Hm, F, ρ, .refl, r, q⟩, ?_⟩
  rintro m σ2 H2 ⟨Hm2, F2, ρ2, s2, r2, q2⟩
  cases m with
  | zero => exact q2.elim
  | succ m =>
    refine ⟨Hm2, F2, ρ2, r2, q2.bind.imp fun p hq Hm3 H3 F3 s3 r3 => ?_⟩
    obtain ⟨c, ρ3⟩ := p
    cases c with
    | false => exact iteF (hq Hm3 H3 F3 σ2 (s2.trans s3) r3)
    | true =>
      refine iteT ⟨fun σ' H' => ∃ Hm' F' ρ', Step Hm H F Hm' H' F' ∧ Rel X.K C Hm' H' F' σ' ρ' ∧ fin X.K C Hm' H' F' (whileN t b m ρ') (OkS X.K C rm Hm H F D), fun σ' H' h => ⟨m, Nat.lt_succ_self m, h⟩, ?_⟩
      refine ⟨Hm3, F3, ρ3, r3, (hq.step s3).bind.imp fun p5 hq5 => ?_⟩
      obtain ⟨fl, ρ5⟩ := p5
      cases fl with
      | next => exact fun Hm6 H6 F6 σ6 s6 r6 => ⟨Hm6, F6, ρ5, s2.trans (s3.trans s6), r6, fin.step hq5 s6⟩
      | cont => exact fun Hm6 H6 F6 σ6 s6 r6 => ⟨Hm6, F6, ρ5, s2.trans (s3.trans s6), r6, fin.step hq5 s6⟩
      | brk => exact fun Hm6 H6 F6 σ6 s6 r6 => hq5 Hm6 H6 F6 σ6 (s2.trans (s3.trans s6)) r6
      | ret v => exact fun v Hm6 H6 F6 σ6 g6 s6 r6 x6 => hq5 v Hm6 H6 F6 σ6 g6 (s2.trans (s3.trans s6)) r6 x6
end
end VL

set_option Elab.async false
set_option linter.all false
set_option maxRecDepth 100000
set_option maxHeartbeats 4000000
/-! V7: what is walked; list comprehensions. -/
namespace L2
open PySem PySem.Spec PyProof.Rows
section
variable {X : Cx} {tg : Expr}
/-- a list or a tuple, by what it is -/
def iSeqV (K : PySem.W.Frag) (tl : TE) : TI := fun σ H R => tl σ H fun x H1 => ∃ a, x = .ref a ∧ (((∃ xs, SqL K H1 a xs) ∧ R (Itl K a) H1) ∨ ((∃ xs, SqT K H1 a xs) ∧ R (Itt K a) H1))
theorem pi_seqV {l : Expr} {tl : TE} (hl : PE X l tl) : PI X tg l (iSeqV X.K tl) := by
  refine ⟨fun pins s σ H R I h => ?_⟩
  refine thn (hl.run pins s σ H _ I h) fun v s1 ⟨x, H1, I1, r1, q1⟩ => ?_
  obtain ⟨a, e, q⟩ := q1
  subst e
  cases r1
  rcases q with ⟨⟨xs, hq⟩, q⟩ | ⟨⟨xs, hq⟩, q⟩
  · obtain ⟨its, rv, p, hz⟩ := I1.list hq
    refine wpAny_pyIter_list p.isList ?_
    refine ⟨s1.heap.objs.size, [s1.heap.objs.size], _, _, H1, rfl, I1.kept (t' := s1.toks) fun b o e => Heap.get?_push_of_some _ e, turn_list a _, ⟨_, Heap.get?_push_size _ rfl, rfl, rfl⟩, fun b hb => ?_, q⟩
    have e : b = s1.heap.objs.size := by simpa using hb
    subst e
    exact I1.fpOk (Nat.le_refl _) (I1.hok.fresh (Nat.le_refl _))
  · obtain ⟨its, rv, p, hz⟩ := I1.tuple hq
    refine wpAny_pyIter_tuple (show s1.heap.IsTuple a its.toArray from p) ?_
    refine ⟨s1.heap.objs.size, [s1.heap.objs.size], _, _, H1, rfl, I1.kept (t' := s1.toks) fun b o e => Heap.get?_push_of_some _ e, turn_tuple a _, ⟨_, Heap.get?_push_size _ rfl, rfl, rfl⟩, fun b hb => ?_, q⟩
    have e : b = s1.heap.objs.size := by simpa using hb
    subst e
    exact I1.fpOk (Nat.le_refl _) (I1.hok.fresh (Nat.le_refl _))
end
end L2
namespace VL
open PySem PySem.Spec L2
section
variable {K : PySem.W.Frag} {Hm : Hp} {a b : Addr} {xs ys : List V} {ds es : List D}
theorem iter_list (h : SqL K Hm a xs) (hd : DtA K Hm xs ds) : Iter K Hm (Itl K a) ds where
  go := fun i d Hm2 H2 s1 s2 e => by
    obtain ⟨v, hv, dv⟩ := hd.get e
    have hl := (s1.trans s2).seq h
    refine ⟨⟨xs, v, hl, hv⟩, fun x H3 hy => ?_⟩
    obtain ⟨rfl, hf⟩ := hy
    have := hf xs hl
    rw [hv] at this
    cases this
    exact ⟨Hm2, Grow.refl s2, Dt.mono s1 _ dv⟩
  stop := fun Hm2 H2 s1 s2 => ⟨xs, (s1.trans s2).seq h, by rw [hd.length]; exact Nat.le_refl _⟩
theorem iter_tup (h : SqT K Hm a xs) (hd : DtA K Hm xs ds) : Iter K Hm (Itt K a) ds where
  go := fun i d Hm2 H2 s1 s2 e => by
    obtain ⟨v, hv, dv⟩ := hd.get e
    have hl := Same.sqt (s1.trans s2) h
    refine ⟨⟨xs, v, hl, hv⟩, fun x H3 hy => ?_⟩
    obtain ⟨rfl, hf⟩ := hy
    have := hf xs hl
    rw [hv] at this
    cases this
    exact ⟨Hm2, Grow.refl s2, Dt.mono s1 _ dv⟩
  stop := fun Hm2 H2 s1 s2 => ⟨xs, Same.sqt (s1.trans s2) h, by rw [hd.length]; exact Nat.le_refl _⟩
theorem rangeD_get {lo : Int} {n i : Nat} {d : D} (h : (rangeD lo n)[i]? = some d) : i < n ∧ d = .int (lo + i) := by
  unfold rangeD at h
  rw [List.getElem?_map] at h
  by_cases hi : i < n
  · rw [List.getElem?_range hi] at h
    cases h
    exact ⟨hi, rfl⟩
  · rw [List.getElem?_eq_none (by simpa using hi)] at h
    cases h
theorem rangeD_len {lo : Int} {n : Nat} : (rangeD lo n).length = n := by unfold rangeD; simp
theorem iter_range {lo : Int} {n : Nat} : Iter K Hm (Itr lo n) (rangeD lo n) where
  go := fun i d Hm2 H2 s1 s2 e => by
    obtain ⟨hi, rfl⟩ := rangeD_get e
    refine ⟨hi, fun x H3 hy => ?_⟩
    obtain ⟨rfl, rfl⟩ := hy
    exact ⟨Hm2, Grow.refl s2, .int _⟩
  stop := fun Hm2 H2 _ _ => Nat.le_of_eq rangeD_len.symm
theorem iter_down {lo : Int} {n : Nat} : Iter K Hm (Itc lo (-1) n) ((List.range n).map fun k => D.int (lo - (k : Nat))) where
  go := fun i d Hm2 H2 s1 s2 e => by
    rw [List.getElem?_map] at e
    by_cases hi : i < n
    · rw [List.getElem?_range hi] at e
      cases e
      refine ⟨hi, fun x H3 hy => ?_⟩
      obtain ⟨rfl, rfl⟩ := hy
      refine ⟨Hm2, Grow.refl s2, ?_⟩
      rw [show lo + (i : Nat) * (-1) = lo - (i : Nat) by omega]
      exact .int _
    · rw [List.getElem?_eq_none (by simpa using hi)] at e
      cases e
  stop := fun Hm2 H2 _ _ => by
    show n ≤ _
    simp
theorem enumD_get : ∀ {ds : List D} {k i : Nat} {d : D}, (enumD k ds)[i]? = some d → ∃ e, ds[i]? = some e ∧ d = .tup [.int ((k + i : Nat) : Int), e]
  | [], _, _, _, h => by simp [enumD] at h
  | e :: ds, k, 0, d, h => by
    simp [enumD] at h
    exact ⟨e, rfl, by rw [← h]; rfl⟩
  | e :: ds, k, i + 1, d, h => by
    obtain ⟨e', h1, h2⟩ := enumD_get (ds := ds) (k := k + 1) (i := i) (d := d) (by simpa [enumD] using h)
    exact ⟨e', by simpa using h1, by rw [h2, show k + 1 + i = k + (i + 1) by omega]⟩
theorem enumD_len : ∀ {ds : List D} {k : Nat}, (enumD k ds).length = ds.length
  | [], _ => rfl
  | _ :: ds, k => by rw [enumD, List.length_cons, List.length_cons, enumD_len]
theorem iter_enum (h : SqL K Hm a xs) (hd : DtA K Hm xs ds) : Iter K Hm (Ite K a) (enumD 0 ds) where
  go := fun i d Hm2 H2 s1 s2 e => by
    obtain ⟨e', he, rfl⟩ := enumD_get e
    obtain ⟨v, hv, dv⟩ := hd.get he
    have hl := (s1.trans s2).seq h
    refine ⟨⟨xs, v, hl, hv⟩, fun x H3 hy => ?_⟩
    obtain ⟨T, y, rfl, hT, rfl, hf⟩ := hy
    have := hf xs hl
    rw [hv] at this
    cases this
    have g := Grow.one (o := .tup [.int (i : Nat), v]) s2 hT fun _ _ z => by cases z
    refine ⟨_, g, .tup (.of upd_same) (.cons ?_ (.cons (Dt.mono (s1.trans g.g) _ dv) .nil))⟩
    rw [Nat.zero_add]
    exact .int _
  stop := fun Hm2 H2 s1 s2 => ⟨xs, (s1.trans s2).seq h, by rw [hd.length, enumD_len]; exact Nat.le_refl _⟩
theorem zipD_get : ∀ {ds es : List D} {i : Nat} {d : D}, (zipD ds es)[i]? = some d → ∃ x y, ds[i]? = some x ∧ es[i]? = some y ∧ d = .tup [x, y]
  | [], _, _, _, h => by simp [zipD] at h
  | _ :: _, [], _, _, h => by simp [zipD] at h
  | x :: ds, y :: es, 0, d, h => by
    simp [zipD] at h
    exact ⟨x, y, rfl, rfl, h.symm⟩
  | x :: ds, y :: es, i + 1, d, h => by
    obtain ⟨x', y', h1, h2, h3⟩ := zipD_get (ds := ds) (es := es) (i := i) (d := d) (by simpa [zipD] using h)
    exact ⟨x', y', by simpa using h1, by simpa using h2, h3⟩
theorem zipD_len : ∀ {ds es : List D}, (zipD ds es).length = min ds.length es.length
  | [], es => by simp [zipD]
  | _ :: _, [] => by simp [zipD]
  | x :: ds, y :: es => by rw [zipD, List.length_cons, List.length_cons, List.length_cons, zipD_len]; omega
theorem iter_zip (h : SqL K Hm a xs) (hd : DtA K Hm xs ds) (h' : SqL K Hm b ys) (hd' : DtA K Hm ys es) : Iter K Hm (Itz K a b) (zipD ds es) where
  go := fun i d Hm2 H2 s1 s2 e => by
    obtain ⟨x1, y1, he, he', rfl⟩ := zipD_get e
    obtain ⟨v, hv, dv⟩ := hd.get he
    obtain ⟨w, hw, dw⟩ := hd'.get he'
    have hl := (s1.trans s2).seq h
    have hl' := (s1.trans s2).seq h'
    refine ⟨⟨xs, ys, v, w, hl, hl', hv, hw⟩, fun x H3 hy => ?_⟩
    obtain ⟨T, x2, y2, rfl, hT, rfl, hf, hf'⟩ := hy
    have e1 := hf xs hl
    have e2 := hf' ys hl'
    rw [hv] at e1
    rw [hw] at e2
    cases e1
    cases e2
    have g := Grow.one (o := .tup [v, w]) s2 hT fun _ _ z => by cases z
    exact ⟨_, g, .tup (.of upd_same) (.cons (Dt.mono (s1.trans g.g) _ dv) (.cons (Dt.mono (s1.trans g.g) _ dw) .nil))⟩
  stop := fun Hm2 H2 s1 s2 => ⟨xs, ys, (s1.trans s2).seq h, (s1.trans s2).seq h', by
    rw [hd.length, hd'.length, zipD_len]
    omega⟩
theorem iter_zipT (h : SqT K Hm a xs) (hd : DtA K Hm xs ds) (h' : SqT K Hm b ys) (hd' : DtA K Hm ys es) : Iter K Hm (RZ.ItzT K a b) (zipD ds es) where
  go := fun i d Hm2 H2 s1 s2 e => by
    obtain ⟨x1, y1, he, he', rfl⟩ := zipD_get e
    obtain ⟨v, hv, dv⟩ := hd.get he
    obtain ⟨w, hw, dw⟩ := hd'.get he'
    have hl := Same.sqt (s1.trans s2) h
    have hl' := Same.sqt (s1.trans s2) h'
    refine ⟨⟨xs, ys, v, w, hl, hl', hv, hw⟩, fun x H3 hy => ?_⟩
    obtain ⟨T, x2, y2, rfl, hT, rfl, hf, hf'⟩ := hy
    have e1 := hf xs hl
    have e2 := hf' ys hl'
    rw [hv] at e1
    rw [hw] at e2
    cases e1
    cases e2
    have g := Grow.one (o := .tup [v, w]) s2 hT fun _ _ z => by cases z
    exact ⟨_, g, .tup (.of upd_same) (.cons (Dt.mono (s1.trans g.g) _ dv) (.cons (Dt.mono (s1.trans g.g) _ dw) .nil))⟩
  stop := fun Hm2 H2 s1 s2 => ⟨xs, ys, Same.sqt (s1.trans s2) h, Same.sqt (s1.trans s2) h', by
    rw [hd.length, hd'.length, zipD_len]
    omega⟩
theorem iter_str {x : Str} : Iter K Hm (Its x) (x.cps.toList.map fun c => D.str ⟨#[c]⟩) where
  go := fun i d Hm2 H2 s1 s2 e => by
    rw [List.getElem?_map] at e
    cases q : x.cps.toList[i]? with
    | none => rw [q] at e; cases e
    | some c =>
      rw [q] at e
      cases e
      have hq : x.cps[i]? = some c := by simpa using q
      refine ⟨(Array.getElem?_eq_some_iff.mp hq).1, fun y H3 hy => ?_⟩
      obtain ⟨rfl, c', hc, rfl⟩ := hy
      rw [hq] at hc
      cases hc
      exact ⟨Hm2, Grow.refl s2, .str _⟩
  stop := fun Hm2 H2 _ _ => by
    show x.cps.size ≤ _
    simp
end
section
variable {X : Cx} {C : Ct} {tg e a b c : Expr} {f fa fb fc : EF} {fs : List EF} {p pos tpos : Pos}
theorem vi_seq (h : VE X C .im e f) : VI X C tg e (iSeq f) := by
  refine PI.mono (pi_seqV h) fun σ H R ⟨Hm, F, ρ, r, q⟩ => ⟨Hm, F, ρ, r, q.bind.imp fun p hq v Hm1 H1 F1 g1 s1 r1 x1 => ?_⟩
  obtain ⟨d, ρ'⟩ := p
  have x2 := x1.of_im
  cases d with
  | lst ds => cases x2 with | lst h1 h2 => exact ⟨_, rfl, .inl ⟨⟨_, r1.sub.seq (.inl h1)⟩, hq _ Hm1 H1 F1 s1 r1 (iter_list (.inl h1) h2)⟩⟩
  | tup ds => cases x2 with | tup h1 h2 => exact ⟨_, rfl, .inr ⟨⟨_, Same.sqt r1.sub h1⟩, hq _ Hm1 H1 F1 s1 r1 (iter_tup h1 h2)⟩⟩
  | _ => exact hq.elim
theorem smallI_of {i : Int} (h : smallI i = true) : -(2 ^ 62) ≤ i ∧ i < 2 ^ 62 := by
  unfold smallI at h
  rw [Bool.and_eq_true] at h
  exact ⟨of_decide_eq_true h.1, of_decide_eq_true h.2⟩
theorem vi_range1 (hm : X.mg "range" = none) (h : VA X C [a] 1 (eArgs fs)) (hg : Gl X "range" := by rfl) (hs : starEach [a] X.env = [(false, eval a X.env)] := by rfl) : VI X C tg (.Call (.Name "range" p) [a] [] pos) (iRange1 fs) := by
  refine PI.mono (pi_range1 hg hm h hs) fun σ H R ⟨Hm, F, ρ, r, q⟩ => ⟨Hm, F, ρ, r, q.bind.imp fun p hq vs Hm1 H1 F1 s1 r1 x1 hn => ?_⟩
  obtain ⟨ds, ρ'⟩ := p
  cases x1 with
  | nil => exact hq.elim
  | cons h1 h2 =>
    cases h2 with
    | cons => exact absurd hn (by simp)
    | nil =>
      cases h1 with
      | int j =>
        have hq : fin X.K C Hm H F (if smallI j = true then Rs.ok (rangeD 0 j.toNat, ρ') else Rs.bad) _ := hq
        by_cases hj : smallI j = true
        · rw [if_pos hj] at hq
          obtain ⟨z1, z2⟩ := smallI_of hj
          exact ⟨j, rfl, z1, z2, hq _ Hm1 H1 F1 s1 r1 iter_range⟩
        · rw [if_neg hj] at hq
          exact hq.elim
      | _ => exact hq.elim
theorem vi_range2 (hm : X.mg "range" = none) (h : VA X C [a, b] 2 (eArgs fs)) (hg : Gl X "range" := by rfl) (hs : starEach [a, b] X.env = [(false, eval a X.env), (false, eval b X.env)] := by rfl) (hs2 : starEach [b] X.env = [(false, eval b X.env)] := by rfl) : VI X C tg (.Call (.Name "range" p) [a, b] [] pos) (iRange2 fs) := by
  refine PI.mono (pi_range2 hg hm h hs hs2) fun σ H R ⟨Hm, F, ρ, r, q⟩ => ⟨Hm, F, ρ, r, q.bind.imp fun p hq vs Hm1 H1 F1 s1 r1 x1 hn => ?_⟩
  obtain ⟨ds, ρ'⟩ := p
  cases x1 with
  | nil => exact hq.elim
  | cons h1 h2 =>
    cases h2 with
    | nil => exact absurd hn (by simp)
    | cons h3 h4 =>
      cases h4 with
      | cons => exact absurd hn (by simp)
      | nil =>
        cases h1 with
        | int i =>
          cases h3 with
          | int j =>
            have hq : fin X.K C Hm H F (if (smallI i && smallI j) = true then Rs.ok (rangeD i (j - i).toNat, ρ') else Rs.bad) _ := hq
            by_cases hj : (smallI i && smallI j) = true
            · rw [if_pos hj] at hq
              rw [Bool.and_eq_true] at hj
              exact ⟨i, j, rfl, ⟨(smallI_of hj.1).1, (smallI_of hj.1).2, (smallI_of hj.2).1, (smallI_of hj.2).2⟩, hq _ Hm1 H1 F1 s1 r1 iter_range⟩
            · rw [if_neg hj] at hq
              exact hq.elim
          | _ => exact hq.elim
        | _ => cases h3 <;> exact hq.elim
theorem vi_rangeM (hm : X.mg "range" = none) (h : VA X C [a, b, c] 3 (eArgs fs)) (hg : Gl X "range" := by rfl) (hs : starEach [a, b, c] X.env = (false, eval a X.env) :: starEach [b, c] X.env := by rfl) (hpl : (backTo pos (starEach [b, c] X.env)).any (·.1) = false := by rfl) : VI X C tg (.Call (.Name "range" p) [a, b, c] [] pos) (iRangeM fs) := by
  refine PI.mono (pi_range3 hg hm h hs hpl) fun σ H R ⟨Hm, F, ρ, r, q⟩ => ⟨Hm, F, ρ, r, q.bind.imp fun p hq vs Hm1 H1 F1 s1 r1 x1 hn => ?_⟩
  obtain ⟨ds, ρ'⟩ := p
  cases x1 with
  | nil => exact hq.elim
  | cons h1 h2 =>
    cases h2 with
    | nil => exact absurd hn (by simp)
    | cons h3 h4 =>
      cases h4 with
      | nil => exact absurd hn (by simp)
      | cons h5 h6 =>
        cases h6 with
        | cons => exact absurd hn (by simp)
        | nil =>
          cases h1 with
          | int i =>
            cases h3 with
            | int j =>
              cases h5 with
              | int k =>
                have hq : fin X.K C Hm H F (if (smallI i && smallI j && decide (k = -1)) = true then Rs.ok ((List.range (i - j).toNat).map (fun k => D.int (i - (k : Nat))), ρ') else Rs.bad) _ := hq
                by_cases hj : (smallI i && smallI j && decide (k = -1)) = true
                · rw [if_pos hj] at hq
                  rw [Bool.and_eq_true, Bool.and_eq_true] at hj
                  have hq2 : ∀ (J : It) (Hm' H' : Hp) (F' : Fps), Step Hm H F Hm' H' F' → Rel X.K C Hm' H' F' σ ρ' → Iter X.K Hm' J ((List.range (i - j).toNat).map fun k => D.int (i - (k : Nat))) → R J H' := hq
                  have hk : k = -1 := of_decide_eq_true hj.2
                  refine ⟨i, j, k, (i - j).toNat, rfl, ?_, ?_⟩
                  · rw [hk]; exact RgC.neg (smallI_of hj.1.1).1 (smallI_of hj.1.1).2 (smallI_of hj.1.2).1 (smallI_of hj.1.2).2
                  · rw [hk]; exact hq2 _ Hm1 H1 F1 s1 r1 iter_down
                · rw [if_neg hj] at hq
                  exact hq.elim
              | _ => exact hq.elim
            | _ => cases h5 <;> exact hq.elim
          | _ => cases h3 <;> cases h5 <;> exact hq.elim
theorem vi_enum {elts : List Expr} {kk : Nat} (hm : X.mg "enumerate" = none) (h : VA X C [a] 1 (eArgs fs)) (hg : Gl X "enumerate" := by rfl) (hs : starEach [a] X.env = [(false, eval a X.env)] := by rfl) : VI X C (.Tuple elts kk tpos) (.Call (.Name "enumerate" p) [a] [] pos) (iEnumF fs) := by
  refine PI.mono (pi_enum hg hm h hs) fun σ H R ⟨Hm, F, ρ, r, q⟩ => ⟨Hm, F, ρ, r, q.bind.imp fun p hq vs Hm1 H1 F1 s1 r1 x1 hn => ?_⟩
  obtain ⟨ds, ρ'⟩ := p
  cases x1 with
  | nil => exact hq.elim
  | cons h1 h2 =>
    cases h2 with
    | cons => exact absurd hn (by simp)
    | nil =>
      cases h1 with
      | lst h3 h4 => exact ⟨_, _, rfl, r1.sub.seq (.inl h3), hq _ Hm1 H1 F1 s1 r1 (iter_enum (.inl h3) h4)⟩
      | _ => exact hq.elim
theorem vi_zip {elts : List Expr} {kk : Nat} (hm : X.mg "zip" = none) (h : VA X C [a, b] 2 (eArgs fs)) (hg : Gl X "zip" := by rfl) (hs : starEach [a, b] X.env = (false, eval a X.env) :: starEach [b] X.env := by rfl) (hpl : (backTo pos (starEach [b] X.env)).any (·.1) = false := by rfl) : VI X C (.Tuple elts kk tpos) (.Call (.Name "zip" p) [a, b] [] pos) (iZipF fs) := by
  refine PI.mono (RZ.pi_zipA hg hm h hs hpl) fun σ H R ⟨Hm, F, ρ, r, q⟩ => ⟨Hm, F, ρ, r, q.bind.imp fun p hq vs Hm1 H1 F1 s1 r1 x1 hn => ?_⟩
  obtain ⟨ds, ρ'⟩ := p
  cases x1 with
  | nil => exact hq.elim
  | cons h1 h2 =>
    cases h2 with
    | nil => exact absurd hn (by simp)
    | cons h3 h4 =>
      cases h4 with
      | cons => exact absurd hn (by simp)
      | nil =>
        cases h1 with
        | lst h5 h6 =>
          cases h3 with
          | lst h7 h8 => exact ⟨_, _, _, _, rfl, .inl ⟨r1.sub.seq (.inl h5), r1.sub.seq (.inl h7), hq _ Hm1 H1 F1 s1 r1 (iter_zip (.inl h5) h6 (.inl h7) h8)⟩⟩
          | _ => exact hq.elim
        | tup h5 h6 =>
          cases h3 with
          | tup h7 h8 => exact ⟨_, _, _, _, rfl, .inr ⟨Same.sqt r1.sub h5, Same.sqt r1.sub h7, hq _ Hm1 H1 F1 s1 r1 (iter_zipT h5 h6 h7 h8)⟩⟩
          | _ => exact hq.elim
        | _ => cases h3 <;> exact hq.elim
theorem vi_str (h : VE X C .im e f) : VI X C tg e (iStrF f) := by
  refine PI.mono (pi_str h) fun σ H R ⟨Hm, F, ρ, r, q⟩ => ⟨Hm, F, ρ, r, q.bind.imp fun p hq v Hm1 H1 F1 g1 s1 r1 x1 => ?_⟩
  obtain ⟨d, ρ'⟩ := p
  have x2 := x1.of_im
  cases d with
  | str x => cases x2; exact ⟨x, rfl, hq _ Hm1 H1 F1 s1 r1 iter_str⟩
  | _ => exact hq.elim
end

/-! ### comprehensions -/
theorem wipe_get {σ : St} {j : Nat} : ∀ {vs : List Nat}, j ∉ vs → (wipe σ vs)[j]? = σ[j]?
  | [], _ => rfl
  | i :: is, h => by
    show ((wipe σ is).set i none)[j]? = _
    rw [List.getElem?_set_ne (fun e => h (by simp [e]))]
    exact wipe_get fun z => h (List.mem_cons_of_mem _ z)
theorem wipe_own {σ : St} {j : Nat} : ∀ {vs : List Nat}, j ∈ vs → (wipe σ vs)[j]? = if j < σ.length then some none else none
  | [], h => by cases h
  | i :: is, h => by
    show ((wipe σ is).set i none)[j]? = _
    by_cases e : j = i
    · subst e
      by_cases hl : j < σ.length
      · rw [List.getElem?_set_self (by rw [wipe_length]; exact hl), if_pos hl]
      · rw [List.getElem?_eq_none (by rw [List.length_set, wipe_length]; omega), if_neg hl]
    · rw [List.getElem?_set_ne (Ne.symm e)]
      exact wipe_own ((List.mem_cons.mp h).resolve_left e)
theorem wipe_eq {σ σ2 : St} {vs : List Nat} (k : ∀ j, j ∉ vs → σ2[j]? = (wipe σ vs)[j]?) (l : σ2.length = (wipe σ vs).length) : wipe σ2 vs = wipe σ vs := by
  refine List.ext_getElem? fun j => ?_
  by_cases h : j ∈ vs
  · rw [wipe_own h, wipe_own h, l, wipe_length]
  · rw [wipe_get h, k j h]
theorem wipeE_len {ρ : En} : ∀ {vs : List Nat}, (wipeE ρ vs).length = ρ.length
  | [] => rfl
  | i :: is => by unfold wipeE; rw [List.length_set, wipeE_len]
theorem wipeE_get {ρ : En} {j : Nat} : ∀ {vs : List Nat}, j ∉ vs → (wipeE ρ vs)[j]? = ρ[j]?
  | [], _ => rfl
  | i :: is, h => by
    show ((wipeE ρ is).set i none)[j]? = _
    rw [List.getElem?_set_ne (fun e => h (by simp [e]))]
    exact wipeE_get fun z => h (List.mem_cons_of_mem _ z)
theorem wipeE_own {ρ : En} {j : Nat} {d : D} : ∀ {vs : List Nat}, j ∈ vs → (wipeE ρ vs)[j]? ≠ some (some d)
  | [], h, _ => by cases h
  | i :: is, h, e => by
    have e : ((wipeE ρ is).set i none)[j]? = some (some d) := e
    by_cases z : j = i
    · subst z
      rw [List.getElem?_set] at e
      simp only [if_true] at e
      split at e <;> cases e
    · rw [List.getElem?_set_ne (Ne.symm z)] at e
      exact wipeE_own ((List.mem_cons.mp h).resolve_left z) e
theorem backE_len {ρ0 ρ : En} : ∀ {vs : List Nat}, (backE ρ0 ρ vs).length = ρ.length
  | [] => rfl
  | i :: is => by unfold backE; rw [List.length_set, backE_len]
theorem backE_get {ρ0 ρ : En} {j : Nat} : ∀ {vs : List Nat}, j ∉ vs → (backE ρ0 ρ vs)[j]? = ρ[j]?
  | [], _ => rfl
  | i :: is, h => by
    show ((backE ρ0 ρ is).set i _)[j]? = _
    rw [List.getElem?_set_ne (fun e => h (by simp [e]))]
    exact backE_get fun z => h (List.mem_cons_of_mem _ z)
theorem backE_own {ρ0 ρ : En} {j : Nat} {d : D} : ∀ {vs : List Nat}, j ∈ vs → (backE ρ0 ρ vs)[j]? = some (some d) → ρ0[j]? = some (some d)
  | [], h, _ => by cases h
  | i :: is, h, e => by
    have e : ((backE ρ0 ρ is).set i ((ρ0[i]?).getD none))[j]? = some (some d) := e
    by_cases z : j = i
    · subst z
      rw [List.getElem?_set] at e
      simp only [if_true] at e
      split at e
      · cases q : ρ0[j]? with
        | none => rw [q] at e; cases e
        | some x => rw [q] at e; exact e
      · cases e
    · rw [List.getElem?_set_ne (Ne.symm z)] at e
      exact backE_own ((List.mem_cons.mp h).resolve_left z) e
section
variable {K : PySem.W.Frag} {C : Ct} {Hm H Hm0 H0 : Hp} {F F0 : Fps} {σ : St} {ρ ρ0 : En} {vs : List Nat}
theorem Rel.wipe (r : Rel K C Hm H F σ ρ) (hR : ∀ i ∈ C.R, i ∉ vs) : Rel K C Hm H F (L2.wipe σ vs) (wipeE ρ vs) where
  ls := by rw [wipe_length]; exact r.ls
  lr := by rw [wipeE_len]; exact r.lr
  sl := fun i d h => by
    by_cases hi : i ∈ vs
    · exact absurd h (wipeE_own hi)
    · rw [wipeE_get hi] at h
      rw [wipe_get hi]
      exact r.sl i d h
  nd := r.nd
  dj := r.dj
  un := r.un
  sub := r.sub
  bd := r.bd
  tp := r.tp
  fz := r.fz
  he := r.he
  ow := r.ow
  fx := fun i hi => by rw [wipe_get (hR i hi), wipeE_get (hR i hi)]; exact r.fx i hi
/-- behind a comprehension: its own slots are as they were -/
theorem Rel.unwipe {σ2 : St} (r : Rel K C Hm H F σ2 ρ) (r0 : Rel K C Hm0 H0 F0 σ ρ0) (sm : Same Hm0 Hm) (hm : ∀ i ∈ vs, C.Γ[i]? = some .im) (k : ∀ j, j ∉ vs → σ2[j]? = σ[j]?) : Rel K C Hm H (fun i => if i ∈ vs then [] else F i) σ (backE ρ0 ρ vs) where
  ls := r0.ls
  lr := by rw [backE_len]; exact r.lr
  sl := fun i d h => by
    by_cases hi : i ∈ vs
    · have h := backE_own hi h
      obtain ⟨v, h1, h2⟩ := r0.atIm h (hm i hi)
      refine ⟨v, .im, h1, hm i hi, Dt.mono sm _ h2, ?_⟩
      show (if i ∈ vs then [] else F i) = []
      rw [if_pos hi]
    · rw [backE_get hi] at h
      rw [← k i hi]
      obtain ⟨v, m, h1, h2, h3⟩ := r.sl i d h
      refine ⟨v, m, h1, h2, ?_⟩
      show RdM K Hm H m v d (if i ∈ vs then [] else F i)
      rw [if_neg hi]
      exact h3
  nd := fun i => by
    show (if i ∈ vs then [] else F i).Nodup
    split
    · exact List.nodup_nil
    · exact r.nd i
  dj := fun i j a hi hj => by
    have hi : a ∈ (if i ∈ vs then [] else F i) := hi
    have hj : a ∈ (if j ∈ vs then [] else F j) := hj
    split at hi
    · cases hi
    · split at hj
      · cases hj
      · exact r.dj i j a hi hj
  un := fun i a hi => by
    have hi : a ∈ (if i ∈ vs then [] else F i) := hi
    split at hi
    · cases hi
    · exact r.un i a hi
  sub := r.sub
  bd := fun i a hi => by
    have hi : a ∈ (if i ∈ vs then [] else F i) := hi
    split at hi
    · cases hi
    · exact r.bd i a hi
  tp := r.tp
  fz := r.fz
  he := r.he
  ow := fun i a hi => by
    have hi : a ∈ (if i ∈ vs then [] else F i) := hi
    split at hi
    · cases hi
    · exact r.ow i a hi
  fx := fun i hi => by
    obtain ⟨h1, d, h2⟩ := r.fx i hi
    obtain ⟨h3, d0, h4⟩ := r0.fx i hi
    refine ⟨h3, ?_⟩
    by_cases hv : i ∈ vs
    · exact ⟨d0, by
        have : ∀ {vs : List Nat}, i ∈ vs → (backE ρ0 ρ vs)[i]? = some (some d0) := by
          intro vs
          induction vs with
          | nil => intro h; cases h
          | cons j js ih =>
            intro h
            show ((backE ρ0 ρ js).set j ((ρ0[j]?).getD none))[i]? = _
            by_cases e : i = j
            · subst e
              have hl : i < C.Γ.length := by rw [← r0.lr]; exact (List.getElem?_eq_some_iff.mp h4).1
              rw [List.getElem?_set_self (by rw [backE_len, r.lr]; exact hl), h4]
              rfl
            · rw [List.getElem?_set_ne (Ne.symm e)]
              exact ih ((List.mem_cons.mp h).resolve_left e)
        exact this hv⟩
    · exact ⟨d, by rw [backE_get hv]; exact h2⟩
/-- a list that nobody holds yet is rewritten -/
theorem Rel.tmp (r : Rel K C Hm H F σ ρ) {p : Addr} {ys : List V} (hp : ∀ i, p ∉ F i) (hm : Hm p = none) : Rel K C Hm (upd H p (.lst ys)) F σ ρ where
  ls := r.ls
  lr := r.lr
  sl := fun i d h => by
    obtain ⟨v, m, h1, h2, h3⟩ := r.sl i d h
    refine ⟨v, m, h1, h2, h3.step (Same.refl _) fun a ha o ho => ?_⟩
    have : a ≠ p := fun z => by subst z; exact hp i ha
    rw [upd_ne this]
    exact ho
  nd := r.nd
  dj := r.dj
  un := r.un
  sub := fun b o e => by
    have : b ≠ p := fun z => by subst z; rw [hm] at e; cases e
    rw [upd_ne this]
    exact r.sub b o e
  bd := fun i a ha => by
    obtain ⟨o, ho⟩ := r.bd i a ha
    have : a ≠ p := fun z => by subst z; exact hp i ha
    exact ⟨o, by rw [upd_ne this]; exact ho⟩
  tp := fun b xs e => by
    by_cases z : b = p
    · subst z; rw [upd_same] at e; cases e
    · rw [upd_ne z] at e; exact r.tp b xs e
  fz := fun b o u e => by
    by_cases z : b = p
    · subst z; rw [upd_same] at e; cases e
    · rw [upd_ne z] at e; exact r.fz b o u e
  he := fun b e => by
    by_cases z : b = p
    · subst z; rw [upd_same] at e; cases e
    · rw [upd_ne z] at e; exact r.he b e
  ow := r.ow
  fx := r.fx
theorem Step.tmp {p : Addr} {ys : List V} (s : Step Hm0 H0 F0 Hm H F) (hp : H0 p = none) : Step Hm0 H0 F0 Hm (upd H p (.lst ys)) F where
  sm := s.sm
  kp := fun b o e hf => by rw [upd_ne (ne_of_none e hp)]; exact s.kp b o e hf
  nw := s.nw
  fn := s.fn
  dm := fun b e => by
    by_cases z : b = p
    · subst z; rw [upd_same] at e; cases e
    · rw [upd_ne z] at e; exact s.dm b e
end
theorem Step.less {Hm H Hm' H' : Hp} {F F' F2 : Fps} (s : Step Hm H F Hm' H' F') (h : ∀ i b, b ∈ F2 i → b ∈ F' i) : Step Hm H F Hm' H' F2 := ⟨s.sm, s.kp, s.nw, fun i b hb => s.fn i b (h i b hb), s.dm⟩
theorem back_wipe {ρ0 ρ : En} {vs : List Nat} : backE ρ0 (wipeE ρ vs) vs = backE ρ0 ρ vs := by
  refine List.ext_getElem? fun j => ?_
  by_cases h : j ∈ vs
  · have own : ∀ {ρ : En} {vs : List Nat}, j ∈ vs → (backE ρ0 ρ vs)[j]? = if j < ρ.length then some ((ρ0[j]?).getD none) else none := by
      intro ρ vs
      induction vs with
      | nil => intro h; cases h
      | cons i is ih =>
        intro h
        show ((backE ρ0 ρ is).set i ((ρ0[i]?).getD none))[j]? = _
        by_cases e : j = i
        · subst e
          by_cases hl : j < ρ.length
          · rw [List.getElem?_set_self (by rw [backE_len]; exact hl), if_pos hl]
          · rw [List.getElem?_eq_none (by rw [List.length_set, backE_len]; omega), if_neg hl]
        · rw [List.getElem?_set_ne (Ne.symm e)]
          exact ih ((List.mem_cons.mp h).resolve_left e)
    rw [own h, own h, wipeE_len]
  · rw [backE_get h, backE_get h, wipeE_get h]
theorem comp_red {X : Cx} {C : Ct} {κ : Md} {own : List Nat} {src : IF} {g : GF} {t : TF} {ef : EF} {σ : St} {H : Hp} {Q : VK} (hR : ∀ i ∈ C.R, i ∉ own) (hm : ∀ i ∈ own, C.Γ[i]? = some .im)
    (h : tE X.K C (.ow κ) (eComp own src g t ef) σ H Q) : tLc (tI X.K C src) (tGt X.K C own g) (tT X.K C t) (tE X.K C κ ef) own σ H Q := by
  obtain ⟨Hm, F, ρ, r, q⟩ := h
  refine ⟨Hm, F, ρ, r, q.bind.imp fun p hq J Hm1 H1 F1 s1 r1 it D hD => ?_⟩
  obtain ⟨ds, ρ1⟩ := p
  have hq : fin X.K C Hm H F (if ds.length ≤ LINE then compN own g t ef ds ρ1 [] >>= fun q => Rs.ok (.lst q.1, backE ρ1 q.2 own) else Rs.bad) (OkE X.K C (.ow κ) Hm H F σ Q) := hq
  have hlen : ds.length ≤ LINE := by
    by_cases hlen : ds.length ≤ LINE
    · exact hlen
    · rw [if_neg hlen] at hq; exact hq.elim
  rw [if_pos hlen] at hq
  have hq := hq.bind
  have hD0 : H D = none := s1.dm D hD
  have hDF : ∀ i, D ∉ F1 i := fun i hi => by obtain ⟨o, ho⟩ := r1.bd i D hi; rw [hD] at ho; cases ho
  have hDm : Hm1 D = none := Same.none r1.sub hD
  -- what stands between the turns
  refine ⟨fun i m H' => ∃ Hm' F' ρ' acc fp, Step Hm1 H1 F1 Hm' H' F' ∧ Rel X.K C Hm' H' F' (wipe σ own) (wipeE ρ' own) ∧ ρ'.length = C.Γ.length ∧ i + m = ds.length ∧ acc.length ≤ i ∧ Val X.K H1 Hm' H' F' (.ow κ) (.ref D) (.lst acc) (D :: fp) ∧
      fin X.K C Hm1 H1 F1 (compN own g t ef (ds.drop i) ρ' acc) fun q => OkE X.K C (.ow κ) Hm H F σ Q (.lst q.1, backE ρ1 q.2 own),
    ⟨ds.length, Hm1, F1, ρ1, [], [], ?_, ?_, r1.lr, by omega, Nat.le_refl _, ?_, ?_⟩, ?_⟩
  · exact (Step.refl).tmp hD
  · exact (r1.wipe hR).tmp hDF hDm
  · refine ⟨⟨D, rfl, .inl ⟨[], [], [], rfl, upd_same, .nil, rfl⟩⟩, by simp, fun a ha => ?_, fun a ha i => ?_, fun a ha => ?_⟩ <;> rw [List.mem_singleton.mp ha]
    · exact hDm
    · exact hDF i
    · exact hD
  · exact hq.step s1
  rintro i m H2 ⟨Hm2, F2, ρ2, acc, fp, s2, r2, l2, hl, ha, v2, q2⟩
  by_cases hlt : i < ds.length
  · right
    rw [List.drop_eq_getElem_cons hlt] at q2
    have q2 := q2.bind
    obtain ⟨hgo, hy⟩ := it.go i _ Hm2 H2 s2.sm r2.sub (List.getElem?_eq_getElem hlt)
    refine ⟨hgo, fun H' => ∃ Hm' F' ρ' acc fp, Step Hm1 H1 F1 Hm' H' F' ∧ Rel X.K C Hm' H' F' (wipe σ own) (wipeE ρ' own) ∧ ρ'.length = C.Γ.length ∧ acc.length ≤ i + 1 ∧ Val X.K H1 Hm' H' F' (.ow κ) (.ref D) (.lst acc) (D :: fp) ∧
      fin X.K C Hm1 H1 F1 (compN own g t ef (ds.drop (i + 1)) ρ' acc) fun q => OkE X.K C (.ow κ) Hm H F σ Q (.lst q.1, backE ρ1 q.2 own), ?_, fun x H3 hx => ?_⟩
    · rintro H' ⟨Hm', F', ρ', acc', fp', h1, h2, h3, h4, h5, h6⟩
      exact ⟨m - 1, by omega, Hm', F', ρ', acc', fp', h1, h2, h3, by omega, h4, h5, h6⟩
    obtain ⟨Hm3, g3, d3⟩ := hy x H3 hx
    obtain ⟨r3, s3⟩ := r2.grow g3
    have v3 := v2.step s3
    refine ⟨Hm3, F2, _, _, r3, d3, (q2.step (s2.trans s3)).imp fun ρ4 hq4 Hm4 H4 F4 σ4 s4 r4 k4 l4 => ⟨wipe_eq k4 l4, ?_⟩⟩
    have v4 := v3.step s4
    refine ⟨Hm4, F4, ρ4, r4, (hq4.bind.step (s2.trans (s3.trans s4))).imp fun p5 hq5 Hm5 H5 F5 s5 r5 => ?_⟩
    obtain ⟨b, ρ5⟩ := p5
    have v5 := v4.step s5
    have rw5 : Rel X.K C Hm5 H5 F5 (wipe σ own) (wipeE ρ5 own) := by
      have := r5.wipe hR
      rw [wipe_eq k4 l4] at this
      exact this
    cases b with
    | false =>
      refine iteF ⟨Hm5, F5, ρ5, acc, fp, s2.trans (s3.trans (s4.trans s5)), rw5, r5.lr, by omega, v5, ?_⟩
      exact hq5
    | true =>
      refine iteT ?_
      have hq5 : fin X.K C Hm1 H1 F1 (ef ρ5 >>= fun q => compN own g t ef (ds.drop (i + 1)) q.2 (acc ++ [q.1])) _ := hq5
      refine ⟨Hm5, F5, ρ5, r5, (hq5.bind.step (s2.trans (s3.trans (s4.trans s5)))).imp fun p6 hq6 y Hm6 H6 F6 g6 s6 r6 x6 => ?_⟩
      have v6 := v5.step s6
      obtain ⟨a6, ea, h6⟩ := v6.rd
      cases ea
      rcases h6 with ⟨xs, dsA, gg, e1, e2, hall, e3⟩ | ⟨kvs, kds, gg, e1, _⟩ | ⟨_, _, _, _, _, _, e1, _⟩
      rotate_left
      · cases e1
      · cases e1
      cases e1
      cases e3
      have hap : ∀ i, D ∉ F6 i := v6.ap D List.mem_cons_self
      have hDg : D ∉ fp := (List.nodup_cons.mp v6.nd).1
      have hD6 : D ∉ g6 := fun z => by
        have := x6.nw D z
        obtain ⟨o, ho⟩ := v5.rd.bound D List.mem_cons_self
        rw [ho] at this; cases this
      have dj6 : ∀ a, a ∈ fp → a ∉ g6 := fun a h1 h2 => by
        have := x6.nw a h2
        obtain ⟨o, ho⟩ := v5.rd.bound a (List.mem_cons_of_mem _ h1)
        rw [ho] at this; cases this
      have st6 : Step Hm1 H1 F1 Hm6 H6 F6 := s2.trans (s3.trans (s4.trans (s5.trans s6)))
      refine ⟨xs, e2, ?_, Hm6, F6, p6.2, acc ++ [p6.1], fp ++ g6, st6.tmp hD, ?_, r6.lr, ?_, ?_, ?_⟩
      · rw [hall.length]
        have : acc.length < LINE := Nat.lt_of_le_of_lt ha (Nat.lt_of_lt_of_le hlt hlen)
        rw [sizeLine_eq]
        exact this
      · have := (r6.wipe hR).tmp (ys := xs ++ [y]) hap (v6.un D List.mem_cons_self)
        rw [wipe_eq k4 l4] at this
        exact this
      · rw [List.length_append]
        show acc.length + 1 ≤ i + 1
        omega
      · refine ⟨⟨D, rfl, .inl ⟨xs ++ [y], acc ++ [p6.1], fp ++ g6, rfl, upd_same, ?_, rfl⟩⟩, ?_, fun a ha => ?_, fun a ha => ?_, fun a ha => ?_⟩
        · refine (AllM.append hall (AllM.one x6.rd)).imp fun v d gx hgx hh => hh.step (Same.refl _) fun a haa o ho => ?_
          have : a ≠ D := fun z => by
            subst z
            rcases List.mem_append.mp (hgx a haa) with z | z
            · exact hDg z
            · exact hD6 z
          rw [upd_ne this]
          exact ho
        · rw [← List.cons_append, List.nodup_append]
          refine ⟨v6.nd, x6.nd, fun a h1 b h2 e => ?_⟩
          subst e
          rcases List.mem_cons.mp h1 with rfl | h1
          · exact hD6 h2
          · exact dj6 a h1 h2
        · rcases List.mem_cons.mp ha with rfl | ha
          · exact v6.un _ List.mem_cons_self
          · rcases List.mem_append.mp ha with ha | ha
            · exact v6.un a (List.mem_cons_of_mem _ ha)
            · exact x6.un a ha
        · rcases List.mem_cons.mp ha with rfl | ha
          · exact hap
          · rcases List.mem_append.mp ha with ha | ha
            · exact v6.ap a (List.mem_cons_of_mem _ ha)
            · exact x6.ap a ha
        · rcases List.mem_cons.mp ha with rfl | ha
          · exact hD
          · rcases List.mem_append.mp ha with ha | ha
            · exact v6.nw a (List.mem_cons_of_mem _ ha)
            · exact (s2.trans (s3.trans (s4.trans s5))).dm a (x6.nw a ha)
      · exact hq6
  · left
    have e : i = ds.length := by omega
    subst e
    rw [List.drop_length] at q2
    refine ⟨it.stop Hm2 H2 s2.sm r2.sub, ?_⟩
    have q2 : OkE X.K C (.ow κ) Hm H F σ Q (.lst acc, backE ρ1 ρ2 own) := q2
    have r3 := r2.unwipe (ρ0 := ρ1) r1 s2.sm hm (fun j hj => wipe_get hj)
    rw [back_wipe] at r3
    refine q2 (.ref D) Hm2 H2 _ (D :: fp) ((s1.trans s2).less fun i b hb => ?_) r3 ⟨v2.rd, v2.nd, v2.un, fun a ha i hi => ?_, fun a ha => s1.dm a (v2.nw a ha)⟩
    · have hb : b ∈ (if i ∈ own then [] else F2 i) := hb
      split at hb
      · cases hb
      · exact hb
    · have hi : a ∈ (if i ∈ own then [] else F2 i) := hi
      split at hi
      · cases hi
      · exact v2.ap a ha i hi
section
variable {X : Cx} {C : Ct} {κ rm : Md} {own : List (Str × Nat)} {src : IF} {g : GF} {t : TF} {ef : EF} {elt tg iter : Expr} {ifs : List Expr} {scope : Scope} {pos : Pos}
theorem ve_comp (hi : VI X C tg iter src) (ok : BlkOk X.N X.env.scope scope own)
    (hg : ∀ (s : Shared) (H : Hp) (C' : Addr) (cl : List (Str × Addr)) (fp : List Addr), PG (X.blk s H scope (compEnvC scope cl C' X.env) fp) tg (tGt X.K C (own.map (·.2)) g))
    (ht : ∀ (s : Shared) (H : Hp) (C' : Addr) (cl : List (Str × Addr)) (fp : List Addr), PTs (X.blk s H scope (compEnvC scope cl C' X.env) fp) ifs (tT X.K C t))
    (he : ∀ (s : Shared) (H : Hp) (C' : Addr) (cl : List (Str × Addr)) (fp : List Addr), PE (X.blk s H scope (compEnvC scope cl C' X.env) fp) elt (tE X.K C κ ef))
    (hR : ∀ i ∈ C.R, i ∉ own.map (·.2) := by exact ownR_of rfl) (hm : ∀ i ∈ own.map (·.2), C.Γ[i]? = some .im := by exact ownIm_of rfl) (hc : X.calm = true := by rfl) (hN : X.N.Nodup := by first | assumption | decide) (hs : ∀ x, foldedSetIterable iter X.env x = pure x := by intro _; rfl) :
    VE X C (.ow κ) (.ListComp elt [⟨tg, iter, ifs, 0⟩] scope pos) (eComp (own.map (·.2)) src g t ef) :=
  PE.mono (pe_lc hc hN hi ok hg ht he hs) fun _ _ _ => comp_red hR hm
/-- y = [..] on one line, y a local -/
theorem vs_setC {i : Nat} {y : Str} {py spos : Pos} (hsw : swapsWith (.ListComp elt [⟨tg, iter, ifs, 0⟩] scope pos) (some (.Name y py)) spos.line X.env = pure true) (hi : VI X C tg iter src) (ok : BlkOk X.N X.env.scope scope own)
    (hg : ∀ (s : Shared) (H : Hp) (C' : Addr) (cl : List (Str × Addr)) (fp : List Addr), PG (X.blk s H scope (compEnvC scope cl C' X.env) fp) tg (tGt X.K C (own.map (·.2)) g))
    (ht : ∀ (s : Shared) (H : Hp) (C' : Addr) (cl : List (Str × Addr)) (fp : List Addr), PTs (X.blk s H scope (compEnvC scope cl C' X.env) fp) ifs (tT X.K C t))
    (he : ∀ (s : Shared) (H : Hp) (C' : Addr) (cl : List (Str × Addr)) (fp : List Addr), PE (X.blk s H scope (compEnvC scope cl C' X.env) fp) elt (tE X.K C κ ef))
    (κ' : Md) (hκ : κ' = .ow κ ∨ κ' = .im) (hΓ : C.Γ[i]? = some κ' := by rfl) (hiR : i ∉ C.R := by exact notIn_of rfl)
    (hR : ∀ i ∈ C.R, i ∉ own.map (·.2) := by exact ownR_of rfl) (hm : ∀ i ∈ own.map (·.2), C.Γ[i]? = some .im := by exact ownIm_of rfl) (hc : X.calm = true := by rfl) (hN : X.N.Nodup := by first | assumption | decide) (hy : X.N[i]? = some y := by rfl) (hyl : X.env.scope.names.lookup y = some .local := by rfl) (hs : ∀ x, foldedSetIterable iter X.env x = pure x := by intro _; rfl) :
    VS X C rm (.Assign [.Name y py] (.ListComp elt [⟨tg, iter, ifs, 0⟩] scope pos) spos) (sSet i (eComp (own.map (·.2)) src g t ef)) := by
  refine PS.mono (ps_setLc hc hN hy hyl hsw hi ok hg ht he hs) fun D σ H ⟨Hm, F, ρ, r, q⟩ => ?_
  refine comp_red (Q := fun x H1 => D.nx (σ.set i (some x)) H1) hR hm ⟨Hm, F, ρ, r, q.bind.imp fun p hq v Hm1 H1 F1 g1 s1 r1 x1 => ?_⟩
  rcases hκ with rfl | rfl
  · exact hq Hm1 H1 _ _ (s1.put x1.nw) (r1.set x1 hΓ hiR fun a ha => r.he a (x1.nw a ha))
  · obtain ⟨Hm2, r2, s2, x2, n2⟩ := freeze r1 x1
    exact hq Hm2 H1 _ _ ((⟨s1.sm.trans s2, s1.kp, fun b o e => (n2 b o e).elim (fun z => s1.nw b o z) (fun z => .inr (.inr z)), s1.fn, s1.dm⟩ : Step Hm H F Hm2 H1 F1).put (g := []) fun a ha => by cases ha) (r2.set (Val.im (H0 := H) x2) hΓ hiR fun a ha => by cases ha)
end
end VL

set_option Elab.async false
set_option linter.all false
set_option maxRecDepth 100000
set_option maxHeartbeats 4000000
/-! V8: operations. -/
namespace L2
open PySem PySem.Spec PyProof.Rows
section
variable {X : Cx}
theorem Inv.lstR {pins : List (Addr × Obj)} {σ : St} {H : Hp} {s : Shared} {l : Addr} {xs : List V} (I : Inv X pins σ H s) (h : Rd H l (.lst xs)) : xs.length ≤ sizeLine ∧ ∃ (its : List Value) (n : Nat), Vals xs its ∧ xs.length = its.length ∧ s.heap.get? l = some { cls := .type "list", data := .seq its.toArray n } := by
  obtain ⟨z, its, n, r, e⟩ := h.ok I.hok
  exact ⟨z, its, n, r, r.length, e⟩
/-- list + list, also of a locked one -/
def rCatR : R2 := fun x y H Q => ∃ l b xs zs, x = .ref l ∧ y = .ref b ∧ Rd H l (.lst xs) ∧ Rd H b (.lst zs) ∧ xs.length + zs.length ≤ sizeLine ∧ ∀ p, H p = none → Q (.ref p) (upd H p (.lst (xs ++ zs)))
theorem op_catR : OpR X (binaryOp .Add) rCatR := by
  intro pins s σ H x y v u Q I rx ry h
  obtain ⟨l, b, xs, zs, rfl, rfl, hH, hB, hz, q⟩ := h
  cases rx
  cases ry
  obtain ⟨z, its, n, r, hl, e⟩ := I.lstR hH
  obtain ⟨z2, its2, n2, r2, hl2, e2⟩ := I.lstR hB
  refine PySem.P.add_list e e2 ?_ (by rw [List.size_toArray, List.size_toArray]; omega)
  have ea : its.toArray ++ its2.toArray = (its ++ its2).toArray := by simp
  rw [ea]
  exact ⟨.ref _, _, I.lnew (t' := s.toks) (r.append r2) (by rw [List.length_append]; omega), rfl, q _ I.fresh⟩
/-- a text times an int -/
def rRepS : R2 := fun x y H Q => ∃ a k, x = .str a ∧ y = .int k ∧ -(2 ^ 63) ≤ k ∧ k < 2 ^ 63 ∧ a.length * k.toNat ≤ sizeLine ∧ Q (.str (Txt.mul a k)) H
theorem op_repS : OpR X (binaryOp .Mult) rRepS := by
  intro pins s σ H x y v u Q I rx ry h
  obtain ⟨a, k, rfl, rfl, h1, h2, hz, q⟩ := h
  obtain ⟨t, rfl⟩ := rx
  obtain ⟨t', rfl⟩ := ry
  refine PySem.SB.mul ⟨by simp only [Bool.or_eq_false_iff, decide_eq_false_iff_not]; omega, fun hk hx => ?_, fun hk hx => ?_⟩ fun t' tk => ⟨.str _, H, I.tok _, ⟨_, rfl⟩, q⟩
  · have hk1 : 0 < k := by omega
    have e : ((a.length * k.toNat : Nat) : Int) = (a.length : Int) * k := by
      rw [Int.natCast_mul, Int.toNat_of_nonneg (by omega)]
    have hle : (a.length : Int) ≤ (2 ^ 63 - 1) / k := by
      refine (Int.le_ediv_iff_mul_le hk1).mpr ?_
      rw [← e]
      have : (sizeLine : Int) ≤ 2 ^ 63 - 1 := by decide
      omega
    omega
  · unfold Builtin.Str.tooLong
    exact decide_eq_false (by omega)
def rRepR : R2 := fun x y H Q => ∃ l k xs, x = .ref l ∧ y = .int k ∧ Rd H l (.lst xs) ∧ -(2 ^ 63) ≤ k ∧ k < 2 ^ 63 ∧ xs.length * k.toNat ≤ sizeLine ∧
  ∀ p, H p = none → Q (.ref p) (upd H p (.lst (List.replicate k.toNat xs).flatten))
end
end L2
namespace VL
open PySem PySem.Spec L2
theorem line_eq : sizeLine = LINE := sizeLine_eq
section
variable {K : PySem.W.Frag} {H0 G H : Hp}
theorem Res.lstIm {G H : Hp} {p : Addr} {xs : List V} {ds : List D} (h : DtA K G xs ds) (hp : H p = none) (s : Same G H) : Grow G H (upd G p (.lst xs)) (upd H p (.lst xs)) ∧ Res K H (upd G p (.lst xs)) (upd H p (.lst xs)) .im (.ref p) (.lst ds) [] := by
  have g := Grow.one (o := .lst xs) s hp fun _ _ z => by cases z
  exact ⟨g, Res.im (.lst (.of upd_same) (DtA.mono g.g _ h))⟩
theorem prim_add : Prim2 K (fun x y H Q => rI0 (fun i j => .int (i + j)) x y H Q ∨ (∃ i j, x = .str i ∧ y = .str j ∧ i.length + j.length ≤ sizeLine ∧ Q (.str (i ++ j)) H) ∨ rCatR x y H Q) addD .im := by
  intro G H x y d e z Q s hx hy hz q
  cases hx with
  | int i =>
    cases hy with
    | int j => cases hz; exact .inl ⟨i, j, rfl, rfl, q _ G H [] (Grow.refl s) (Res.im (.int _))⟩
    | _ => cases hz
  | str a =>
    cases hy with
    | str b =>
      have hz : (if a.length + b.length ≤ LINE then some (D.str (a ++ b)) else none) = some z := hz
      split at hz
      · rename_i hl
        cases hz
        exact .inr (.inl ⟨a, b, rfl, rfl, by rw [line_eq]; exact hl, q _ G H [] (Grow.refl s) (Res.im (.str _))⟩)
      · cases hz
    | _ => cases hz
  | @lst a xs ds h1 h2 =>
    cases hy with
    | @lst b ys es h3 h4 =>
      have hz : (if ds.length + es.length ≤ LINE then some (D.lst (ds ++ es)) else none) = some z := hz
      split at hz
      · rename_i hl
        cases hz
        refine .inr (.inr ⟨a, b, xs, ys, rfl, rfl, Same.rd s h1, Same.rd s h3, by rw [line_eq, h2.length, h4.length]; exact hl, fun p hp => ?_⟩)
        obtain ⟨g, r⟩ := Res.lstIm (DtA.append h2 h4) hp s
        exact q _ _ _ _ g r
      · cases hz
    | _ => cases hz
  | _ => cases hy <;> cases hz
theorem prim_cat : Prim2 K rCatR catD (.ow .im) := by
  intro G H x y d e z Q s hx hy hz q
  cases hx with
  | @lst a xs ds h1 h2 =>
    cases hy with
    | @lst b ys es h3 h4 =>
      have hz : (if ds.length + es.length ≤ LINE then some (D.lst (ds ++ es)) else none) = some z := hz
      split at hz
      · rename_i hl
        cases hz
        refine ⟨a, b, xs, ys, rfl, rfl, Same.rd s h1, Same.rd s h3, by rw [line_eq, h2.length, h4.length]; exact hl, fun p hp => ?_⟩
        exact q _ _ _ _ (Grow.own s hp (fun _ _ z => by cases z) fun _ z => by cases z) (Res.lst s hp (DtA.append h2 h4))
      · cases hz
    | _ => cases hz
  | _ => cases hy <;> cases hz
theorem prim_sub : Prim2 K (rI0 fun i j => .int (i - j)) subD .im := by
  intro G H x y d e z Q s hx hy hz q
  cases hx with
  | int i =>
    cases hy with
    | int j => cases hz; exact ⟨i, j, rfl, rfl, q _ G H [] (Grow.refl s) (Res.im (.int _))⟩
    | _ => cases hz
  | _ => cases hy <;> cases hz
theorem dt_rep {xs : List V} {ds : List D} (h : DtA K G xs ds) : ∀ k : Nat, DtA K G (List.replicate k xs).flatten (List.replicate k ds).flatten
  | 0 => .nil
  | k + 1 => by
    rw [List.replicate_succ, List.replicate_succ, List.flatten_cons, List.flatten_cons]
    exact DtA.append h (dt_rep h k)
end
section
variable {X : Cx}
theorem op_addG : OpR X (binaryOp .Add) (fun x y H Q => rI0 (fun i j => .int (i + j)) x y H Q ∨ (∃ i j, x = .str i ∧ y = .str j ∧ i.length + j.length ≤ sizeLine ∧ Q (.str (i ++ j)) H) ∨ rCatR x y H Q) := op_add.or (op_add_str.or op_catR)
end
end VL

set_option Elab.async false
set_option linter.all false
set_option maxRecDepth 100000
set_option maxHeartbeats 4000000
/-! V8b: more operations. -/
namespace L2
open PySem PySem.Spec PyProof.Rows PySem.AutoListH
section
variable {X : Cx}
theorem op_repR : OpR X (binaryOp .Mult) rRepR := by
  intro pins s σ H x y v u Q I rx ry h
  obtain ⟨l, k, xs, rfl, rfl, hH, h1, h2, hz, q⟩ := h
  cases rx
  obtain ⟨t, rfl⟩ := ry
  obtain ⟨z, its, n, r, hl, e⟩ := I.lstR hH
  have hlen : its.toArray.size * k.toNat ≤ sizeLine := by rw [List.size_toArray, ← hl]; exact hz
  have hcap : ¬ its.toArray.size * k.toNat > (2 ^ 63 - 1) / 8 := by
    have : (sizeLine : Nat) ≤ (2 ^ 63 - 1) / 8 := by decide
    omega
  have hfit : ¬ (!Builtin.List.listFitsIndex k) = true := by
    rw [fitsIndex_both h1 h2]
    exact Bool.false_ne_true
  have hlong : ¬ Builtin.List.listTooLong (its.toArray.size * k.toNat) = true := by
    rw [notLongL hlen]
    exact Bool.false_ne_true
  have hnew : List.foldl (fun x1 x2 => x1 ++ x2) #[] (List.replicate (if its.toArray.isEmpty = true then 0 else k.toNat) its.toArray) = (List.replicate k.toNat its).flatten.toArray := by
    have f0 : ∀ m : Nat, List.foldl (fun x1 x2 => x1 ++ x2) #[] (List.replicate m its.toArray) = (List.replicate m its).flatten.toArray := fun m => by
      have := foldl_rep its m []
      rw [List.nil_append] at this
      exact this
    rw [f0]
    cases its with
    | nil => simp
    | cons a r' => rw [if_neg (by simp)]
  refine wpAny_binaryOp_repeat_ref (T := "list") (U := "int") (by decide) ⟨_, e, rfl⟩ (fun s' => typeIs_int s' k t) noFill_list_mul F.fills_int_mul F.slot_int_rmul repeat_list F.slot_int_index.lookup
    (call_meets F.slot_int_rmul (typeIs_int s k t) F.entry_int_rmul (F.args_int_rmul_2 _ _) (int___rmul___int_list k t l its.toArray n)
      ⟨e, rfl, ⟨_, e, rfl⟩, call_meets F.slot_list_mul ⟨_, e, rfl⟩ F.entry_list_mul (F.args_list_mul_2 _ _) (AutoListH.list___mul___list_int_3 l its.toArray n k t hfit hcap hlong) ⟨e, ?_⟩⟩)
  rw [hnew]
  exact ⟨.ref _, _, I.lnew (t' := s.toks) (r.rep k.toNat) (by rw [PyProof.Rows.lm_len_rep_flat, Nat.mul_comm]; exact hz), rfl, q _ I.fresh⟩
end
end L2
namespace VL
open PySem PySem.Spec L2
section
variable {K : PySem.W.Frag} {H0 G H : Hp}
theorem smallI_63 {k : Int} (h : smallI k = true) : -(2 ^ 63) ≤ k ∧ k < 2 ^ 63 := by
  obtain ⟨a, b⟩ := smallI_of h
  exact ⟨by omega, by omega⟩
theorem prim_mul : Prim2 K (fun x y H Q => rI CMul (fun i j => .int (i * j)) x y H Q ∨ rI CMulW (fun i j => .int (i * j)) x y H Q ∨ rRepR x y H Q ∨ rRepS x y H Q) mulD .im := by
  intro G H x y d e z Q s hx hy hz q
  cases hx with
  | int i =>
    cases hy with
    | int j =>
      have hz : (if mulOk i j = true then some (D.int (i * j)) else none) = some z := hz
      split at hz
      · rename_i hm
        cases hz
        have qq := q _ G H [] (Grow.refl s) (Res.im (.int (i * j)))
        unfold mulOk at hm
        simp only [Bool.or_eq_true, decide_eq_true_eq] at hm
        rcases hm with (h | h) | h
        · exact .inl ⟨i, j, rfl, rfl, .inl (by omega), qq⟩
        · exact .inl ⟨i, j, rfl, rfl, .inr (by omega), qq⟩
        · exact .inr (.inl ⟨i, j, rfl, rfl, h, qq⟩)
      · cases hz
    | _ => cases hz
  | @lst a xs ds h1 h2 =>
    cases hy with
    | int k =>
      have hz : (if (smallI k && decide (ds.length * k.toNat ≤ LINE)) = true then some (D.lst (List.replicate k.toNat ds).flatten) else none) = some z := hz
      split at hz
      · rename_i hl
        cases hz
        rw [Bool.and_eq_true] at hl
        refine .inr (.inr (.inl ⟨a, k, xs, rfl, rfl, Same.rd s h1, (smallI_63 hl.1).1, (smallI_63 hl.1).2, by rw [line_eq, h2.length]; exact of_decide_eq_true hl.2, fun p hp => ?_⟩))
        obtain ⟨g, r⟩ := Res.lstIm (dt_rep h2 k.toNat) hp s
        exact q _ _ _ _ g r
      · cases hz
    | _ => cases hz
  | str a =>
    cases hy with
    | int k =>
      have hz : (if (smallI k && decide (a.length * k.toNat ≤ LINE)) = true then some (D.str (Txt.mul a k)) else none) = some z := hz
      split at hz
      · rename_i hl
        cases hz
        rw [Bool.and_eq_true] at hl
        exact .inr (.inr (.inr ⟨a, k, rfl, rfl, (smallI_63 hl.1).1, (smallI_63 hl.1).2, by rw [line_eq]; exact of_decide_eq_true hl.2, q _ G H [] (Grow.refl s) (Res.im (.str _))⟩))
      · cases hz
    | _ => cases hz
  | _ => cases hy <;> cases hz
theorem prim_rep : Prim2 K rRepR repD (.ow .im) := by
  intro G H x y d e z Q s hx hy hz q
  cases hx with
  | @lst a xs ds h1 h2 =>
    cases hy with
    | int k =>
      have hz : (if (smallI k && decide (ds.length * k.toNat ≤ LINE)) = true then some (D.lst (List.replicate k.toNat ds).flatten) else none) = some z := hz
      split at hz
      · rename_i hl
        cases hz
        rw [Bool.and_eq_true] at hl
        refine ⟨a, k, xs, rfl, rfl, Same.rd s h1, (smallI_63 hl.1).1, (smallI_63 hl.1).2, by rw [line_eq, h2.length]; exact of_decide_eq_true hl.2, fun p hp => ?_⟩
        exact q _ _ _ _ (Grow.own s hp (fun _ _ z => by cases z) fun _ z => by cases z) (Res.lst s hp (dt_rep h2 k.toNat))
      · cases hz
    | _ => cases hz
  | _ => cases hy <;> cases hz
theorem prim_fdiv : Prim2 K (rI CDivW fun i j => .int (i / j)) fdivD .im := by
  intro G H x y d e z Q s hx hy hz q
  cases hx with
  | int i =>
    cases hy with
    | int j =>
      have hz : (if 0 < j ∧ (j < 1073741824 ∨ j.natAbs.log2 < 9000) then some (D.int (i / j)) else none) = some z := hz
      split at hz
      · rename_i h
        cases hz
        exact ⟨i, j, rfl, rfl, ⟨h.1, h.2.elim (fun z => Nat.lt_of_lt_of_le (PySem.Flt.log2_lt_of (show 0 < 30 by decide) (show j.natAbs < 2 ^ 30 by omega)) (by decide)) id⟩, q _ G H [] (Grow.refl s) (Res.im (.int _))⟩
      · cases hz
    | _ => cases hz
  | _ => cases hy <;> cases hz
theorem prim_mod : Prim2 K (rI (fun _ j => 0 < j) fun i j => .int (i % j)) modD .im := by
  intro G H x y d e z Q s hx hy hz q
  cases hx with
  | int i =>
    cases hy with
    | int j =>
      have hz : (if 0 < j then some (D.int (i % j)) else none) = some z := hz
      split at hz
      · rename_i h
        cases hz
        exact ⟨i, j, rfl, rfl, h, q _ G H [] (Grow.refl s) (Res.im (.int _))⟩
      · cases hz
    | _ => cases hz
  | _ => cases hy <;> cases hz
def CPowW (i j : Int) : Prop := 0 ≤ j ∧ j ≤ 100000 ∧ i.natAbs < 2 ^ 1000
theorem op_powW {X : Cx} : OpR X (binaryOp .Pow) (rI CPowW fun i j => .int (i ^ j.toNat)) := opI fun i j _ _ _ _ _ hc q => by
  obtain ⟨h1, h2, h3⟩ := hc
  have hb : Builtin.Int.intBits i ≤ 1000 := by
    unfold Builtin.Int.intBits
    split
    · exact Nat.zero_le _
    · rename_i hz
      have hz' : i ≠ 0 := by simpa using hz
      have : i.natAbs.log2 < 1000 := (Nat.log2_lt (by omega)).mpr h3
      omega
  refine PyProof.Rows.pow_int h1 ?_ q
  have : (Builtin.Int.intBits i : Int) * j ≤ 1000 * j := Int.mul_le_mul_of_nonneg_right (by omega) h1
  omega
theorem prim_pow : Prim2 K (rI CPowW fun i j => .int (i ^ j.toNat)) powD .im := by
  intro G H x y d e z Q s hx hy hz q
  cases hx with
  | int i =>
    cases hy with
    | int j =>
      have hz : (if 0 ≤ j ∧ j ≤ 100000 ∧ i.natAbs < 2 ^ 1000 then some (D.int (i ^ j.toNat)) else none) = some z := hz
      split at hz
      · rename_i h
        cases hz
        exact ⟨i, j, rfl, rfl, h, q _ G H [] (Grow.refl s) (Res.im (.int _))⟩
      · cases hz
    | _ => cases hz
  | _ => cases hy <;> cases hz
theorem prim_neg : Prim1 K (rU fun i => .int (-i)) negD .im := by
  intro G H x d z Q s hx hz q
  cases hx with
  | int i => cases hz; exact ⟨i, rfl, q _ G H [] (Grow.refl s) (Res.im (.int _))⟩
  | _ => cases hz
theorem prim_cmp {p : Int → Int → Bool} {g : D → D → Option D} (hg : ∀ i j, g (.int i) (.int j) = some (.bl (p i j))) (hn : ∀ x y z, g x y = some z → ∃ i j, x = .int i ∧ y = .int j) : Prim2 K (rI0 fun i j => .bl (p i j)) g .im := by
  intro G H x y d e z Q s hx hy hz q
  obtain ⟨i, j, rfl, rfl⟩ := hn _ _ _ hz
  rw [hg] at hz
  cases hz
  cases hx
  cases hy
  exact ⟨i, j, rfl, rfl, q _ G H [] (Grow.refl s) (Res.im (.bl _))⟩
theorem prim_lt : Prim2 K (rI0 fun i j => .bl (decide (i < j))) ltD .im := prim_cmp (fun _ _ => rfl) fun x y z h => by cases x <;> cases y <;> first | exact ⟨_, _, rfl, rfl⟩ | cases h
theorem prim_le : Prim2 K (rI0 fun i j => .bl (decide (i ≤ j))) leD .im := prim_cmp (fun _ _ => rfl) fun x y z h => by cases x <;> cases y <;> first | exact ⟨_, _, rfl, rfl⟩ | cases h
theorem prim_gt : Prim2 K (rI0 fun i j => .bl (decide (j < i))) gtD .im := prim_cmp (fun _ _ => rfl) fun x y z h => by cases x <;> cases y <;> first | exact ⟨_, _, rfl, rfl⟩ | cases h
theorem prim_ge : Prim2 K (rI0 fun i j => .bl (decide (j ≤ i))) geD .im := prim_cmp (fun _ _ => rfl) fun x y z h => by cases x <;> cases y <;> first | exact ⟨_, _, rfl, rfl⟩ | cases h

/-! ### == -/
mutual
theorem okD_dp : ∀ (n : Nat) (d : D) {v : V}, okD n d = true → Dt K H v d → Dp K H v (toPy d)
  | _, .non, _, _, h => by cases h; exact .non
  | _, .bl b, _, _, h => by cases h; exact .bl b
  | _, .int i, _, _, h => by cases h; exact .int i
  | _, .str x, _, _, h => by cases h; exact .str x
  | 0, .lst ds, _, f, _ => by simp [okD] at f
  | 0, .tup ds, _, f, _ => by simp [okD] at f
  | n + 1, .lst ds, _, f, h => by
    cases h with | lst a b => exact .lst (.inl a) (okA_dp n ds (by simpa [okD] using f) b)
  | n + 1, .tup ds, _, f, h => by
    cases h with | tup a b => exact .tup a (okA_dp n ds (by simpa [okD] using f) b)
  | 0, .dct ds, _, f, _ => by simp [okD] at f
  | n + 1, .dct ds, _, f, _ => by simp [okD] at f
  | 0, .obj c ds, _, f, _ => by simp [okD] at f
  | n + 1, .obj c ds, _, f, _ => by simp [okD] at f
theorem okA_dp : ∀ (n : Nat) (ds : List D) {vs : List V}, okA n ds = true → DtA K H vs ds → DpAll K H vs (toPyA ds)
  | _, [], _, _, h => by cases h; exact .nil
  | n, d :: ds, _, f, h => by
    cases h with
    | cons a b =>
      have f : (okD n d && okA n ds) = true := by simpa [okA] using f
      rw [Bool.and_eq_true] at f
      exact .cons (okD_dp n d f.1 a) (okA_dp n ds f.2 b)
end
mutual
theorem okD_lay : ∀ (n : Nat) (d : D), okD n d = true → (toPy d).canLay0 = true ∧ (toPy d).depth ≤ n
  | _, .non, _ => ⟨rfl, Nat.zero_le _⟩
  | _, .bl b, _ => ⟨rfl, Nat.zero_le _⟩
  | _, .int i, _ => ⟨rfl, Nat.zero_le _⟩
  | n, .str x, h => ⟨by
      have h : strOkD x = true := by cases n <;> exact h
      exact h, Nat.zero_le _⟩
  | 0, .lst ds, f => by simp [okD] at f
  | 0, .tup ds, f => by simp [okD] at f
  | 0, .dct ds, f => by simp [okD] at f
  | n + 1, .dct ds, f => by simp [okD] at f
  | 0, .obj c ds, f => by simp [okD] at f
  | n + 1, .obj c ds, f => by simp [okD] at f
  | n + 1, .lst ds, f => by
    obtain ⟨h1, h2⟩ := okA_lay n ds (by simpa [okD] using f)
    exact ⟨by simpa [toPy, PyData.canLay0] using h1, by simpa [toPy, PyData.depth] using h2⟩
  | n + 1, .tup ds, f => by
    obtain ⟨h1, h2⟩ := okA_lay n ds (by simpa [okD] using f)
    exact ⟨by simpa [toPy, PyData.canLay0] using h1, by simpa [toPy, PyData.depth] using h2⟩
theorem okA_lay : ∀ (n : Nat) (ds : List D), okA n ds = true → PyData.canLayAll0 (toPyA ds) = true ∧ PyData.depthAll (toPyA ds) ≤ n
  | _, [], _ => ⟨rfl, Nat.zero_le _⟩
  | n, d :: ds, f => by
    have f : (okD n d && okA n ds) = true := by simpa [okA] using f
    rw [Bool.and_eq_true] at f
    obtain ⟨h1, h2⟩ := okD_lay n d f.1
    obtain ⟨h3, h4⟩ := okA_lay n ds f.2
    exact ⟨by simp [toPyA, PyData.canLayAll0, h1, h3], by simp only [toPyA, PyData.depthAll]; omega⟩
end
mutual
theorem eqv_py : ∀ (x y : D), (∀ kvs, x ≠ .dct kvs) ∨ True → PyData.eqv (toPy x) (toPy y) = eqvD x y
  | .non, y, _ => by cases y <;> simp [toPy, PyData.eqv, eqvD, eqS]
  | .bl a, y, _ => by cases y <;> simp [toPy, PyData.eqv, eqvD, eqS]
  | .int a, y, _ => by cases y <;> simp [toPy, PyData.eqv, eqvD, eqS]
  | .str a, y, _ => by cases y <;> simp [toPy, PyData.eqv, eqvD, eqS]
  | .lst xs, y, _ => by
    cases y with
    | lst ys => simpa [toPy, PyData.eqv, eqvD] using eqvA_py xs ys
    | _ => simp [toPy, PyData.eqv, eqvD]
  | .tup xs, y, _ => by
    cases y with
    | tup ys => simpa [toPy, PyData.eqv, eqvD] using eqvA_py xs ys
    | _ => simp [toPy, PyData.eqv, eqvD]
  | .dct xs, y, _ => by cases y <;> simp [toPy, PyData.eqv, eqvD]
  | .obj c xs, y, _ => by cases y <;> simp [toPy, PyData.eqv, eqvD]
theorem eqvA_py : ∀ (xs ys : List D), PyData.eqvAll (toPyA xs) (toPyA ys) = eqvA xs ys
  | [], [] => rfl
  | [], _ :: _ => rfl
  | _ :: _, [] => rfl
  | x :: xs, y :: ys => by simp [toPyA, PyData.eqvAll, eqvA, eqv_py x y (.inr trivial), eqvA_py xs ys]
end
theorem scal_S {x y : V} {d e : D} (hx : Dt K H x d) (hy : Dt K H y e) (h : (isS d && isS e) = true) : (scal x y = true ∧ decide (x = y) = eqS d e) ∨ (∃ a b, okD 64 d = true ∧ okD 64 e = true ∧ a = d ∧ b = e ∧ eqvD d e = eqS d e) := by
  have e1 : ∀ i j : Int, decide (V.int i = V.int j) = (i == j) := fun i j => dec_int
  have e2 : ∀ i j : Bool, decide (V.bl i = V.bl j) = (i == j) := fun i j => dec_bl
  have e3 : ∀ i j : Str, decide (V.str i = V.str j) = (i == j) := fun i j => dec_str
  cases hx <;> cases hy <;> simp [isS] at h <;> first
    | exact .inl ⟨rfl, e1 _ _⟩
    | exact .inl ⟨rfl, e2 _ _⟩
    | exact .inl ⟨rfl, e3 _ _⟩
    | exact .inl ⟨rfl, rfl⟩
    | exact .inl ⟨rfl, decide_eq_false (fun z => by cases z)⟩
    | exact .inr ⟨_, _, rfl, rfl, rfl, rfl, rfl⟩
theorem prim_eq : Prim2 K (fun x y H Q => rEq x y H Q ∨ rEqD K x y H Q) eqD .im := by
  intro G H x y d e z Q s hx hy hz q
  unfold eqD at hz
  split at hz
  · rename_i h
    cases hz
    have qq := q _ G H [] (Grow.refl s) (Res.im (.bl (eqS d e)))
    rcases scal_S hx hy h with ⟨h1, h2⟩ | ⟨a, b, h1, h2, rfl, rfl, h3⟩
    · exact .inl ⟨h1, by rw [h2]; exact qq⟩
    · refine .inr ⟨toPy a, toPy b, okD_dp 64 _ h1 (Dt.mono s _ hx), okD_dp 64 _ h2 (Dt.mono s _ hy), ?_, ?_, by rw [eqv_py _ _ (.inr trivial), h3]; exact qq⟩
      · have := okD_lay 64 _ h1
        simp [SeqAt.shaped, this.1, this.2]
      · have := okD_lay 64 _ h2
        simp [SeqAt.shaped, this.1, this.2]
  · split at hz
    · rename_i h
      cases hz
      rw [Bool.and_eq_true] at h
      have qq := q _ G H [] (Grow.refl s) (Res.im (.bl (eqvD d e)))
      refine .inr ⟨toPy d, toPy e, okD_dp 64 _ h.1 (Dt.mono s _ hx), okD_dp 64 _ h.2 (Dt.mono s _ hy), ?_, ?_, by rw [eqv_py _ _ (.inr trivial)]; exact qq⟩
      · have := okD_lay 64 _ h.1
        simp [SeqAt.shaped, this.1, this.2]
      · have := okD_lay 64 _ h.2
        simp [SeqAt.shaped, this.1, this.2]
    · cases hz
theorem prim_ne : Prim2 K (fun x y H Q => rNe x y H Q ∨ rNeD K x y H Q) neD .im := by
  intro G H x y d e z Q s hx hy hz q
  unfold neD at hz
  split at hz
  · rename_i h
    cases hz
    have qq := q _ G H [] (Grow.refl s) (Res.im (.bl (!eqS d e)))
    rcases scal_S hx hy h with ⟨h1, h2⟩ | ⟨a, b, h1, h2, rfl, rfl, h3⟩
    · exact .inl ⟨h1, by rw [h2]; exact qq⟩
    · refine .inr ⟨toPy a, toPy b, okD_dp 64 _ h1 (Dt.mono s _ hx), okD_dp 64 _ h2 (Dt.mono s _ hy), ?_, ?_, by rw [eqv_py _ _ (.inr trivial), h3]; exact qq⟩
      · have := okD_lay 64 _ h1
        simp [SeqAt.shaped, this.1, this.2]
      · have := okD_lay 64 _ h2
        simp [SeqAt.shaped, this.1, this.2]
  · split at hz
    · rename_i h
      cases hz
      rw [Bool.and_eq_true] at h
      have qq := q _ G H [] (Grow.refl s) (Res.im (.bl (!eqvD d e)))
      refine .inr ⟨toPy d, toPy e, okD_dp 64 _ h.1 (Dt.mono s _ hx), okD_dp 64 _ h.2 (Dt.mono s _ hy), ?_, ?_, by rw [eqv_py _ _ (.inr trivial)]; exact qq⟩
      · have := okD_lay 64 _ h.1
        simp [SeqAt.shaped, this.1, this.2]
      · have := okD_lay 64 _ h.2
        simp [SeqAt.shaped, this.1, this.2]
    · cases hz
def isNonD : D → Bool
  | .non => true
  | _ => false
theorem dt_non {x : V} {d : D} (h : Dt K H x d) : decide (x = .non) = isNonD d := by
  cases h <;> rfl
theorem prim_isN : Prim2 K (fun x y H Q => y = .non ∧ Q (.bl (decide (x = .non))) H) isND .im := by
  intro G H x y d e z Q s hx hy hz q
  cases hy with
  | non =>
    refine ⟨rfl, ?_⟩
    rw [dt_non hx]
    have e2 : z = .bl (isNonD d) := by cases d <;> (cases hz; rfl)
    subst e2
    exact q _ G H [] (Grow.refl s) (Res.im (.bl _))
  | _ => cases d <;> cases hz
theorem prim_notN : Prim2 K (fun x y H Q => y = .non ∧ Q (.bl (!decide (x = .non))) H) notND .im := by
  intro G H x y d e z Q s hx hy hz q
  cases hy with
  | non =>
    refine ⟨rfl, ?_⟩
    rw [dt_non hx]
    have e2 : z = .bl (!isNonD d) := by cases d <;> (cases hz; rfl)
    subst e2
    exact q _ G H [] (Grow.refl s) (Res.im (.bl _))
  | _ => cases d <;> cases hz
theorem flat_S {x : V} {d : D} (h : Dt K H x d) (hs : isS d = true) : flatV x = true := by cases h <;> first | rfl | simp [isS] at hs
theorem flat_SA {xs : List V} {ds : List D} (h : DtA K H xs ds) (hs : ds.all isS = true) : xs.all flatV = true := by
  induction ds generalizing xs with
  | nil => cases h; rfl
  | cons d ds ih =>
    cases h with
    | cons a b =>
      rw [List.all_cons, Bool.and_eq_true] at hs ⊢
      exact ⟨flat_S a hs.1, ih b hs.2⟩
theorem eqV_S {x y : V} {d e : D} (hx : Dt K H x d) (hy : Dt K H y e) (h1 : isS d = true) (h2 : isS e = true) : eqV x y = eqS d e := by
  cases hx <;> first | (simp [isS] at h1; done) | (cases hy <;> first | (simp [isS] at h2; done) | rfl)
theorem inV_S {x : V} {d : D} (hx : Dt K H x d) (h1 : isS d = true) {xs : List V} {ds : List D} (h : DtA K H xs ds) (hs : ds.all isS = true) : inV x xs = inL d ds := by
  unfold inV inL
  induction ds generalizing xs with
  | nil => cases h; rfl
  | cons e ds ih =>
    cases h with
    | cons a b =>
      rw [List.all_cons, Bool.and_eq_true] at hs
      rw [List.any_cons, List.any_cons, eqV_S a hx hs.1 h1, ih b hs.2]
theorem prim_in : Prim2 K (rIn K false) inD .im := by
  intro G H x y d e z Q s hx hy hz q
  cases hy with
  | @lst a xs ds h1 h2 =>
    have hz : (if (isS d && ds.all isS) = true then some (D.bl (inL d ds)) else none) = some z := hz
    split at hz
    · rename_i h
      cases hz
      rw [Bool.and_eq_true] at h
      refine ⟨a, xs, rfl, .inl (.inl (Same.rd s h1)), flat_S hx h.1, flat_SA h2 h.2, ?_⟩
      rw [if_neg Bool.false_ne_true, inV_S hx h.1 h2 h.2]
      exact q _ G H [] (Grow.refl s) (Res.im (.bl _))
    · cases hz
  | @tup a xs ds h1 h2 =>
    have hz : (if (isS d && ds.all isS) = true then some (D.bl (inL d ds)) else none) = some z := hz
    split at hz
    · rename_i h
      cases hz
      rw [Bool.and_eq_true] at h
      refine ⟨a, xs, rfl, .inr (Same.sqt s h1), flat_S hx h.1, flat_SA h2 h.2, ?_⟩
      rw [if_neg Bool.false_ne_true, inV_S hx h.1 h2 h.2]
      exact q _ G H [] (Grow.refl s) (Res.im (.bl _))
    · cases hz
  | _ => cases hz
theorem prim_notIn : Prim2 K (rIn K true) notInD .im := by
  intro G H x y d e z Q s hx hy hz q
  cases hy with
  | @lst a xs ds h1 h2 =>
    have hz : (if (isS d && ds.all isS) = true then some (D.bl (!inL d ds)) else none) = some z := hz
    split at hz
    · rename_i h
      cases hz
      rw [Bool.and_eq_true] at h
      refine ⟨a, xs, rfl, .inl (.inl (Same.rd s h1)), flat_S hx h.1, flat_SA h2 h.2, ?_⟩
      rw [if_pos rfl, inV_S hx h.1 h2 h.2]
      exact q _ G H [] (Grow.refl s) (Res.im (.bl _))
    · cases hz
  | @tup a xs ds h1 h2 =>
    have hz : (if (isS d && ds.all isS) = true then some (D.bl (!inL d ds)) else none) = some z := hz
    split at hz
    · rename_i h
      cases hz
      rw [Bool.and_eq_true] at h
      refine ⟨a, xs, rfl, .inr (Same.sqt s h1), flat_S hx h.1, flat_SA h2 h.2, ?_⟩
      rw [if_pos rfl, inV_S hx h.1 h2 h.2]
      exact q _ G H [] (Grow.refl s) (Res.im (.bl _))
    · cases hz
  | _ => cases hz
end
end VL

set_option Elab.async false
set_option linter.all false
set_option maxRecDepth 100000
set_option maxHeartbeats 4000000
/-! V8c: items, slices, built-ins, methods. -/
namespace VL
open PySem PySem.Spec L2
section
variable {K : PySem.W.Frag} {H0 G H : Hp}
theorem ix_at {xs : List V} {ds : List D} (h : DtA K G xs ds) {i : Int} {z : D} (e : ((ixD ds.length i).bind fun j => ds[j]?) = some z) : ∃ v, atI xs i = some v ∧ Dt K G v z := by
  obtain ⟨j, h1, h2⟩ := Option.bind_eq_some_iff.mp e
  obtain ⟨v, h3, h4⟩ := h.get h2
  refine ⟨v, ?_, h4⟩
  unfold atI
  rw [h.length, show ixN ds.length i = some j from h1]
  exact h3
theorem prim_ix : Prim2 K (rIx K) ixGet .im := by
  intro G H x y d e z Q s hx hy hz q
  cases hy with
  | int i =>
    cases hx with
    | @lst a xs ds h1 h2 =>
      obtain ⟨v, h3, h4⟩ := ix_at h2 hz
      exact .inl ⟨a, xs, i, v, rfl, rfl, .inl (Same.rd s h1), h3, q v G H [] (Grow.refl s) (Res.im h4)⟩
    | @tup a xs ds h1 h2 =>
      obtain ⟨v, h3, h4⟩ := ix_at h2 hz
      exact .inr (.inl ⟨a, xs, i, v, rfl, rfl, Same.sqt s h1, h3, q v G H [] (Grow.refl s) (Res.im h4)⟩)
    | str x =>
      have hz : (if x.length ≤ LINE then ((ixD x.length i).bind fun j => x.cps[j]?).map (fun c => D.str ⟨#[c]⟩) else none) = some z := hz
      split at hz
      · rename_i hl
        obtain ⟨c, hc, rfl⟩ := Option.map_eq_some_iff.mp hz
        obtain ⟨j, h1, h2⟩ := Option.bind_eq_some_iff.mp hc
        refine .inr (.inr ⟨x, i, c, rfl, rfl, by rw [line_eq]; exact hl, ?_, q _ G H [] (Grow.refl s) (Res.im (.str _))⟩)
        unfold atI
        have e1 : x.cps.toList.length = x.length := by simp [Str.length]
        rw [e1, show ixN x.length i = some j from h1]
        show x.cps.toList[j]? = some c
        simpa using h2
      · cases hz
    | _ => cases hz
  | _ => cases d <;> cases hz
theorem sIx_eq (n d : Nat) (o : Option Int) : HT.sIx n d o = sIxD n d o := by cases o <;> rfl
theorem cut_dt {xs : List V} {ds : List D} (h : DtA K G xs ds) (lo hi : Option Int) : DtA K G (cutV xs lo hi) (cutD ds lo hi) := by
  unfold cutV cutD
  rw [sIx_eq, sIx_eq, h.length]
  exact (h.drop _).take _
end
section
variable {X : Cx} {C : Ct} {e a b c : Expr} {es : List Expr} {κ : Md} {n : Nat} {f fa fb fc : EF} {fs : List EF} {pf pa pb : PF} {ps : List PF} {pos p : Pos} {x : Str}
theorem ve_ix (ha : VE X C .im a fa) (hb : VE X C .im b fb) (hs : PlainIx b := by exact fun _ _ => rfl) : VE X C .im (.Subscript a b pos) (eOp2 ixGet fa fb) := PE.mono (pe_ix ix_seq ha hb hs) fun _ _ _ => red2 prim_ix
theorem vp_ix (ha : VP X C a pa) (hb : VP X C b pb) (hs : PlainIx b := by exact fun _ _ => rfl) : VP X C (.Subscript a b pos) (pOp2 ixGet pa pb) := PE.mono (pe_ix ix_seq ha hb hs) fun _ _ _ => redP2 prim_ix

/-! ### slices of lists -/
inductive VO (X : Cx) (C : Ct) : Option Expr → Option EF → Prop
  | none : VO X C none none
  | some {e : Expr} {f : EF} : VE X C .im e f → VO X C (some e) (some f)
def tOF (K : PySem.W.Frag) (C : Ct) (o : Option EF) : TO := fun σ H Q => ∃ Hm F ρ, Rel K C Hm H F σ ρ ∧ fin K C Hm H F (partF o ρ) fun p => ∀ Hm' H' F', Step Hm H F Hm' H' F' → Rel K C Hm' H' F' σ p.2 → Q p.1 H'
theorem PO.mono {X : Cx} {e : Option Expr} {t t' : TO} (h : PO X e t) (i : ∀ σ H Q, t' σ H Q → t σ H Q) : PO X e t' := ⟨fun pins s σ H Q I q => h.run pins s σ H Q I (i σ H Q q)⟩
theorem po_of {oe : Option Expr} {of : Option EF} (h : VO X C oe of) : PO X oe (tOF X.K C of) := by
  cases h with
  | none => exact PO.mono po_none fun σ H Q ⟨Hm, F, ρ, r, q⟩ => q Hm H F .refl r
  | some h =>
    refine PO.mono (po_some h) fun σ H Q ⟨Hm, F, ρ, r, q⟩ => ⟨Hm, F, ρ, r, q.bind.imp fun p hq v Hm1 H1 F1 g1 s1 r1 x1 => ?_⟩
    obtain ⟨d, ρ'⟩ := p
    have x2 := x1.of_im
    cases d with
    | int i => cases x2; exact ⟨i, rfl, hq Hm1 H1 F1 s1 r1⟩
    | _ => exact hq.elim
theorem eSlice_eq (fa : EF) (lo hi : Option EF) (ρ : En) : eSlice fa lo hi ρ = (fa ρ >>= fun p => partF lo p.2 >>= fun q => partF hi q.2 >>= fun u => Rs.of (sliceD p.1 q.1 u.1) >>= fun z => .ok (z, u.2)) := by
  unfold eSlice partF
  cases lo <;> cases hi <;> rfl
theorem slice_red {fa : EF} {lo hi : Option EF} {σ : St} {H : Hp} {Q : VK} (h : tE X.K C (.ow .im) (eSlice fa lo hi) σ H Q) : tSl (rSlL X.K) (tE X.K C .im fa) (tOF X.K C lo) (tOF X.K C hi) σ H Q := by
  obtain ⟨Hm, F, ρ, r, q⟩ := h
  rw [eSlice_eq] at q
  refine ⟨Hm, F, ρ, r, q.bind.imp fun p hq v Hm1 H1 F1 g1 s1 r1 x1 => ?_⟩
  refine ⟨Hm1, F1, p.2, r1, (hq.step s1).bind.imp fun p2 hq2 Hm2 H2 F2 s2 r2 => ?_⟩
  refine ⟨Hm2, F2, p2.2, r2, (hq2.step s2).bind.imp fun p3 hq3 Hm3 H3 F3 s3 r3 => ?_⟩
  obtain ⟨z, ez, hz⟩ := (hq3.step s3).bind.of
  have x2 := Dt.mono (s2.sm.trans s3.sm) _ x1.of_im
  obtain ⟨d, ρ1⟩ := p
  cases x2 with
  | @lst a xs ds h1 h2 =>
    cases ez
    refine ⟨a, xs, rfl, .inl (Same.rd r3.sub h1), fun pp hp => ?_⟩
    exact endE hz ((s1.trans s2).trans s3) r3 (Grow.own r3.sub hp (fun _ _ z => by cases z) fun _ z => by cases z) (Res.lst r3.sub hp (cut_dt h2 _ _))
  | _ => cases ez
theorem ve_slice {lo hi : Option Expr} {flo fhi : Option EF} {p2 : Pos} (ha : VE X C .im a fa) (hl : VO X C lo flo) (hu : VO X C hi fhi) : VE X C (.ow .im) (.Subscript a (.Slice lo hi none p2) pos) (eSlice fa flo fhi) :=
  PE.mono (pe_slice sl_list ha (po_of hl) (po_of hu)) fun _ _ _ => slice_red

/-! ### built-ins by name -/
theorem ve_bltN {id : String} {r : List V → Hp → VK → Prop} {g : List D → Option D} (hc : CallR X (.builtin id) r) (hp : PrimN X.K r g κ) (hm : X.mg x = none) (ha : VA X C (e :: es) n (eArgs fs)) (hg : Gl X x := by rfl) (hv : bootBuiltins x = some (.builtin id) := by decide +kernel) (hn : x ≠ "__name__" := by decide) (hdb : (x == ("__debug__" : Str)) = false := by decide)
    (he : starEach (e :: es) X.env = (false, eval e X.env) :: starEach es X.env := by rfl) (hpl : (backTo pos (starEach es X.env)).any (·.1) = false := by rfl) : VE X C κ (.Call (.Name x p) (e :: es) [] pos) (eOpN g fs) :=
  PE.mono (pe_callB hc hg hm hv ha hn hdb he hpl) fun _ _ _ => redN hp
theorem vp_bltN {id : String} {r : List V → Hp → VK → Prop} {g : List D → Option D} (hc : CallR X (.builtin id) r) (hp : PrimN X.K r g κ) (hm : X.mg x = none) (ha : VAP X C (e :: es) n (pArgs ps)) (hg : Gl X x := by rfl) (hv : bootBuiltins x = some (.builtin id) := by decide +kernel) (hn : x ≠ "__name__" := by decide) (hdb : (x == ("__debug__" : Str)) = false := by decide)
    (he : starEach (e :: es) X.env = (false, eval e X.env) :: starEach es X.env := by rfl) (hpl : (backTo pos (starEach es X.env)).any (·.1) = false := by rfl) : VP X C (.Call (.Name x p) (e :: es) [] pos) (pOpN g ps) :=
  PE.mono (pe_callB hc hg hm hv ha hn hdb he hpl) fun _ _ _ => redPN hp
theorem ve_tyN {T : String} {r : List V → Hp → VK → Prop} {g : List D → Option D} (hc : CallR X (.type T) r) (hp : PrimN X.K r g κ) (hm : X.mg x = none) (ha : VA X C (e :: es) n (eArgs fs)) (hg : Gl X x := by rfl) (hv : bootBuiltins x = some (.type T) := by decide +kernel) (hn : x ≠ "__name__" := by decide) (hdb : (x == ("__debug__" : Str)) = false := by decide)
    (he : starEach (e :: es) X.env = (false, eval e X.env) :: starEach es X.env := by rfl) (hpl : (backTo pos (starEach es X.env)).any (·.1) = false := by rfl) : VE X C κ (.Call (.Name x p) (e :: es) [] pos) (eOpN g fs) :=
  PE.mono (pe_callTy hc hg hm hv ha hn hdb he hpl) fun _ _ _ => redN hp
theorem vp_tyN {T : String} {r : List V → Hp → VK → Prop} {g : List D → Option D} (hc : CallR X (.type T) r) (hp : PrimN X.K r g κ) (hm : X.mg x = none) (ha : VAP X C (e :: es) n (pArgs ps)) (hg : Gl X x := by rfl) (hv : bootBuiltins x = some (.type T) := by decide +kernel) (hn : x ≠ "__name__" := by decide) (hdb : (x == ("__debug__" : Str)) = false := by decide)
    (he : starEach (e :: es) X.env = (false, eval e X.env) :: starEach es X.env := by rfl) (hpl : (backTo pos (starEach es X.env)).any (·.1) = false := by rfl) : VP X C (.Call (.Name x p) (e :: es) [] pos) (pOpN g ps) :=
  PE.mono (pe_callTy hc hg hm hv ha hn hdb he hpl) fun _ _ _ => redPN hp
theorem vq_tyN {T : String} {r : List V → Hp → VK → Prop} {g : List D → Option D} (hc : CallR X (.type T) r) (hp : PrimN X.K r g (.ow .im)) (hd : ∀ x kvs, g x ≠ some (.dct kvs)) (hm : X.mg x = none) (ha : VAP X C (e :: es) n (pArgs ps)) (hg : Gl X x := by rfl) (hv : bootBuiltins x = some (.type T) := by decide +kernel) (hn : x ≠ "__name__" := by decide) (hdb : (x == ("__debug__" : Str)) = false := by decide)
    (he : starEach (e :: es) X.env = (false, eval e X.env) :: starEach es X.env := by rfl) (hpl : (backTo pos (starEach es X.env)).any (·.1) = false := by rfl) : VQ X C (.Call (.Name x p) (e :: es) [] pos) (pOpN g ps) :=
  PE.mono (pe_callTy hc hg hm hv ha hn hdb he hpl) fun _ _ _ => redQN hp hd
end
section
variable {K : PySem.W.Frag}
theorem prim_len : PrimN K (fun xs H Q => ∃ x n, xs = [x] ∧ LenV K x H n ∧ Q (.int n) H) lenD .im := by
  intro G H xs ds z Q s h hz q
  cases h with
  | nil => cases hz
  | @cons v vs d ds h1 h2 =>
    cases h2 with
    | cons => cases d <;> cases hz
    | nil =>
      cases h1 with
      | lst h3 h4 =>
        cases hz
        exact ⟨_, _, rfl, .inl ⟨_, .inl (Same.rd s h3), h4.length.symm⟩, q _ G H [] (Grow.refl s) (Res.im (.int _))⟩
      | tup h3 h4 =>
        cases hz
        exact ⟨_, _, rfl, .inr ⟨_, Same.sqt s h3, h4.length.symm⟩, q _ G H [] (Grow.refl s) (Res.im (.int _))⟩
      | str x =>
        have hz : (if x.length ≤ LINE then some (D.int x.length) else none) = some z := hz
        split at hz
        · rename_i hl
          cases hz
          exact ⟨_, _, rfl, ⟨by rw [line_eq]; exact hl, rfl⟩, q _ G H [] (Grow.refl s) (Res.im (.int _))⟩
        · cases hz
      | _ => cases hz
theorem prim_abs : PrimN K (fun xs H Q => ∃ i, xs = [.int i] ∧ Q (.int (if i < 0 then -i else i)) H) absD .im := by
  intro G H xs ds z Q s h hz q
  cases h with
  | nil => cases hz
  | @cons v vs d ds h1 h2 =>
    cases h2 with
    | cons => cases d <;> cases hz
    | nil =>
      cases h1 with
      | int i => cases hz; exact ⟨i, rfl, q _ G H [] (Grow.refl s) (Res.im (.int _))⟩
      | _ => cases hz
theorem prim_max2 : PrimN K (fun xs H Q => ∃ i j, xs = [.int i, .int j] ∧ Q (.int (if j > i then j else i)) H) max2D .im := by
  intro G H xs ds z Q s h hz q
  cases h with
  | nil => cases hz
  | @cons v vs d ds h1 h2 =>
    cases h2 with
    | nil => cases d <;> cases hz
    | @cons v2 vs2 d2 ds2 h3 h4 =>
      cases h4 with
      | cons => cases d <;> cases d2 <;> cases hz
      | nil =>
        cases h1 with
        | int i =>
          cases h3 with
          | int j => cases hz; exact ⟨i, j, rfl, q _ G H [] (Grow.refl s) (Res.im (.int _))⟩
          | _ => cases hz
        | _ => cases h3 <;> cases hz
theorem prim_min2 : PrimN K (fun xs H Q => ∃ i j, xs = [.int i, .int j] ∧ Q (.int (if j < i then j else i)) H) min2D .im := by
  intro G H xs ds z Q s h hz q
  cases h with
  | nil => cases hz
  | @cons v vs d ds h1 h2 =>
    cases h2 with
    | nil => cases d <;> cases hz
    | @cons v2 vs2 d2 ds2 h3 h4 =>
      cases h4 with
      | cons => cases d <;> cases d2 <;> cases hz
      | nil =>
        cases h1 with
        | int i =>
          cases h3 with
          | int j => cases hz; exact ⟨i, j, rfl, q _ G H [] (Grow.refl s) (Res.im (.int _))⟩
          | _ => cases hz
        | _ => cases h3 <;> cases hz
theorem prim_int : PrimN K (fun xs H Q => (∃ i, xs = [.int i] ∧ Q (.int i) H) ∨ ∃ k, xs = [.bl k] ∧ Q (.int (if k then 1 else 0)) H) intD .im := by
  intro G H xs ds z Q s h hz q
  cases h with
  | nil => cases hz
  | @cons v vs d ds h1 h2 =>
    cases h2 with
    | cons => cases d <;> cases hz
    | nil =>
      cases h1 with
      | int i => cases hz; exact .inl ⟨i, rfl, q _ G H [] (Grow.refl s) (Res.im (.int _))⟩
      | bl k => cases hz; exact .inr ⟨k, rfl, q _ G H [] (Grow.refl s) (Res.im (.int _))⟩
      | _ => cases hz
theorem prim_list : PrimN K (fun xs H Q => ∃ p ys, xs = [.ref p] ∧ (SqL K H p ys ∨ SqT K H p ys) ∧ ∀ l, H l = none → Q (.ref l) (upd H l (.lst ys))) listD (.ow .im) := by
  intro G H xs ds z Q s h hz q
  cases h with
  | nil => cases hz
  | @cons v vs d ds h1 h2 =>
    cases h2 with
    | cons => cases d <;> cases hz
    | nil =>
      cases h1 with
      | lst h3 h4 => cases hz; exact ⟨_, _, rfl, .inl (.inl (Same.rd s h3)), fun p hp => q _ _ _ _ (Grow.own s hp (fun _ _ z => by cases z) fun _ z => by cases z) (Res.lst s hp h4)⟩
      | tup h3 h4 => cases hz; exact ⟨_, _, rfl, .inr (Same.sqt s h3), fun p hp => q _ _ _ _ (Grow.own s hp (fun _ _ z => by cases z) fun _ z => by cases z) (Res.lst s hp h4)⟩
      | _ => cases hz
theorem prim_tuple : PrimN K (fun xs H Q => ∃ p ys, xs = [.ref p] ∧ ((SqL K H p ys ∧ ∀ l, H l = none → Q (.ref l) (upd H l (.tup ys))) ∨ (SqT K H p ys ∧ Q (.ref p) H))) tupD .im := by
  intro G H xs ds z Q s h hz q
  cases h with
  | nil => cases hz
  | @cons v vs d ds h1 h2 =>
    cases h2 with
    | cons => cases d <;> cases hz
    | nil =>
      cases h1 with
      | @lst a xs ds h3 h4 =>
        cases hz
        refine ⟨_, _, rfl, .inl ⟨.inl (Same.rd s h3), fun p hp => ?_⟩⟩
        have g := Grow.one (o := .tup xs) s hp fun _ _ z => by cases z
        exact q _ _ _ [] g (Res.im (.tup (.of upd_same) (DtA.mono g.g _ h4)))
      | tup h3 h4 => cases hz; exact ⟨_, _, rfl, .inr ⟨Same.sqt s h3, q _ G H [] (Grow.refl s) (Res.im (.tup h3 h4))⟩⟩
      | _ => cases hz
theorem ints_of {xs : List V} : ∀ {ds : List D} {G : Hp} {n : Int} {xs : List V}, DtA K G xs ds → sumI ds = some n → ∃ ns : List Int, xs = ns.map V.int ∧ ns.sum = n
  | [], _, n, _, h, e => by cases h; cases e; exact ⟨[], rfl, rfl⟩
  | d :: ds, _, n, _, h, e => by
    cases h with
    | cons a b =>
      cases a with
      | int i =>
        obtain ⟨m, e1, e2⟩ := Option.map_eq_some_iff.mp e
        obtain ⟨ns, h1, h2⟩ := ints_of (xs := xs) b e1
        exact ⟨i :: ns, by rw [h1]; rfl, by rw [List.sum_cons, h2, e2]⟩
      | _ => cases e
theorem prim_sum : PrimN K (rSum K) sumD .im := by
  intro G H xs ds z Q s h hz q
  cases h with
  | nil => cases hz
  | @cons v vs d ds h1 h2 =>
    cases h2 with
    | cons => cases d <;> cases hz
    | nil =>
      cases h1 with
      | lst h3 h4 =>
        obtain ⟨n, e1, rfl⟩ := Option.map_eq_some_iff.mp hz
        obtain ⟨ns, rfl, rfl⟩ := ints_of (xs := []) h4 e1
        exact ⟨_, ns, rfl, .inl (Same.rd s h3), q _ G H [] (Grow.refl s) (Res.im (.int _))⟩
      | _ => cases hz
theorem bools_of : ∀ {ds : List D} {G : Hp} {bs : List Bool} {xs : List V}, DtA K G xs ds → boolsD ds = some bs → xs = bs.map V.bl
  | [], _, _, _, h, e => by cases h; cases e; rfl
  | d :: ds, _, _, _, h, e => by
    cases h with
    | cons a b =>
      cases a with
      | bl i =>
        obtain ⟨m, e1, rfl⟩ := Option.map_eq_some_iff.mp e
        rw [bools_of b e1]
        rfl
      | _ => cases e
theorem prim_all : PrimN K (rAll K) allD .im := by
  intro G H xs ds z Q s h hz q
  cases h with
  | nil => cases hz
  | @cons v vs d ds h1 h2 =>
    cases h2 with
    | cons => cases d <;> cases hz
    | nil =>
      cases h1 with
      | lst h3 h4 =>
        obtain ⟨bs, e1, rfl⟩ := Option.map_eq_some_iff.mp hz
        obtain rfl := bools_of h4 e1
        exact ⟨_, bs, rfl, .inl (Same.rd s h3), q _ G H [] (Grow.refl s) (Res.im (.bl _))⟩
      | _ => cases hz
theorem prim_any : PrimN K (rAny K) anyD .im := by
  intro G H xs ds z Q s h hz q
  cases h with
  | nil => cases hz
  | @cons v vs d ds h1 h2 =>
    cases h2 with
    | cons => cases d <;> cases hz
    | nil =>
      cases h1 with
      | lst h3 h4 =>
        obtain ⟨bs, e1, rfl⟩ := Option.map_eq_some_iff.mp hz
        obtain rfl := bools_of h4 e1
        exact ⟨_, bs, rfl, .inl (Same.rd s h3), q _ G H [] (Grow.refl s) (Res.im (.bl _))⟩
      | _ => cases hz
end

/-! ### isinstance of data -/
def tyV (K : PySem.W.Frag) : D → Value
  | .obj c _ => .ref (He.ga K c)
  | d => .type (tyD d)
theorem ty_dt {K : PySem.W.Frag} {H : Hp} {x : V} {d : D} (h : Dt K H x d) : TyZ K H x (tyV K d) := by
  cases h with
  | non => exact .inl (.base .non)
  | bl b => exact .inl (.base (.bl b))
  | int i => exact .inl (.base (.int i))
  | str x => exact .inl (.base (.str x))
  | lst h _ =>
    rcases h with h | ⟨o, h⟩
    · exact .inl (.base (.lst h))
    · exact .inl (.base (.frz h))
  | tup h _ =>
    rcases h with (h | ⟨o, h⟩) | ⟨o, its, n, h, c, _⟩
    · exact .inl (.base (.tup h))
    · exact .inl (.fTuple h)
    · exact .inl (.kTuple h c)
  | dct h _ =>
    rcases h with h | ⟨o, h⟩
    · exact .inl (.base (.dK h))
    · exact .inl (.fDict h)
  | obj o h _ => exact .inl (.base (o.ty h))
  | exc o h => exact .inr ⟨_, _, rfl, rfl, .inl h, o.ec⟩
  | exf o h h2 _ => exact .inr ⟨_, _, rfl, rfl, .inr ⟨_, _, h, h2⟩, o.ec⟩
theorem kit_dt (d : D) : kitB (tyD d) "int" = some (isiD "int" d) ∧ kitB (tyD d) "bool" = some (isiD "bool" d) ∧ kitB (tyD d) "str" = some (isiD "str" d) ∧ kitB (tyD d) "list" = some (isiD "list" d) ∧ kitB (tyD d) "tuple" = some (isiD "tuple" d) := by
  have h : ∀ t ∈ ["NoneType", "bool", "int", "str", "list", "tuple", "dict", "object"], ∀ u ∈ ["int", "bool", "str", "list", "tuple"], kitB t u = some (t == u || (u == "int" && t == "bool")) := by decide +kernel
  have m : tyD d ∈ ["NoneType", "bool", "int", "str", "list", "tuple", "dict", "object"] := by cases d <;> simp [tyD]
  exact ⟨h _ m "int" (by decide), h _ m "bool" (by decide), h _ m "str" (by decide), h _ m "list" (by decide), h _ m "tuple" (by decide)⟩
section
variable {X : Cx} {C : Ct} {e : Expr} {f : EF} {pf : PF} {pos p q : Pos} {T : String} {x : Str}
def isTy (T : String) : Bool := T == "int" || T == "bool" || T == "str" || T == "list" || T == "tuple"
theorem kit_is {K : PySem.W.Frag} {H : Hp} {x : V} {d : D} (hd : Dt K H x d) (h : isTy T = true) : PySem.W.kitOne K (tyV K d) (.type T) = some (isiD T d) := by
  unfold isTy at h
  simp only [Bool.or_eq_true, beq_iff_eq] at h
  have ks : PySem.W.kitOne K (.type (tyD d)) (.type T) = some (isiD T d) := by
    obtain ⟨h1, h2, h3, h4, h5⟩ := kit_dt d
    rcases h with (((rfl | rfl) | rfl) | rfl) | rfl
    · exact kit_ty h1
    · exact kit_ty h2
    · exact kit_ty h3
    · exact kit_ty h4
    · exact kit_ty h5
  cases hd with
  | obj o _ _ =>
    rcases h with (((rfl | rfl) | rfl) | rfl) | rfl
    · exact o.isi "int" (by decide)
    · exact o.isi "bool" (by decide)
    · exact o.isi "str" (by decide)
    · exact o.isi "list" (by decide)
    · exact o.isi "tuple" (by decide)
  | exc o _ =>
    rcases h with (((rfl | rfl) | rfl) | rfl) | rfl
    · exact o.isi "int" (by decide)
    · exact o.isi "bool" (by decide)
    · exact o.isi "str" (by decide)
    · exact o.isi "list" (by decide)
    · exact o.isi "tuple" (by decide)
  | exf o _ _ _ =>
    rcases h with (((rfl | rfl) | rfl) | rfl) | rfl
    · exact o.isi "int" (by decide)
    · exact o.isi "bool" (by decide)
    · exact o.isi "str" (by decide)
    · exact o.isi "list" (by decide)
    · exact o.isi "tuple" (by decide)
  | _ => exact ks
/-- isinstance(e, T) -/
theorem ve_isi (h : VE X C .im e f) (ht : isTy T = true) (hT : PE X (.Name x q) (tC (.ty T))) (hm : X.mg "isinstance" = none) (hg : Gl X "isinstance" := by rfl) (he : starEach [e, .Name x q] X.env = (false, eval e X.env) :: starEach [.Name x q] X.env := by rfl) (hs2 : starEach [.Name x q] X.env = (false, eval (.Name x q) X.env) :: starEach [] X.env := by rfl)
    (hpl : (backTo pos (starEach [.Name x q] X.env)).any (·.1) = false := by rfl) : VE X C .im (.Call (.Name "isinstance" p) [e, .Name x q] [] pos) (eIsi T f) := by
  refine PE.mono (pe_callB call_isiZ hg hm (by decide +kernel) (pa_cons h (pa_cons hT pa_nil hs2) he) (by decide) (by decide) he hpl) fun σ H Q ⟨Hm, F, ρ, r, q⟩ => ?_
  refine ⟨Hm, F, ρ, r, q.bind.imp fun p hq v Hm1 H1 F1 g1 s1 r1 x1 => ?_⟩
  exact ⟨v, .ty T, _, _, _, rfl, .ty T, ty_dt (Dt.mono r1.sub _ x1.of_im), kit_is (Dt.mono r1.sub _ x1.of_im) ht, hq (.bl _) Hm1 H1 F1 [] s1 r1 (Val.im (.bl _))⟩
theorem vp_isi (h : VP X C e pf) (ht : isTy T = true) (hT : PE X (.Name x q) (tC (.ty T))) (hm : X.mg "isinstance" = none) (hg : Gl X "isinstance" := by rfl) (he : starEach [e, .Name x q] X.env = (false, eval e X.env) :: starEach [.Name x q] X.env := by rfl) (hs2 : starEach [.Name x q] X.env = (false, eval (.Name x q) X.env) :: starEach [] X.env := by rfl)
    (hpl : (backTo pos (starEach [.Name x q] X.env)).any (·.1) = false := by rfl) : VP X C (.Call (.Name "isinstance" p) [e, .Name x q] [] pos) (pIsi T pf) := by
  refine PE.mono (pe_callB call_isiZ hg hm (by decide +kernel) (pa_cons h (pa_cons hT pa_nil hs2) he) (by decide) (by decide) he hpl) fun σ H Q ⟨Hm, F, ρ, r, q⟩ => ?_
  refine ⟨Hm, F, ρ, r, q.bind.imp fun d hq v Hm1 H1 s1 sm1 r1 x1 => ?_⟩
  exact ⟨v, .ty T, _, _, _, rfl, .ty T, ty_dt x1, kit_is x1 ht, hq (.bl _) Hm1 H1 s1 sm1 r1 (.bl _)⟩
/-- a built-in type's name, as isinstance's second -/
theorem ty_name (hm : X.mg x = none) (hg : Gl X x := by rfl) (hv : bootBuiltins x = some (.type T) := by decide +kernel) (hn : x ≠ "__name__" := by decide) (hdb : (x == ("__debug__" : Str)) = false := by decide) : PE X (.Name x q) (tC (.ty T)) := pe_bltn hg hm hv rfl hn hdb
end
end VL

set_option Elab.async false
set_option linter.all false
set_option maxRecDepth 100000
set_option maxHeartbeats 4000000
/-! V9: own lists are changed; chains of comparisons. -/
namespace VL
open PySem PySem.Spec L2
theorem AllM.set {P : V → D → List Addr → Prop} : ∀ {vs : List V} {ds : List D} {f : List Addr} {j : Nat} {v : V} {d : D} {g : List Addr}, AllM P vs ds f → j < ds.length → P v d g → ∃ f', AllM P (vs.set j v) (ds.set j d) f' ∧ (∀ a ∈ f', a ∈ f ∨ a ∈ g) ∧ (f.Nodup → g.Nodup → (∀ a ∈ g, a ∉ f) → f'.Nodup)
  | _, _, _, j, _, _, _, .nil, h, _ => by simp at h
  | _, _, _, 0, v, d, g, @AllM.cons _ v0 vs d0 ds f1 f2 h1 h2, _, h => by
    refine ⟨g ++ f2, .cons h h2, fun a ha => ?_, fun n1 n2 hg => ?_⟩
    · rcases List.mem_append.mp ha with z | z
      · exact .inr z
      · exact .inl (List.mem_append_right _ z)
    · rw [List.nodup_append] at n1 ⊢
      exact ⟨n2, n1.2.1, fun a ha b hb e => by subst e; exact hg a ha (List.mem_append_right _ hb)⟩
  | _, _, _, j + 1, v, d, g, @AllM.cons _ v0 vs d0 ds f1 f2 h1 h2, hl, h => by
    obtain ⟨f', h3, h4, h5⟩ := AllM.set (j := j) (v := v) (d := d) h2 (by simpa using hl) h
    refine ⟨f1 ++ f', .cons h1 h3, fun a ha => ?_, fun n1 n2 hg => ?_⟩
    · rcases List.mem_append.mp ha with z | z
      · exact .inl (List.mem_append_left _ z)
      · rcases h4 a z with y | y
        · exact .inl (List.mem_append_right _ y)
        · exact .inr y
    · rw [List.nodup_append] at n1 ⊢
      refine ⟨n1.1, h5 n1.2.1 n2 fun a ha hb => hg a ha (List.mem_append_right _ hb), fun a ha b hb e => ?_⟩
      subst e
      rcases h4 a hb with z | z
      · exact n1.2.2 a ha a z rfl
      · exact hg a z (List.mem_append_left _ ha)
section
variable {X : Cx} {C : Ct} {rm k : Md} {e ek : Expr} {fe fk : EF} {x : Str} {i : Nat} {pos p p1 p2 p3 : Pos}
/-- the own list in slot i -/
theorem Rel.own {K : PySem.W.Frag} {C : Ct} {Hm H : Hp} {F : Fps} {σ : St} {ρ : En} (r : Rel K C Hm H F σ ρ) {i : Nat} {k : Md} {ds : List D} (h : ρ[i]? = some (some (.lst ds))) (hm : C.Γ[i]? = some (.ow k)) :
    ∃ a xs g, σ[i]? = some (some (.ref a)) ∧ H a = some (.lst xs) ∧ AllM (RdM K Hm H k) xs ds g ∧ F i = a :: g ∧ a ∉ g := by
  obtain ⟨v, m, h1, h2, h3⟩ := r.sl i _ h
  rw [hm] at h2
  cases h2
  obtain ⟨a, rfl, h4⟩ := h3
  rcases h4 with ⟨xs, ds', g, e, ho, hall, ef⟩ | ⟨_, _, _, e, _⟩ | ⟨_, _, _, _, _, _, e, _⟩
  · cases e
    have := r.nd i
    rw [ef] at this
    exact ⟨a, xs, g, h1, ho, hall, ef, (List.nodup_cons.mp this).1⟩
  · cases e
  · cases e
theorem one_cons {a : Addr} {f g : List Addr} (h1 : (a :: f).Nodup) (h2 : g.Nodup) (h3 : ∀ b ∈ g, b ∉ a :: f) : (a :: (f ++ g)).Nodup := by
  rw [← List.cons_append, List.nodup_append]
  exact ⟨h1, h2, fun b hb c hc e => by subst e; exact h3 b hc hb⟩
theorem append_red {D : Ends} {σ : St} {H : Hp} (hm : C.Γ[i]? = some (.ow k)) (h : tS X.K C rm (sAppend i fe) D σ H) : tDrop (tBM X.K "list" rAppend (tVar i) (tCons (tE X.K C k fe) tNil)) D σ H := by
  obtain ⟨Hm, F, ρ, r, q⟩ := h
  unfold sAppend at q
  split at q
  · rename_i ds0 e0
    obtain ⟨a, xs0, g0, h1, h2, _, _, _⟩ := r.own e0 hm
    refine ⟨.ref a, h1, .inl ⟨rfl, xs0, .of h2⟩, Hm, F, ρ, r, q.bind.imp fun p hq v Hm1 H1 F1 g1 s1 r1 x1 => ?_⟩
    obtain ⟨d, ρ1⟩ := p
    have hq : fin X.K C Hm H F (match ρ1[i]? with
      | some (some (.lst ds)) => if ds.length < LINE then Rs.ok (Fl.next, ρ1.set i (some (.lst (ds ++ [d])))) else .bad
      | _ => .bad) _ := hq
    split at hq
    · rename_i ds e1
      obtain ⟨a', xs, g, h3, h4, hall, hF, hag⟩ := r1.own e1 hm
      rw [h1] at h3
      cases h3
      split at hq
      · rename_i hl
        have hna : a ∉ g1 := fun z => x1.ap a z i (by rw [hF]; exact List.mem_cons_self)
        have nd1 : (a :: g).Nodup := by rw [← hF]; exact r1.nd i
        refine ⟨a, xs, v, rfl, rfl, h4, by rw [line_eq, hall.length]; exact hl, ?_⟩
        have r2 := r1.rew (a := a) (o := .lst (xs ++ [v])) (g := a :: (g ++ g1)) (d := .lst (ds ++ [d])) hm h1 (by rw [hF]; exact List.mem_cons_self)
          ⟨a, rfl, .inl ⟨_, _, g ++ g1, rfl, upd_same, (AllM.append hall (AllM.one x1.rd)).imp fun v d gx hgx hh => hh.step (Same.refl _) fun b hb o ho => by
            have : b ≠ a := fun z => by
              subst z
              rcases List.mem_append.mp (hgx b hb) with z | z
              · exact hag z
              · exact hna z
            rw [upd_ne this]
            exact ho, rfl⟩⟩
          (one_cons nd1 x1.nd fun b hb z => x1.ap b hb i (by rw [hF]; exact z))
          (fun b hb => by
            rw [← List.cons_append] at hb
            rcases List.mem_append.mp hb with z | z
            · exact r1.un i b (by rw [hF]; exact z)
            · exact x1.un b z)
          (fun b hb j hj hbj => by
            rw [← List.cons_append] at hb
            rcases List.mem_append.mp hb with z | z
            · exact hj (r1.dj j i b hbj (by rw [hF]; exact z))
            · exact x1.ap b z j hbj)
          (fun b hb => by
            rw [← List.cons_append] at hb
            rcases List.mem_append.mp hb with z | z
            · exact .inl (by rw [hF]; exact z)
            · exact .inr (r.he b (x1.nw b z))) (fun _ z => by cases z) (fun _ _ z => by cases z)
        refine hq Hm1 _ _ σ (s1.rew (by rw [hF]; exact List.mem_cons_self) ⟨_, h4⟩ fun b hb => ?_) r2
        rw [← List.cons_append] at hb
        rcases List.mem_append.mp hb with z | z
        · exact .inl (by rw [hF]; exact z)
        · exact .inr (x1.nw b z)
      · exact hq.elim
    · exact hq.elim
  · exact q.elim
/-- x.append(e), x own -/
theorem vs_append (h : VE X C k e fe) (hm : C.Γ[i]? = some (.ow k) := by rfl) (hN : X.N[i]? = some x := by rfl) (hv : Vis X.env.scope x := by first | exact Or.inl rfl | exact Or.inr (Or.inl rfl) | exact Or.inr (Or.inr rfl))
    (hd : (x == ("__debug__" : Str)) = false := by decide) (hcd : (x == ("__classdict__" : Str)) = false := by decide)
    (he : starEach [e] X.env = (false, eval e X.env) :: starEach [] X.env := by rfl) (hbase : attributeBase (.Name x p) "append" X.env (eval (.Name x p) X.env) = eval (.Name x p) X.env := by rfl)
    (hfew : ((backTo p2 (starEach [e] X.env)).all (fun x => !x.1) && (backToKw p2 (keywordEach [] X.env)).all (fun x => x.1.isSome)
      && decide ([e].length + ([] : List Keyword).length + (if ([] : List Keyword).isEmpty then 0 else 1) < 30)) = true := by rfl)
    (hline : (p1.endLine == p2.line) = true := by rfl) (hpl : (backTo p2 (starEach [] X.env)).any (·.1) = false := by rfl)
    (hs : swapsWith (.Call (.Attribute (.Name x p) "append" p1) [e] [] p2) none pos.line X.env = pure false := by rfl) :
    VS X C rm (.Expr (.Call (.Attribute (.Name x p) "append" p1) [e] [] p2) pos) (sAppend i fe) :=
  PS.mono (ps_expr (pe_bm PySem.F.plainAttrs_list PySem.F.slot_list_append PySem.F.type_list_append mt_append (pe_var hN hv hd hcd) (pa_cons h pa_nil he) hbase hfew hline he hpl) hs) fun _ _ _ => append_red hm
/-- x[j] = e, x own -/
theorem ixD_lt {n : Nat} {k : Int} {j : Nat} (h : ixD n k = some j) : j < n := (ixN_seq (show ixN n k = some j from h)).2.1
theorem setix_red {D : Ends} {σ : St} {H : Hp} (hm : C.Γ[i]? = some (.ow k)) (h : tS X.K C rm (sSetIx i fk fe) D σ H) : tAsg (tE X.K C k fe) (gSub (tVar i) (tE X.K C .im fk) rSetL) D σ H := by
  obtain ⟨Hm, F, ρ, r, q⟩ := h
  refine ⟨Hm, F, ρ, r, q.bind.imp fun p hq v Hm1 H1 F1 g1 s1 r1 x1 => ?_⟩
  obtain ⟨d, ρ1⟩ := p
  have hq : fin X.K C Hm H F (match ρ1[i]? with
    | some (some (.lst _)) => fk ρ1 >>= fun q => (match q.2[i]?, q.1 with
      | some (some (.lst ds)), .int k => (match ixD ds.length k with
        | some j => Rs.ok (Fl.next, q.2.set i (some (.lst (ds.set j d))))
        | none => .bad)
      | _, _ => .bad)
    | _ => .bad) _ := hq
  split at hq
  · rename_i ds0 e0
    obtain ⟨a, xs0, g0, h1, h2, _, _, _⟩ := r1.own e0 hm
    refine ⟨.ref a, h1, Hm1, F1, ρ1, r1, (hq.step s1).bind.imp fun p2 hq2 w Hm2 H2 F2 g2 s2 r2 x2 => ?_⟩
    obtain ⟨dk, ρ2⟩ := p2
    have hq2 : fin X.K C Hm1 H1 F1 (match ρ2[i]?, dk with
      | some (some (.lst ds)), .int k => (match ixD ds.length k with
        | some j => Rs.ok (Fl.next, ρ2.set i (some (.lst (ds.set j d))))
        | none => .bad)
      | _, _ => .bad) _ := hq2
    split at hq2
    · rename_i ds kk e1 old
      have x3 := x2.of_im
      cases x3
      obtain ⟨a', xs, g, h3, h4, hall, hF, hag⟩ := r2.own e1 hm
      rw [h1] at h3
      cases h3
      split at hq2
      · rename_i j ej
        have x1 := x1.step s2
        have hna : a ∉ g1 := fun z => x1.ap a z i (by rw [hF]; exact List.mem_cons_self)
        have nd1 : (a :: g).Nodup := by rw [← hF]; exact r2.nd i
        obtain ⟨f', h5, h6, h7⟩ := hall.set (ixD_lt ej) x1.rd
        have sub : ∀ b, b ∈ a :: f' → b ∈ a :: g ∨ b ∈ g1 := fun b hb => by
          rcases List.mem_cons.mp hb with rfl | hb
          · exact .inl List.mem_cons_self
          · exact (h6 b hb).imp (List.mem_cons_of_mem _) id
        have haf : a ∉ f' := fun z => (h6 a z).elim hag hna
        refine ⟨a, xs, kk, j, rfl, rfl, h4, ?_, ?_⟩
        · rw [hall.length]; exact ej
        have r3 := r2.rew (a := a) (o := .lst (xs.set j v)) (g := a :: f') (d := .lst (ds.set j d)) hm h1 (by rw [hF]; exact List.mem_cons_self)
          ⟨a, rfl, .inl ⟨_, _, f', rfl, upd_same, h5.imp fun v d gx hgx hh => hh.step (Same.refl _) fun b hb o ho => by
            have : b ≠ a := fun z => by subst z; exact haf (hgx b hb)
            rw [upd_ne this]
            exact ho, rfl⟩⟩
          (List.nodup_cons.mpr ⟨haf, h7 (List.nodup_cons.mp nd1).2 x1.nd fun b hb z => x1.ap b hb i (by rw [hF]; exact List.mem_cons_of_mem _ z)⟩)
          (fun b hb => (sub b hb).elim (fun z => r2.un i b (by rw [hF]; exact z)) (x1.un b))
          (fun b hb j hj hbj => (sub b hb).elim (fun z => hj (r2.dj j i b hbj (by rw [hF]; exact z))) fun z => x1.ap b z j hbj)
          (fun b hb => (sub b hb).imp (fun z => by rw [hF]; exact z) fun z => r.he b (x1.nw b z)) (fun _ z => by cases z) (fun _ _ z => by cases z)
        refine hq2 Hm2 _ _ σ ((s1.trans s2).rew (by rw [hF]; exact List.mem_cons_self) ⟨_, h4⟩ fun b hb => (sub b hb).imp (fun z => by rw [hF]; exact z) (x1.nw b)) r3
      · exact hq2.elim
    · exact hq2.elim
  · exact hq.elim
theorem vs_setix (h : VE X C k e fe) (hk : VE X C .im ek fk) (hm : C.Γ[i]? = some (.ow k) := by rfl) (hN : X.N[i]? = some x := by rfl) (hv : Vis X.env.scope x := by first | exact Or.inl rfl | exact Or.inr (Or.inl rfl) | exact Or.inr (Or.inr rfl))
    (hd : (x == ("__debug__" : Str)) = false := by decide) (hcd : (x == ("__classdict__" : Str)) = false := by decide)
    (ha : ∀ v, assign (.Subscript (.Name x p) ek p2) X.env v = (do
      let ov ← holding [v] (eval (.Name x p) X.env)
      let iv ← holding [v, ov] (eval ek X.env)
      standAt p2
      holding [v, ov, iv] (setItem ov iv v)
      release [v, ov, iv] []) := by intro _; rfl)
    (hs : swapsWithSole [.Subscript (.Name x p) ek p2] e pos.line X.env = pure false := by rfl) (hw : swappedStores [.Subscript (.Name x p) ek p2] e X.env = pure none := by rfl)
    (h1 : (assignEach [.Subscript (.Name x p) ek p2] X.env).map (·.2) = [assign (.Subscript (.Name x p) ek p2) X.env] := by rfl) :
    VS X C rm (.Assign [.Subscript (.Name x p) ek p2] e pos) (sSetIx i fk fe) :=
  PS.mono (ps_asg h (pg_sub (pe_var hN hv hd hcd) hk set_list ha) hs hw h1) fun _ _ _ => setix_red hm

/-! ### a op1 b op2 c -/
theorem chain_red {r r' : R2} {g g' : VL.D → VL.D → Option VL.D} {fa fb fc : EF} {σ : St} {H : Hp} {Q : VK} (hp : Prim2 X.K r g .im) (hp' : Prim2 X.K r' g' .im) (h : tE X.K C .im (eChain g g' fa fb fc) σ H Q) : tChain r r' (tE X.K C .im fa) (tE X.K C .im fb) (tE X.K C .im fc) σ H Q := by
  obtain ⟨Hm, F, ρ, rl, q⟩ := h
  refine ⟨Hm, F, ρ, rl, q.bind.imp fun p hq v Hm1 H1 F1 g1 s1 r1 x1 => ?_⟩
  refine ⟨Hm1, F1, p.2, r1, (hq.step s1).bind.imp fun p2 hq2 v2 Hm2 H2 F2 g2 s2 r2 x2 => ?_⟩
  obtain ⟨z, ez, hz⟩ := (hq2.step s2).bind.of
  refine hp Hm2 H2 v v2 p.1 p2.1 z _ r2.sub (Dt.mono s2.sm _ x1.of_im) x2.of_im ez fun w G' H' f gr rs => ?_
  obtain ⟨r3, s3⟩ := r2.grow gr
  have s12 := s1.trans (s2.trans s3)
  have y := rs.rd.1
  cases z with
  | bl b =>
    cases y
    refine ⟨b, rfl, ?_⟩
    cases b with
    | true =>
      refine iteT ⟨G', F2, p2.2, r3, (hz.step s3).bind.imp fun p3 hq3 v3 Hm4 H4 F4 g4 s4 r4 x4 => ?_⟩
      obtain ⟨z2, ez2, hz2⟩ := (hq3.step s4).bind.of
      exact hp' Hm4 H4 v2 v3 p2.1 p3.1 z2 Q r4.sub (Dt.mono (s3.sm.trans s4.sm) _ x2.of_im) x4.of_im ez2 fun w G' H' f gr rs => endE hz2 (s12.trans s4) r4 gr rs
    | false =>
      have hz : OkE X.K C .im Hm H F σ Q (.bl false, p2.2) := hz
      exact iteF (hz (.bl false) G' H' F2 [] s12 r3 (Val.im (.bl false)))
  | _ => exact hz.elim
theorem ve_chain {op op' : CmpOp} {r r' : R2} {g g' : VL.D → VL.D → Option VL.D} {a b c : Expr} {fa fb fc : EF} (ho : OpR X (compareOp op) r) (hp : Prim2 X.K r g .im) (ho' : OpR X (compareOp op') r') (hp' : Prim2 X.K r' g' .im) (ha : VE X C .im a fa) (hb : VE X C .im b fb) (hc : VE X C .im c fc)
    (hm : lastMarks [op, op'] [b, c] = false := by with_unfolding_all rfl) : VE X C .im (.Compare a [op, op'] [b, c] pos) (eChain g g' fa fb fc) :=
  PE.mono (pe_chain ho ho' ha hb hc hm) fun _ _ _ => chain_red hp hp'
theorem vt_chain {op op' : CmpOp} {r r' : R2} {g g' : VL.D → VL.D → Option VL.D} {a b c : Expr} {fa fb fc : EF} (ho : OpR X (compareOp op) r) (hp : Prim2 X.K r g .im) (ho' : OpR X (compareOp op') r') (hp' : Prim2 X.K r' g' .im) (ha : VE X C .im a fa) (hb : VE X C .im b fb) (hc : VE X C .im c fc)
    (hm : lastMarks [op, op'] [b, c] = false := by with_unfolding_all rfl) : VT X C (.Compare a [op, op'] [b, c] pos) (tVal (eChain g g' fa fb fc)) :=
  PT.mono (pt_chain ho ho' ha hb hc hm) fun _ _ _ => redT fun _ => chain_red hp hp'
end
end VL

set_option Elab.async false
set_option linter.all false
set_option maxRecDepth 100000
set_option maxHeartbeats 4000000
/-! V10: the end: a law's promise from what its body computes. -/
namespace VL
open PySem PySem.Spec PyProof.Rows L2
/-- no list stands in K -/
def noLst (K : PySem.W.Frag) : Bool := K.all fun q => match q.2.cls with
  | .type c => !decide (c = "list")
  | _ => true
theorem look_mem {a : Addr} {o : Obj} : ∀ {l : List (Addr × Obj)}, l.lookup a = some o → (a, o) ∈ l
  | [], h => by cases h
  | (b, u) :: r, h => by
    rw [List.lookup_cons] at h
    split at h
    · rename_i q
      cases h
      rw [beq_iff_eq.mp q]
      exact List.mem_cons_self
    · exact List.mem_cons_of_mem _ (look_mem h)
theorem noLst_ok {K : PySem.W.Frag} (h : noLst K = true) {a : Addr} {o : Obj} (e : K.lookup a = some o) : o.cls ≠ .type "list" := fun z => by
  have := List.all_eq_true.mp h _ (look_mem e)
  simp [z] at this
theorem call_end {P : Program} {w : World} {K : PySem.W.Frag} {mg mb : Str → Option Value} {k : Nat} {fa a : Addr} {fd : FuncData} {x : Str} {sp : Sp} {s₁ : Shared} {vs : List Value} {ns : List Int}
    (kin : K.In s₁.heap) (nsm : s₁.heap.Ns mainGlobals mg) (nsb : s₁.heap.Ns builtinsNs mb) (blt : ∀ x : Str, x ≠ "__name__" → mb x = bootBuiltins x) (nl : s₁.heap.NoLimit) (gens : s₁.gens = #[])
    (ha : s₁.heap.get? a = some { cls := .type "list", data := .seq vs.toArray }) (hi : IntsAre vs ns) (hl : ns.length ≤ sizeLine) (hr : RoomG k callerA) (hk : noLst K = true)
    (F : ∀ base : Heap, K.In base → base.Ns mainGlobals mg → FnG P w K mg base k fa fd [x] sp) (bind1 : ∀ (s : Shared) (u : Value), BindsTo s fd ⟨[u], []⟩ [(x, u)])
    (hsp : ∀ H : Hp, (∀ b, H b = none ∨ ∃ o xs, H b = some (.frz o (.lst xs))) → Rd H a (.lst (ns.map V.int)) → sp [.ref a] H (fun v _ => v = .bl true) fun _ _ _ => False) :
    codeAny (model P w) callerA (.call (.ref fa) ⟨[.ref a], []⟩) (fun r s' => r = .ok (.ret (.bool true)) ∧ OldK s₁.heap s'.heap ∧ s'.os = s₁.os ∧ AllBare s'.gens) s₁ := by
  have kn : K.lookup a = none := by
    cases e : K.lookup a with
    | none => rfl
    | some o =>
      have e2 := kin a o e
      rw [ha] at e2
      cases e2
      exact absurd rfl (noLst_ok hk e)
  have rv := vals_ints hi
  let H : Hp := fun b => if b = a then some (.frz { cls := .type "list", data := .seq vs.toArray } (.lst (ns.map V.int))) else none
  have Ha : H a = some (.frz { cls := .type "list", data := .seq vs.toArray } (.lst (ns.map V.int))) := if_pos rfl
  have Hn : ∀ {b}, b ≠ a → H b = none := fun h => if_neg h
  have inA : ∀ {b}, H b ≠ none → b = a := fun {b} h => Decidable.byContradiction fun z => h (Hn z)
  have hok : HOk P w H s₁.heap := fun b u z => by
    have e : b = a := inA (by rw [z]; exact fun q => nomatch q)
    subst e
    rw [Ha] at z
    cases z
    exact ⟨ha, by rw [List.length_map]; exact hl, vs, _, rv, ha⟩
  have lo : ∀ {b : Addr} {o : Obj}, s₁.heap.get? b = some o → H b = none → (hidT s₁.heap H).get? b = some o := fun e n => hidT_get e n
  have di : ∀ {b : Addr} {o : Obj} {es : Array DictEntry} {ep : Nat}, s₁.heap.get? b = some o → o.data = .dict es ep → H b = none := fun {b o es ep} e d => Hn fun z => by
    subst z
    rw [ha] at e
    cases e
    cases d
  have ns2 : ∀ {b : Addr} {m : Str → Option Value}, s₁.heap.Ns b m → (hidT s₁.heap H).Ns b m := fun {b m} ⟨o, es, ep, e, d, r⟩ => ⟨o, es, ep, lo e (di e d), d, r⟩
  have kb : K.In (hidT s₁.heap H) := fun b o e => lo (kin b o e) (Hn fun z => by subst z; rw [kn] at e; cases e)
  have md : Mod K mg (hidT s₁.heap H) := ⟨kb, ns2 nsm, ⟨mb, ns2 nsb, blt⟩, let ⟨mc, h1, h2⟩ := nl; ⟨mc, ns2 h1, h2⟩⟩
  have env : Env0 P w K mg (hidT s₁.heap H) callerA [] s₁ H := ⟨rfl, md, fun b o e => of_hidT e, Nat.le_of_eq (hidT_size _ _), trivial, fun b hb => (by cases hb), hok, .of_eq gens⟩
  have only : ∀ b, H b = none ∨ ∃ o xs, H b = some (.frz o (.lst xs)) := fun b => by
    by_cases hb : b = a
    · exact Or.inr ⟨_, _, by rw [hb]; exact Ha⟩
    · exact Or.inl (Hn hb)
  refine codeAny_mono ((F _ kb (ns2 nsm)).go callerA [] s₁ H ⟨[.ref a], []⟩ [.ref a] [.ref a] _ _ hr env (bind1 s₁ (.ref a)) (.cons rfl .nil) (hsp H only (Or.inr ⟨_, Ha⟩))) fun r s' h => ?_
  cases r with
  | error e =>
    exact (show False from h).elim
  | ok fl =>
    cases fl with
    | ret u =>
      obtain ⟨v, H', os, bare, un, hok', rr, qv⟩ := h
      have qv : v = .bl true := qv
      subst qv
      obtain rfl : u = Value.bool true := rr
      refine ⟨rfl, OldK.of_keep fun b o e => ?_, os, bare⟩
      by_cases hb : b = a
      · subst hb
        obtain ⟨e1, _⟩ := hok b _ Ha
        obtain ⟨e2, _⟩ := hok' b _ (un.frzs b _ _ Ha)
        rw [e1] at e
        cases e
        exact e2
      · exact un.keep b o e (Hn hb) (fun z => by cases z) (by simp)
    | _ => exact False.elim h
/-- the end: Y gives K, what the top has written, the law's promise over every base -/
theorem walk_v {l : PySem.W.OpenLaw} {n k : Nat} {q : Program} {loose : List Str} {XP : (Str → Option Value) → Heap → Prop} {YP : World → Heap → Prop} {d : DefRec} {x : Str} {N : Nat} {body : SF}
    (hn : l.most = some n) (hn2 : n ≤ 1000) (hdf : d.params.defaults = []) (hr : RoomG k callerA)
    (F : ∀ (w : World) (mg : Str → Option Value) (fa : Addr) (h : Heap), YP w h → h.Ns mainGlobals mg → mg d.name = some (.ref fa) →
      ∃ (K : PySem.W.Frag) (fd : FuncData), K.In h ∧ noLst K = true ∧ (∀ (s : Shared) (u : Value), BindsTo s fd ⟨[u], []⟩ [(x, u)]) ∧
        ∀ base : Heap, K.In base → base.Ns mainGlobals mg → FnG l.prog w K mg base k fa fd [x] (spV EW0 K [.im] .im (runF N [.im] body)))
    (law : ∀ ns : List Int, ns.length ≤ n → ∃ rs, runF N [.im] body [.lst (ns.map .int)] = .ok (.bl true, rs)) :
    PySem.W.WalkO q loose XP YP l.row.toRowW d [] (fun f vs => PySem.call f vs) := by
  refine Att.attach_call hn hdf fun w s₀ s₁ mg mb fa o pm cd doc a vs ns G Y ho hd hcd hmg hobj hints hlen hg => ?_
  obtain ⟨K, fd, kin, kl, hb, hF⟩ := F w mg fa _ Y G.T.g hmg
  refine call_end kin G.T.g G.T.b G.T.builtins G.T.nolimit hg hobj hints (Nat.le_trans hlen (Nat.le_trans hn2 (by unfold sizeLine; decide))) hr kl hF hb fun H hO hS => ?_
  obtain ⟨rs, e⟩ := law ns hlen
  have hv : DtA K H (ns.map V.int) (ns.map D.int) := by
    clear hints hlen hS e
    induction ns with
    | nil => exact .nil
    | cons i ns ih => exact .cons (.int i) ih
  refine ⟨H, [.lst (ns.map .int)], [], Same.refl _, fun b xs e => e, fun b o u e => e, .im (.lst hS hv) .nil, ?_⟩
  rw [e]
  intro v Hm' H' g bk xv
  obtain ⟨h, _⟩ := xv.rd
  cases h
  rfl
end VL

set_option Elab.async false
set_option linter.all false
set_option maxRecDepth 100000
set_option maxHeartbeats 4000000
/-! V11: own things lent, given up; what is never reached. -/
namespace VL
open PySem PySem.Spec L2

def imAt : List Nat → List Md → List Md
  | [], Γ => Γ
  | i :: is, Γ => (imAt is Γ).set i .im
theorem imAt_len : ∀ {is : List Nat} {Γ : List Md}, (imAt is Γ).length = Γ.length
  | [], _ => rfl
  | i :: is, Γ => by show ((imAt is Γ).set i .im).length = _; rw [List.length_set, imAt_len]
theorem imAt_ne : ∀ {is : List Nat} {Γ : List Md} {j : Nat}, j ∉ is → (imAt is Γ)[j]? = Γ[j]?
  | [], _, _, _ => rfl
  | i :: is, Γ, j, h => by
    show ((imAt is Γ).set i .im)[j]? = _
    rw [List.getElem?_set_ne (fun z => h (by rw [z]; exact List.mem_cons_self)), imAt_ne fun z => h (List.mem_cons_of_mem _ z)]
theorem imAt_in : ∀ {is : List Nat} {Γ : List Md} {j : Nat}, j ∈ is → j < Γ.length → (imAt is Γ)[j]? = some .im
  | i :: is, Γ, j, h, hl => by
    show ((imAt is Γ).set i .im)[j]? = _
    by_cases e : i = j
    · subst e
      rw [List.getElem?_set_self (by rw [imAt_len]; exact hl)]
    · rw [List.getElem?_set_ne e]
      exact imAt_in ((List.mem_cons.mp h).resolve_left fun z => e z.symm) hl
/-- the frame with the slots is read alone -/
def Ct.bor (C : Ct) (is : List Nat) : Ct := { C with Γ := imAt is C.Γ }
def jsOk (is : List Nat) (Γ : List Md) (js : List (Nat × Md)) : Bool := js.all fun p => decide (Γ[p.1]? = some p.2) && !is.contains p.1
/-- every own slot is lent or told -/
def allOk (is : List Nat) (js : List (Nat × Md)) : Nat → List Md → Bool
  | _, [] => true
  | n, .im :: Γ => allOk is js (n + 1) Γ
  | n, .ow k :: Γ => (is.contains n || (js.map (·.1)).contains n) && allOk is js (n + 1) Γ
theorem allOk_at {is : List Nat} {js : List (Nat × Md)} : ∀ {Γ : List Md} {n j : Nat} {m : Md}, allOk is js n Γ = true → Γ[j]? = some m → m = .im ∨ n + j ∈ is ∨ n + j ∈ js.map (·.1)
  | [], _, _, _, _, h => by simp at h
  | .im :: Γ, n, 0, m, _, h => by simp at h; exact .inl h.symm
  | .ow k :: Γ, n, 0, m, h, _ => by
    rw [allOk, Bool.and_eq_true, Bool.or_eq_true] at h
    exact .inr (h.1.imp (fun z => by simpa using z) fun z => by simpa using z)
  | .im :: Γ, n, j + 1, m, h, e => by
    have := allOk_at (n := n + 1) (j := j) (m := m) (Γ := Γ) h (by simpa using e)
    rwa [show n + 1 + j = n + (j + 1) by omega] at this
  | .ow k :: Γ, n, j + 1, m, h, e => by
    rw [allOk, Bool.and_eq_true] at h
    have := allOk_at (n := n + 1) (j := j) (m := m) (Γ := Γ) h.2 (by simpa using e)
    rwa [show n + 1 + j = n + (j + 1) by omega] at this
theorem back_js {ρ ρ' : En} : ∀ {js : List (Nat × Md)} {z : En}, borBack js ρ ρ' = some z → ρ'.length = ρ.length → z.length = ρ.length ∧ ∀ j : Nat, (j ∉ js.map (·.1) → z[j]? = ρ[j]?) ∧
    (j ∈ js.map (·.1) → z[j]? = ρ'[j]? ∨ (z[j]? = some none ∧ ∀ d, ρ'[j]? ≠ some (some d))) ∧ (j ∈ js.map (·.1) → ∀ d, z[j]? = some (some d) → ∃ m, (j, m) ∈ js ∧ flatM m d = true)
  | [], z, h, hl => by
    cases h
    exact ⟨rfl, fun j => ⟨fun _ => rfl, (fun h => by cases h), (fun h => by cases h)⟩⟩
  | (i, m) :: js, z, h, hl => by
    obtain ⟨y, e1, e2⟩ := Option.bind_eq_some_iff.mp h
    obtain ⟨l1, k1⟩ := back_js e1 hl
    have put : ∀ o : Option D, z = y.set i o → (o = none → ∀ d, ρ'[i]? ≠ some (some d)) → (∀ d, o = some d → ρ'[i]? = some (some d) ∧ flatM m d = true) → z.length = ρ.length ∧ ∀ j : Nat, (j ∉ ((i, m) :: js).map (·.1) → z[j]? = ρ[j]?) ∧
        (j ∈ ((i, m) :: js).map (·.1) → z[j]? = ρ'[j]? ∨ (z[j]? = some none ∧ ∀ d, ρ'[j]? ≠ some (some d))) ∧ (j ∈ ((i, m) :: js).map (·.1) → ∀ d, z[j]? = some (some d) → ∃ m', (j, m') ∈ (i, m) :: js ∧ flatM m' d = true) := by
      intro o ez hn hs
      subst ez
      refine ⟨by rw [List.length_set, l1], fun j => ?_⟩
      obtain ⟨q1, q2, q3⟩ := k1 j
      by_cases e : j = i
      · subst e
        refine ⟨fun h => absurd List.mem_cons_self h, fun _ => ?_, fun _ d hd => ?_⟩
        · by_cases hj : j < ρ.length
          · rw [List.getElem?_set_self (by rw [l1]; exact hj)]
            cases o with
            | none => exact .inr ⟨rfl, hn rfl⟩
            | some d => exact .inl (hs d rfl).1.symm
          · left
            rw [List.getElem?_eq_none (by rw [List.length_set, l1]; omega), List.getElem?_eq_none (by rw [hl]; omega)]
        · have hj : j < y.length := by
            have := (List.getElem?_eq_some_iff.mp hd).1
            rwa [List.length_set] at this
          rw [List.getElem?_set_self hj] at hd
          exact ⟨m, List.mem_cons_self, (hs d (Option.some.inj hd)).2⟩
      · rw [List.getElem?_set_ne (Ne.symm e)]
        refine ⟨fun h => q1 fun z => h (List.mem_cons_of_mem _ z), fun h => q2 ((List.mem_cons.mp h).resolve_left e), fun h d hd => ?_⟩
        obtain ⟨m', h1, h2⟩ := q3 ((List.mem_cons.mp h).resolve_left e) d hd
        exact ⟨m', List.mem_cons_of_mem _ h1, h2⟩
    split at e2
    · rename_i d ed
      split at e2
      · rename_i hf
        cases e2
        exact put (some d) rfl (fun z => by cases z) fun d' e => by cases e; exact ⟨ed, hf⟩
      · cases e2
    · rename_i hne
      cases e2
      exact put none rfl (fun _ d hd => hne d hd) fun d' e => by cases e
section
variable {K : PySem.W.Frag} {C : Ct} {Hm H Hm3 H3 : Hp} {F F3 : Fps} {σ : St} {ρ ρ3 z : En} {is : List Nat} {js : List (Nat × Md)}
open Classical in
/-- the heap that is read, with what is lent -/
noncomputable def lend (Hm H : Hp) (F : Fps) (is : List Nat) : Hp := fun b => if ∃ i ∈ is, b ∈ F i then H b else Hm b
open Classical in
noncomputable def unlend (Hm : Hp) (F : Fps) (is : List Nat) : Hp := fun b => if ∃ i ∈ is, b ∈ F i then none else Hm b
theorem lend_in {b : Addr} (h : ∃ i ∈ is, b ∈ F i) : lend Hm H F is b = H b := if_pos h
theorem lend_out {b : Addr} (h : ¬ ∃ i ∈ is, b ∈ F i) : lend Hm H F is b = Hm b := if_neg h
theorem unlend_in {b : Addr} (h : ∃ i ∈ is, b ∈ F i) : unlend Hm F is b = none := if_pos h
theorem unlend_out {b : Addr} (h : ¬ ∃ i ∈ is, b ∈ F i) : unlend Hm F is b = Hm b := if_neg h
theorem unlend_sub : Same (unlend Hm F is) Hm := fun b o e => by
  by_cases h : ∃ i ∈ is, b ∈ F i
  · rw [unlend_in h] at e; cases e
  · rw [unlend_out h] at e; exact e
def less (F : Fps) (is : List Nat) : Fps := fun i => if i ∈ is then [] else F i
def both (F F3 : Fps) (is : List Nat) (js : List (Nat × Md)) : Fps := fun i => if i ∈ is then F i else if i ∈ js.map (·.1) then F3 i else []
theorem less_sub {i : Nat} {a : Addr} (h : a ∈ less F is i) : i ∉ is ∧ a ∈ F i := by
  unfold less at h
  split at h
  · cases h
  · rename_i q; exact ⟨q, h⟩
theorem lend_same (r : Rel K C Hm H F σ ρ) : Same Hm (lend Hm H F is) := fun b o e => by
  by_cases h : ∃ i ∈ is, b ∈ F i
  · rw [lend_in h]; exact r.sub b o e
  · rw [lend_out h]; exact e
theorem bor_in (r : Rel K C Hm H F σ ρ) : Rel K (C.bor is) (lend Hm H F is) H (less F is) σ ρ := by
  have sm := lend_same (is := is) r
  have sub : ∀ {i a}, a ∈ less F is i → i ∉ is ∧ a ∈ F i := fun {i a} h => by
    unfold less at h
    split at h
    · cases h
    · rename_i q; exact ⟨q, h⟩
  refine ⟨by rw [show (C.bor is).Γ = imAt is C.Γ from rfl, imAt_len]; exact r.ls, by rw [show (C.bor is).Γ = imAt is C.Γ from rfl, imAt_len]; exact r.lr, fun i d h => ?_, fun i => ?_, fun i j a hi hj => r.dj i j a (sub hi).2 (sub hj).2, fun i a h => ?_, fun b o e => ?_, fun i a h => r.bd i a (sub h).2, fun b xs e => sm _ _ (r.tp b xs e), fun b o u e => sm _ _ (r.fz b o u e), r.he, fun i a h => r.ow i a (sub h).2, r.fx⟩
  · obtain ⟨v, m, h1, h2, h3⟩ := r.sl i d h
    by_cases hi : i ∈ is
    · refine ⟨v, .im, h1, imAt_in hi (List.getElem?_eq_some_iff.mp h2).1, h3.dt sm fun a ha o ho => ?_, ?_⟩
      · rw [lend_in ⟨i, hi, ha⟩]; exact ho
      · unfold less; rw [if_pos hi]
    · refine ⟨v, m, h1, by rw [show (C.bor is).Γ = imAt is C.Γ from rfl, imAt_ne hi]; exact h2, ?_⟩
      unfold less
      rw [if_neg hi]
      exact h3.step sm fun _ _ _ h => h
  · unfold less
    split
    · exact List.nodup_nil
    · exact r.nd i
  · obtain ⟨h1, h2⟩ := sub h
    rw [lend_out fun ⟨j, hj, hb⟩ => h1 (by rw [r.dj i j a h2 hb]; exact hj)]
    exact r.un i a h2
  · by_cases h : ∃ i ∈ is, b ∈ F i
    · rw [lend_in h] at e; exact e
    · rw [lend_out h] at e; exact r.sub b o e
theorem bor_out (r : Rel K C Hm H F σ ρ) (s : Step (lend Hm H F is) H (less F is) Hm3 H3 F3) (r3 : Rel K (C.bor is) Hm3 H3 F3 σ ρ3) (hj : jsOk is C.Γ js = true) (ha : allOk is js 0 C.Γ = true) (hz : borBack js ρ ρ3 = some z) :
    Rel K C (unlend Hm3 F is) H3 (both F F3 is js) σ z ∧ Step Hm H F (unlend Hm3 F is) H3 (both F F3 is js) := by
  have lr3 : ρ3.length = ρ.length := by
    have := r3.lr
    rw [show (C.bor is).Γ = imAt is C.Γ from rfl, imAt_len] at this
    rw [this, r.lr]
  obtain ⟨lz, kz⟩ := back_js hz lr3
  have jm : ∀ {j m}, (j, m) ∈ js → C.Γ[j]? = some m ∧ j ∉ is := fun {j m} h => by
    have := List.all_eq_true.mp hj _ h
    simp only [Bool.and_eq_true, decide_eq_true_eq, Bool.not_eq_true', List.contains_eq_mem, decide_eq_false_iff_not] at this
    exact this
  have jn : ∀ {j}, j ∈ js.map (·.1) → j ∉ is := fun {j} h => by
    obtain ⟨⟨j', m⟩, h1, h2⟩ := List.mem_map.mp h
    cases h2
    exact (jm h1).2
  -- what is lent stands as it stood
  have lent : ∀ {b o}, (∃ i ∈ is, b ∈ F i) → H b = some o → Hm3 b = some o ∧ H3 b = some o := fun {b o} h e => by
    have := s.sm b o (by rw [lend_in h]; exact e)
    exact ⟨this, r3.sub b o this⟩
  have noL : ∀ {b o}, (∀ o', (∃ i ∈ is, b ∈ F i ∧ H b = some o') → o' ≠ o) → H3 b = some o → ¬ ∃ i ∈ is, b ∈ F i := fun {b o} k e ⟨i, hi, hb⟩ => by
    obtain ⟨o', ho⟩ := r.bd i b hb
    have := (lent ⟨i, hi, hb⟩ ho).2
    rw [e] at this
    cases this
    exact k o ⟨i, hi, hb, ho⟩ rfl
  have tpl : ∀ {b xs}, (∃ i ∈ is, b ∈ F i ∧ H b = some (.tup xs)) → False := fun {b xs} ⟨i, _, hb, e⟩ => by
    have z := r.tp b xs e
    rw [r.un i b hb] at z; cases z
  have fzl : ∀ {b o u}, (∃ i ∈ is, b ∈ F i ∧ H b = some (.frz o u)) → False := fun {b o u} ⟨i, _, hb, e⟩ => by
    have z := r.fz b o u e
    rw [r.un i b hb] at z; cases z
  have sm : Same Hm (unlend Hm3 F is) := fun b o e => by
    have hn : ¬ ∃ i ∈ is, b ∈ F i := fun ⟨i, _, hb⟩ => by rw [r.un i b hb] at e; cases e
    rw [unlend_out hn]
    exact s.sm b o (lend_same r b o e)
  have inB : ∀ {i a}, a ∈ both F F3 is js i → (i ∈ is ∧ a ∈ F i) ∨ (i ∉ is ∧ a ∈ F3 i) := fun {i a} h => by
    unfold both at h
    split at h
    · rename_i q; exact .inl ⟨q, h⟩
    · rename_i q
      split at h
      · exact .inr ⟨q, h⟩
      · cases h
  -- an object of F3 is not lent
  have apart : ∀ {i j a}, i ∉ is → a ∈ F3 i → j ∈ is → a ∈ F j → False := fun {i j a} h1 h2 h3 h4 => by
    rcases s.fn i a h2 with ⟨k, hk⟩ | hk
    · unfold less at hk
      split at hk
      · cases hk
      · rename_i q
        exact q (by rw [r.dj k j a hk h4]; exact h3)
    · obtain ⟨o, ho⟩ := r.bd j a h4
      rw [hk] at ho; cases ho
  refine ⟨⟨r.ls, by rw [lz]; exact r.lr, fun i d h => ?_, fun i => ?_, fun i j a hi hj => ?_, fun i a h => ?_, unlend_sub.trans r3.sub, fun i a h => ?_, fun b xs e => ?_, fun b o u e => ?_, fun b e => r3.he b e, fun i a h => ?_, fun i hi => ?_⟩, ⟨sm, fun b o e hb => ?_, fun b o e => ?_, fun i b h => ?_, s.dm⟩⟩
  · obtain ⟨q1, q2, q3⟩ := kz i
    by_cases hji : i ∈ js.map (·.1)
    · have hi := jn hji
      have e3 : ρ3[i]? = some (some d) := by
        rcases q2 hji with q | ⟨q, _⟩
        · rw [← q]; exact h
        · rw [q] at h; cases h
      obtain ⟨m, hm, hf⟩ := q3 hji d h
      obtain ⟨v, m', h1, h2, h3⟩ := r3.sl i d e3
      rw [show (C.bor is).Γ = imAt is C.Γ from rfl, imAt_ne hi, (jm hm).1] at h2
      cases h2
      refine ⟨v, m, h1, (jm hm).1, ?_⟩
      unfold both
      rw [if_neg hi, if_pos hji]
      refine flat_rd r3.sub (fun b xs e => ?_) (fun b o u e => ?_) hf h3
      · rw [unlend_out (noL (fun o ho z => by subst z; exact tpl ho) e)]
        exact r3.tp b xs e
      · rw [unlend_out (noL (fun o ho z => by subst z; exact fzl ho) e)]
        exact r3.fz b o u e
    · rw [q1 hji] at h
      obtain ⟨v, m, h1, h2, h3⟩ := r.sl i d h
      refine ⟨v, m, h1, h2, ?_⟩
      rcases allOk_at ha h2 with q | q | q
      · subst q
        obtain ⟨h4, h5⟩ := h3
        refine ⟨Dt.mono sm _ h4, ?_⟩
        unfold both
        rw [if_neg hji]
        split
        · exact h5
        · rfl
      · rw [Nat.zero_add] at q
        unfold both
        rw [if_pos q]
        exact h3.step sm fun a ha o ho => (lent ⟨i, q, ha⟩ ho).2
      · rw [Nat.zero_add] at q
        exact absurd q hji
  · unfold both
    split
    · exact r.nd i
    · split
      · exact r3.nd i
      · exact List.nodup_nil
  · rcases inB hi with ⟨h1, h2⟩ | ⟨h1, h2⟩
    · rcases inB hj with ⟨h3, h4⟩ | ⟨h3, h4⟩
      · exact r.dj i j a h2 h4
      · exact (apart h3 h4 h1 h2).elim
    · rcases inB hj with ⟨h3, h4⟩ | ⟨h3, h4⟩
      · exact (apart h1 h2 h3 h4).elim
      · exact r3.dj i j a h2 h4
  · rcases inB h with ⟨h1, h2⟩ | ⟨h1, h2⟩
    · exact unlend_in ⟨i, h1, h2⟩
    · exact Same.none unlend_sub (r3.un i a h2)
  · rcases inB h with ⟨h1, h2⟩ | ⟨h1, h2⟩
    · obtain ⟨o, ho⟩ := r.bd i a h2
      exact ⟨o, (lent ⟨i, h1, h2⟩ ho).2⟩
    · exact r3.bd i a h2
  · rw [unlend_out (noL (fun o ho z => by subst z; exact tpl ho) e)]
    exact r3.tp b xs e
  · rw [unlend_out (noL (fun o ho z => by subst z; exact fzl ho) e)]
    exact r3.fz b o u e
  · rcases inB h with ⟨h1, h2⟩ | ⟨h1, h2⟩
    · exact r.ow i a h2
    · exact r3.ow i a h2
  · refine ⟨(r.fx i hi).1, ?_⟩
    obtain ⟨q1, q2, q3⟩ := kz i
    by_cases hji : i ∈ js.map (·.1)
    · obtain ⟨d, hd⟩ := (r3.fx i hi).2
      rcases q2 hji with q | ⟨_, q⟩
      · exact ⟨d, by rw [q]; exact hd⟩
      · exact absurd hd (q d)
    · rw [q1 hji]
      exact (r.fx i hi).2
  · refine s.kp b o e fun i hi => ?_
    unfold less at hi
    split at hi
    · cases hi
    · exact hb i hi
  · by_cases h : ∃ i ∈ is, b ∈ F i
    · rw [unlend_in h] at e; cases e
    · rw [unlend_out h] at e
      rcases s.nw b o e with q | ⟨i, q⟩ | q
      · rw [lend_out h] at q; exact .inl q
      · exact .inr (.inl ⟨i, (less_sub q).2⟩)
      · exact .inr (.inr q)
  · rcases inB h with ⟨h1, h2⟩ | ⟨h1, h2⟩
    · exact .inl ⟨i, h2⟩
    · rcases s.fn i b h2 with ⟨k, hk⟩ | hk
      · unfold less at hk
        split at hk
        · cases hk
        · exact .inl ⟨k, hk⟩
      · exact .inr hk
end

section
variable {X : Cx} {C : Ct} {e : Expr} {κ rm : Md} {f : EF} {t : TF} {is : List Nat} {js : List (Nat × Md)} {st : Stmt} {g : SF}
theorem ve_bor (is : List Nat) (js : List (Nat × Md)) (h : VE X (C.bor is) κ e f) (hj : jsOk is C.Γ js = true := by rfl) (ha : allOk is js 0 C.Γ = true := by rfl) : VE X C κ e (eBor κ js f) := PE.mono h fun σ H Q ⟨Hm, F, ρ, r, q⟩ => by
  refine ⟨lend Hm H F is, less F is, ρ, bor_in r, ?_⟩
  unfold eBor at q
  cases ef : f ρ with
  | bad => rw [ef] at q; exact q.elim
  | err x ρ' => rw [ef] at q; exact q.elim
  | ok p =>
    rw [ef] at q
    have q : fin X.K C Hm H F (if flatM κ p.1 = true then Rs.of (borBack js ρ p.2) >>= fun z => Rs.ok (p.1, z) else Rs.bad) _ := q
    by_cases hf : flatM κ p.1 = true
    · rw [if_pos hf] at q
      obtain ⟨z, hz, q⟩ := q.bind.of
      intro v Hm3 H3 F3 g s r3 x
      obtain ⟨r4, s4⟩ := bor_out r s r3 hj ha hz
      refine q v _ H3 _ g s4 r4 ⟨flat_rd r3.sub r4.tp r4.fz hf x.rd, x.nd, fun a ha => Same.none unlend_sub (x.un a ha), fun a ha i hi => ?_, x.nw⟩
      unfold both at hi
      split at hi
      · obtain ⟨o, ho⟩ := r.bd i a hi
        rw [x.nw a ha] at ho; cases ho
      · split at hi
        · exact x.ap a ha i hi
        · cases hi
    · rw [if_neg hf] at q; exact q.elim
theorem vt_bor (is : List Nat) (js : List (Nat × Md)) (h : VT X (C.bor is) e t) (hj : jsOk is C.Γ js = true := by rfl) (ha : allOk is js 0 C.Γ = true := by rfl) : VT X C e (tBor js t) := PT.mono h fun σ H Q ⟨Hm, F, ρ, r, q⟩ => by
  refine ⟨lend Hm H F is, less F is, ρ, bor_in r, ?_⟩
  unfold tBor at q
  cases ef : t ρ with
  | bad => rw [ef] at q; exact q.elim
  | err x ρ' => rw [ef] at q; exact q.elim
  | ok p =>
    rw [ef] at q
    have q : fin X.K C Hm H F (Rs.of (borBack js ρ p.2) >>= fun z => Rs.ok (p.1, z)) _ := q
    obtain ⟨z, hz, q⟩ := q.bind.of
    intro Hm3 H3 F3 s r3
    obtain ⟨r4, s4⟩ := bor_out r s r3 hj ha hz
    exact q _ H3 _ s4 r4
/-- the slots is are given up for good -/
theorem vs_frz (is : List Nat) (h : VS X (C.bor is) rm st g) (hR : is.all (fun i => !C.R.contains i) = true := by rfl) : VS X C rm st (sFrz is g) := PS.mono h fun D σ H ⟨Hm, F, ρ, r, q⟩ => by
  have nR : ∀ {i}, i ∈ is → i ∉ C.R := fun {i} h => by
    have := List.all_eq_true.mp hR i h
    simpa using this
  have st : ∀ {Hm3 H3 : Hp} {F3 : Fps}, Step (lend Hm H F is) H (less F is) Hm3 H3 F3 → Step Hm H F Hm3 H3 F3 := fun s => ⟨(lend_same r).trans s.sm, fun b o e hb => s.kp b o e fun i hi => hb i (less_sub hi).2, fun b o e => by
    rcases s.nw b o e with q | ⟨i, q⟩ | q
    · by_cases h : ∃ i ∈ is, b ∈ F i
      · obtain ⟨i, _, hb⟩ := h; exact .inr (.inl ⟨i, hb⟩)
      · rw [lend_out h] at q; exact .inl q
    · exact .inr (.inl ⟨i, (less_sub q).2⟩)
    · exact .inr (.inr q), fun i b hb => (s.fn i b hb).imp (fun ⟨j, hj⟩ => ⟨j, (less_sub hj).2⟩) id, s.dm⟩
  have rl : ∀ {Hm3 H3 : Hp} {F3 : Fps} {σ3 : St} {ρ3 : En}, Rel X.K (C.bor is) Hm3 H3 F3 σ3 ρ3 → Rel X.K C Hm3 H3 F3 σ3 (wipeE ρ3 is) := fun {Hm3 H3 F3 σ3 ρ3} r3 => by
    have l1 : (C.bor is).Γ.length = C.Γ.length := imAt_len
    refine ⟨by rw [← l1]; exact r3.ls, by rw [wipeE_len, ← l1]; exact r3.lr, fun i d h => ?_, r3.nd, r3.dj, r3.un, r3.sub, r3.bd, r3.tp, r3.fz, r3.he, r3.ow, fun i hi => ?_⟩
    · by_cases hi : i ∈ is
      · exact absurd h (wipeE_own hi)
      · rw [wipeE_get hi] at h
        obtain ⟨v, m, h1, h2, h3⟩ := r3.sl i d h
        rw [show (C.bor is).Γ = imAt is C.Γ from rfl, imAt_ne hi] at h2
        exact ⟨v, m, h1, h2, h3⟩
    · have : i ∉ is := fun z => nR z hi
      rw [wipeE_get this]
      exact r3.fx i hi
  refine ⟨lend Hm H F is, less F is, ρ, bor_in r, ?_⟩
  unfold sFrz at q
  cases ef : g ρ with
  | bad => rw [ef] at q; exact q.elim
  | err x ρ' => rw [ef] at q; exact q.elim
  | ok p =>
    rw [ef] at q
    have q : OkS X.K C rm Hm H F D (p.1, wipeE p.2 is) := q
    obtain ⟨fl, ρ3⟩ := p
    cases fl with
    | next => exact fun Hm3 H3 F3 σ3 s r3 => q Hm3 H3 F3 σ3 (st s) (rl r3)
    | brk => exact fun Hm3 H3 F3 σ3 s r3 => q Hm3 H3 F3 σ3 (st s) (rl r3)
    | cont => exact fun Hm3 H3 F3 σ3 s r3 => q Hm3 H3 F3 σ3 (st s) (rl r3)
    | ret d => exact fun v Hm3 H3 F3 σ3 g s r3 x => q v Hm3 H3 F3 σ3 g (st s) (rl r3) x
theorem vs_bad : VS X C rm st sBad := ⟨fun pins s σ H D I h => by
  obtain ⟨Hm, F, ρ, r, q⟩ := h
  exact q.elim⟩
theorem ve_bad : VE X C κ e eBad := ⟨fun pins s σ H D I h => by
  obtain ⟨Hm, F, ρ, r, q⟩ := h
  exact q.elim⟩
end
end VL

set_option Elab.async false
set_option linter.all false
set_option maxRecDepth 100000
set_option maxHeartbeats 4000000
/-! V12: what the printed derivations lean on. -/
namespace VL
open PySem PySem.Spec L2

/-! ### callees, constants -/
/-- a def of the top by its name, and how it may be called -/
def Cb (P : Program) (w : World) (K : PySem.W.Frag) (mg : Str → Option Value) (base : Heap) (k : Nat) (x : Str) (ms : List Pm) (rm : Md) (f : FF) : Prop :=
  ∃ (fa : Addr) (fd : FuncData) (ps : List Str), FnG P w K mg base k fa fd ps (spV EW0 K ms rm f) ∧ mg x = some (.ref fa) ∧ PySem.W.keepIn K (.ref fa) = true ∧ Binds K fd ps []
/-- what the top has written of a def -/
def FnTop (K : PySem.W.Frag) (mg : Str → Option Value) (x : Str) (st : Stmt) : Prop := ∃ (fa : Addr) (fd : FuncData), FnT K x st fa fd ∧ mg x = some (.ref fa)
/-- a constant of the top -/
def Cn (K : PySem.W.Frag) (mg : Str → Option Value) (x : Str) (d : D) : Prop := ∃ (u : Value) (v : V), mg x = some u ∧ RelV v u ∧ ∀ H, Dt K H v d
theorem RoomG.u64 {k : Nat} {A : Around} (r : RoomG k A) : A.units + 64 < cLine := r.rm.units
section
variable {X : Cx} {C : Ct} {e : Expr} {es : List Expr} {n k j : Nat} {gs : List Ag} {ms : List Pm} {rm κ : Md} {f : FF} {x : Str} {p pos : Pos} {d : D} {fe : EF}
theorem ve_callC (c : Cb X.prog X.w X.K X.mg X.base k x ms rm f) (hr : RoomG j X.A) (hk : k ≤ j) (ha : VG X C (e :: es) n gs) (hf : fitA ms gs = true := by rfl) (hn : noN gs = true := by rfl) (nd : (refsA gs).Nodup := by decide) (hi : ∀ i ∈ refsA gs, C.Γ[i]? = some (.ow .im) := by first | exact fun _ h => absurd h List.not_mem_nil | (intro i h; simp [refsA] at h; subst h; rfl) | (intro i h; simp [refsA] at h; rcases h with rfl | rfl <;> rfl))
    (hg : Gl X x := by rfl) (hdb : (x == ("__debug__" : Str)) = false := by decide) (he : starEach (e :: es) X.env = (false, eval e X.env) :: starEach es X.env := by rfl) (hpl : (backTo pos (starEach es X.env)).any (·.1) = false := by rfl) :
    VE X C rm (.Call (.Name x p) (e :: es) [] pos) (eCall f gs) := by
  obtain ⟨fa, fd, ps, F, hm, kp, b⟩ := c
  exact ve_call F (hr.mono hk) hm kp b ha hf hn nd hi hg hdb he hpl
theorem ve_glob (c : Cn X.K X.mg x d) (hg : Gl X x := by rfl) (hd : (x == ("__debug__" : Str)) = false := by decide) : VE X C .im (.Name x pos) (eC d) := by
  obtain ⟨u, v, hm, r, h⟩ := c
  exact PE.mono (pe_glob hg hm r hd) fun σ H Q ⟨Hm, F, ρ, rl, q⟩ => q v Hm H F [] .refl rl (Val.im (h _))
theorem vts_nil : PTs X [] (tT X.K C tYesF) := ⟨fun pins s σ H Q I h => pts_nil.run pins s σ H Q I (by
  obtain ⟨Hm, F, ρ, r, q⟩ := h
  exact q Hm H F .refl r)⟩
theorem vts_one {t : TF} (h : VT X C e t) : PTs X [e] (tT X.K C t) := pts_one h
end

/-! ### x, y = a, b -/
inductive ValsM (K : PySem.W.Frag) (H0 Hm H : Hp) (F : Fps) : List Md → List V → List D → List (List Addr) → Prop
  | nil : ValsM K H0 Hm H F [] [] [] []
  | cons {m : Md} {ms : List Md} {v : V} {vs : List V} {d : D} {ds : List D} {g : List Addr} {gs : List (List Addr)} : Val K H0 Hm H F m v d g → ValsM K H0 Hm H F ms vs ds gs → (∀ a ∈ g, ∀ g' ∈ gs, a ∉ g') → ValsM K H0 Hm H F (m :: ms) (v :: vs) (d :: ds) (g :: gs)
section
variable {K : PySem.W.Frag} {C : Ct} {H0 Hm H Hm' H' : Hp} {F F' : Fps} {σ : St} {ρ : En} {ms : List Md} {vs : List V} {ds : List D} {gs : List (List Addr)}
theorem ValsM.len (x : ValsM K H0 Hm H F ms vs ds gs) : vs.length = ms.length := by
  induction x with
  | nil => rfl
  | cons _ _ _ ih => rw [List.length_cons, List.length_cons, ih]
theorem ValsM.bound (x : ValsM K H0 Hm H F ms vs ds gs) : ∀ g ∈ gs, ∀ a ∈ g, ∃ o, H a = some o := by
  induction x with
  | nil => intro g h; cases h
  | cons h _ _ ih =>
    intro g hg
    rcases List.mem_cons.mp hg with rfl | hg
    · exact h.rd.bound
    · exact ih g hg
theorem ValsM.nw (x : ValsM K H0 Hm H F ms vs ds gs) : ∀ g ∈ gs, ∀ a ∈ g, H0 a = none := by
  induction x with
  | nil => intro g h; cases h
  | cons h _ _ ih =>
    intro g hg
    rcases List.mem_cons.mp hg with rfl | hg
    · exact h.nw
    · exact ih g hg
theorem ValsM.old {H1 : Hp} (x : ValsM K H1 Hm H F ms vs ds gs) (k : ∀ a, H1 a = none → H0 a = none) : ValsM K H0 Hm H F ms vs ds gs := by
  induction x with
  | nil => exact .nil
  | cons h _ k2 ih => exact .cons ⟨h.rd, h.nd, h.un, h.ap, fun a ha => k a (h.nw a ha)⟩ ih k2
theorem ValsM.put (x : ValsM K H0 Hm H F ms vs ds gs) {i : Nat} {g : List Addr} (k : ∀ a ∈ g, ∀ g' ∈ gs, a ∉ g') : ValsM K H0 Hm H (F.put i g) ms vs ds gs := by
  induction x with
  | nil => exact .nil
  | cons h _ k2 ih =>
    refine .cons ⟨h.rd, h.nd, h.un, fun a ha j hj => ?_, h.nw⟩ (ih fun a ha g' hg' => k a ha g' (List.mem_cons_of_mem _ hg')) k2
    by_cases e : j = i
    · subst e
      rw [put_same] at hj
      exact k a hj _ List.mem_cons_self ha
    · rw [put_ne e] at hj
      exact h.ap a ha j hj
def setV : List Nat → List V → St → St
  | i :: is, v :: vs, σ => setV is vs (σ.set i (some v))
  | _, _, σ => σ
theorem set_all : ∀ {ms : List Md} {vs : List V} {ds : List D} {gs : List (List Addr)} {F : Fps}, ValsM K H0 Hm H F ms vs ds gs → ∀ {is : List Nat} {H1 Hx : Hp} {Fx : Fps} {σ : St} {ρ : En}, is.map (C.Γ[·]?) = ms.map some → (∀ i ∈ is, i ∉ C.R) →
    (∀ g ∈ gs, ∀ a ∈ g, Hx a = none ∧ C.He a = none) → Rel K C Hm H F σ ρ → Step H1 Hx Fx Hm H F → ∃ F', Rel K C Hm H F' (setV is vs σ) (setAll is ds ρ) ∧ Step H1 Hx Fx Hm H F'
  | _, _, _, _, _, .nil, is, H1, Hx, Fx, σ, ρ, e, _, _, r, s => by
    cases is with
    | nil => exact ⟨_, r, s⟩
    | cons i is => cases e
  | _, _, _, _, _, .cons (g := g) h t k, is, H1, Hx, Fx, σ, ρ, e, hR, hx, r, s => by
    cases is with
    | nil => cases e
    | cons i is =>
      injection e with e1 e2
      have r1 := r.set h e1 (hR i List.mem_cons_self) fun a ha => (hx g List.mem_cons_self a ha).2
      have s1 := s.put (i := i) fun a ha => (hx g List.mem_cons_self a ha).1
      exact set_all (t.put (i := i) k) e2 (fun j hj => hR j (List.mem_cons_of_mem _ hj)) (fun g' hg' => hx g' (List.mem_cons_of_mem _ hg')) r1 s1
end
/-- arguments, each held in its own manner -/
def tAM (K : PySem.W.Frag) (C : Ct) (ms : List Md) (f : En → Rs (List D × En)) : TA := fun σ H Q => ∃ Hm F ρ, Rel K C Hm H F σ ρ ∧ fin K C Hm H F (f ρ) fun p => ∀ vs gs Hm' H' F', Step Hm H F Hm' H' F' → Rel K C Hm' H' F' σ p.2 → ValsM K H Hm' H' F' ms vs p.1 gs → Q vs H'
abbrev VAM (X : Cx) (C : Ct) (es : List Expr) (ms : List Md) (f : En → Rs (List D × En)) : Prop := PA X es (tAM X.K C ms f)
theorem ValsM.step {K : PySem.W.Frag} {H0 Hm H Hm' H' : Hp} {F F' : Fps} {ms : List Md} {vs : List V} {ds : List D} {gs : List (List Addr)} (x : ValsM K H0 Hm H F ms vs ds gs) (s : Step Hm H F Hm' H' F') : ValsM K H0 Hm' H' F' ms vs ds gs := by
  induction x with
  | nil => exact .nil
  | cons h _ k ih => exact .cons (h.step s) ih k
section
variable {X : Cx} {C : Ct} {e : Expr} {es : List Expr} {m κ rm : Md} {ms : List Md} {f : EF} {fs : List EF} {pos : Pos}
theorem vam_nil : VAM X C [] [] (eArgs []) := PA.mono pa_nil fun σ H Q ⟨Hm, F, ρ, r, q⟩ => q [] [] Hm H F .refl r .nil
theorem vam_cons (h1 : VE X C m e f) (h2 : VAM X C es ms (eArgs fs)) (hs : starEach (e :: es) X.env = (false, eval e X.env) :: starEach es X.env := by rfl) : VAM X C (e :: es) (m :: ms) (eArgs (f :: fs)) := by
  refine PA.mono (pa_cons h1 h2 hs) fun σ H Q ⟨Hm, F, ρ, r, q⟩ => ?_
  refine ⟨Hm, F, ρ, r, q.bind.imp fun p hq v Hm1 H1 F1 g1 s1 r1 x1 => ?_⟩
  refine ⟨Hm1, F1, p.2, r1, (hq.step s1).bind.imp fun p2 hq2 vs gs Hm2 H2 F2 s2 r2 x2 => ?_⟩
  refine hq2 (v :: vs) (g1 :: gs) Hm2 H2 F2 (s1.trans s2) r2 (.cons (x1.step s2) (x2.old s1.dm) fun a ha g' hg' hag => ?_)
  obtain ⟨o, ho⟩ := x1.rd.bound a ha
  rw [x2.nw g' hg' a hag] at ho
  cases ho
theorem vs_par2 {i j : Nat} {x y : Str} {a b : Expr} {m n : Md} {fa fb : EF} {px py pt pt2 : Pos} {kt k2 : Nat} (h : VAM X C [a, b] [m, n] (eArgs [fa, fb])) (h1 : C.Γ[i]? = some m := by rfl) (h2 : C.Γ[j]? = some n := by rfl) (r1 : i ∉ C.R := by exact notIn_of rfl) (r2 : j ∉ C.R := by exact notIn_of rfl)
    (hN : X.N.Nodup := by first | assumption | decide) (hi : X.N[i]? = some x := by rfl) (hj : X.N[j]? = some y := by rfl) (hx : X.env.scope.names.lookup x = some .local := by rfl) (hy : X.env.scope.names.lookup y = some .local := by rfl) (hij : i ≠ j := by decide) (hc : X.calm = true := by rfl)
    (hw : swappedStores [.Tuple [.Name x px, .Name y py] kt pt] (.Tuple [a, b] k2 pt2) X.env = pure (some [x, y]) := by with_unfolding_all rfl) (hs : swapsWithSole [.Tuple [.Name x px, .Name y py] kt pt] (.Tuple [a, b] k2 pt2) pos.line X.env = pure false := by rfl) :
    VS X C rm (.Assign [.Tuple [.Name x px, .Name y py] kt pt] (.Tuple [a, b] k2 pt2) pos) (sParN [i, j] [fa, fb]) := by
  refine PS.mono (ps_par hc hN hi hj hij hx hy h hw hs) fun D σ H ⟨Hm, F, ρ, r, q⟩ => ⟨Hm, F, ρ, r, q.bind.imp fun p hq vs gs Hm1 H1 F1 s1 r3 x1 => ?_⟩
  obtain ⟨F2, r4, s4⟩ := set_all x1 (is := [i, j]) (by simp [h1, h2]) (by simp [r1, r2]) (fun g hg a ha => ⟨x1.nw g hg a ha, r.he a (x1.nw g hg a ha)⟩) r3 s1
  have hl := x1.len
  match vs, hl with
  | [v, w], _ => exact ⟨v, w, rfl, hq Hm1 H1 F2 _ s4 r4⟩
theorem vs_par3 {i j l : Nat} {x y z : Str} {a b c : Expr} {m n o : Md} {fa fb fc : EF} {px py pz pt pt2 : Pos} {kt k2 : Nat} (h : VAM X C [a, b, c] [m, n, o] (eArgs [fa, fb, fc])) (h1 : C.Γ[i]? = some m := by rfl) (h2 : C.Γ[j]? = some n := by rfl) (h3 : C.Γ[l]? = some o := by rfl) (r1 : i ∉ C.R := by exact notIn_of rfl) (r2 : j ∉ C.R := by exact notIn_of rfl) (r3 : l ∉ C.R := by exact notIn_of rfl)
    (hN : X.N.Nodup := by first | assumption | decide) (hi : X.N[i]? = some x := by rfl) (hj : X.N[j]? = some y := by rfl) (hl : X.N[l]? = some z := by rfl) (hx : X.env.scope.names.lookup x = some .local := by rfl) (hy : X.env.scope.names.lookup y = some .local := by rfl) (hz : X.env.scope.names.lookup z = some .local := by rfl) (hij : i ≠ j := by decide) (hil : i ≠ l := by decide) (hjl : j ≠ l := by decide) (hc : X.calm = true := by rfl)
    (hw : swappedStores [.Tuple [.Name x px, .Name y py, .Name z pz] kt pt] (.Tuple [a, b, c] k2 pt2) X.env = pure (some [x, y, z]) := by with_unfolding_all rfl) (hs : swapsWithSole [.Tuple [.Name x px, .Name y py, .Name z pz] kt pt] (.Tuple [a, b, c] k2 pt2) pos.line X.env = pure false := by rfl) :
    VS X C rm (.Assign [.Tuple [.Name x px, .Name y py, .Name z pz] kt pt] (.Tuple [a, b, c] k2 pt2) pos) (sParN [i, j, l] [fa, fb, fc]) := by
  refine PS.mono (ps_par3 hc hN hi hj hl hij hil hjl hx hy hz h hw hs) fun D σ H ⟨Hm, F, ρ, r, q⟩ => ⟨Hm, F, ρ, r, q.bind.imp fun p hq vs gs Hm1 H1 F1 s1 r4 x1 => ?_⟩
  obtain ⟨F2, r5, s5⟩ := set_all x1 (is := [i, j, l]) (by simp [h1, h2, h3]) (by simp [r1, r2, r3]) (fun g hg a ha => ⟨x1.nw g hg a ha, r.he a (x1.nw g hg a ha)⟩) r4 s1
  have hl := x1.len
  match vs, hl with
  | [u, v, w], _ => exact ⟨u, v, w, rfl, hq Hm1 H1 F2 _ s5 r5⟩
end

/-! ### a block that never falls through -/
def NoNx (f : SF) : Prop := ∀ ρ ρ', f ρ ≠ .ok (.next, ρ')
theorem nn_ret {f : EF} : NoNx (sRet f) := fun ρ ρ' h => by
  obtain ⟨p, _, h2⟩ := Rs.bind_ok h
  cases h2
theorem nn_bad : NoNx sBad := fun _ _ h => by cases h
theorem nn_frz {is : List Nat} {f : SF} (k : NoNx f) : NoNx (sFrz is f) := fun ρ ρ' h => by
  unfold sFrz at h
  split at h
  · rename_i p hp
    obtain ⟨fl, ρ2⟩ := p
    cases h
    exact k _ _ hp
  · cases h
theorem nn_seq {f g : SF} (k : NoNx g) : NoNx (sSeq f g) := fun ρ ρ' h => by
  obtain ⟨⟨fl, ρ2⟩, h1, h2⟩ := Rs.bind_ok h
  cases fl with
  | next => exact k _ _ h2
  | _ => cases h2
theorem nn_if {t : TF} {f g : SF} (k1 : NoNx f) (k2 : NoNx g) : NoNx (sIf t f g) := fun ρ ρ' h => by
  obtain ⟨⟨b, ρ2⟩, h1, h2⟩ := Rs.bind_ok h
  cases b with
  | true => exact k1 _ _ h2
  | false => exact k2 _ _ h2
end VL

set_option Elab.async false
set_option linter.all false
set_option maxRecDepth 100000
set_option maxHeartbeats 4000000
/-! V13: more operations; a call with a new mutable list. -/
namespace VL
open PySem PySem.Spec L2
section
variable {K : PySem.W.Frag}
theorem prim_addI : Prim2 K (ipI fun i j => i + j) addI .im := by
  intro G H x y d e z Q s hx hy hz q
  cases hx with
  | int i =>
    cases hy with
    | int j => cases hz; exact ⟨i, j, rfl, rfl, q _ G H [] (Grow.refl s) (Res.im (.int _))⟩
    | _ => cases hz
  | _ => cases hy <;> cases hz
theorem prim_subI : Prim2 K (ipI fun i j => i - j) subD .im := by
  intro G H x y d e z Q s hx hy hz q
  cases hx with
  | int i =>
    cases hy with
    | int j => cases hz; exact ⟨i, j, rfl, rfl, q _ G H [] (Grow.refl s) (Res.im (.int _))⟩
    | _ => cases hz
  | _ => cases hy <;> cases hz
theorem prim_isB : Prim2 K rIsB isBD .im := by
  intro G H x y d e z Q s hx hy hz q
  cases hx with
  | bl i =>
    cases hy with
    | bl j => cases hz; exact ⟨i, j, rfl, rfl, q _ G H [] (Grow.refl s) (Res.im (.bl _))⟩
    | _ => cases hz
  | _ => cases hy <;> cases hz
theorem prim_notB : Prim2 K rNotB notBD .im := by
  intro G H x y d e z Q s hx hy hz q
  cases hx with
  | bl i =>
    cases hy with
    | bl j => cases hz; exact ⟨i, j, rfl, rfl, q _ G H [] (Grow.refl s) (Res.im (.bl _))⟩
    | _ => cases hz
  | _ => cases hy <;> cases hz
/-! ### methods of lists -/
def PrimM (K : PySem.W.Frag) (r : V → List V → Hp → VK → Prop) (g : List D → Option D) (κ : Md) : Prop :=
  ∀ (G H : Hp) (x : V) (xs : List V) (d : D) (ds : List D) (z : D) (Q : VK), Same G H → Dt K G x d → DtA K G xs ds → g (d :: ds) = some z → (∀ v G' H' f, Grow G H G' H' → Res K H G' H' κ v z f → Q v H') → r x xs H Q
theorem find_at {G : Hp} {y : V} {e : D} (hy : Dt K G y e) (h1 : isS e = true) : ∀ {xs : List V} {ds : List D} {j : Nat}, DtA K G xs ds → ds.all isS = true → findD e ds = some j →
    ∃ z, xs[j]? = some z ∧ eqV z y = true ∧ ∀ (m : Nat) (z' : V), m < j → xs[m]? = some z' → eqV z' y = false
  | _, _, _, .nil, _, h => by cases h
  | x :: xs, d :: ds, j, .cons a b, hs, h => by
    rw [List.all_cons, Bool.and_eq_true] at hs
    have ev := eqV_S a hy hs.1 h1
    unfold findD at h
    split at h
    · rename_i he
      cases h
      exact ⟨x, rfl, by rw [ev]; exact he, fun m z' hm => by omega⟩
    · rename_i he
      obtain ⟨i, hi, rfl⟩ := Option.map_eq_some_iff.mp h
      obtain ⟨z, k1, k2, k3⟩ := find_at hy h1 b hs.2 hi
      refine ⟨z, by simpa using k1, k2, fun m z' hm hz => ?_⟩
      cases m with
      | zero =>
        simp at hz
        subst hz
        rw [ev]
        simpa using he
      | succ m => exact k3 m z' (by omega) (by simpa using hz)
theorem prim_index : PrimM K (rIndex K) indexD .im := by
  intro G H x xs d ds z Q s hx hxs hz q
  cases hxs with
  | nil => cases d <;> cases hz
  | @cons y ys e es h1 h2 =>
    cases h2 with
    | cons => cases d <;> cases hz
    | nil =>
      cases hx with
      | @lst a xs ds h3 h4 =>
        have hz : (if (isS e && ds.all isS) = true then (findD e ds).map fun j => D.int (j : Nat) else none) = some z := hz
        split at hz
        · rename_i hs
          rw [Bool.and_eq_true] at hs
          obtain ⟨j, hj, rfl⟩ := Option.map_eq_some_iff.mp hz
          obtain ⟨w, k1, k2, k3⟩ := find_at h1 hs.1 h4 hs.2 hj
          exact ⟨a, xs, y, j, w, rfl, rfl, .inl (Same.rd s h3), flat_S h1 hs.1, flat_SA h4 hs.2, k1, k2, k3, q _ G H [] (Grow.refl s) (Res.im (.int _))⟩
        · cases hz
      | _ => cases hz
end
section
variable {X : Cx} {C : Ct} {o e a b : Expr} {es : List Expr} {κ : Md} {n : Nat} {f fo fa fb : EF} {fs : List EF} {pos p p2 apos cpos : Pos} {name : Str} {id : String}
theorem ve_mth {r : V → List V → Hp → VK → Prop} {g : List D → Option D} (slot : PySem.Slot "list" name id) (hty : typeOf (.builtin id) = pure (.type "method_descriptor")) (hm : MtR X id r) (hp : PrimM X.K r g κ) (ho : VE X C .im o fo) (ha : VA X C (e :: es) n (eArgs fs))
    (hbase : attributeBase o name X.env (eval o X.env) = eval o X.env := by rfl)
    (hfew : ((backTo cpos (starEach (e :: es) X.env)).all (fun x => !x.1) && (backToKw cpos (keywordEach [] X.env)).all (fun x => x.1.isSome)
      && decide ((e :: es).length + ([] : List Keyword).length + (if ([] : List Keyword).isEmpty then 0 else 1) < 30)) = true := by rfl)
    (hline : (apos.endLine == cpos.line) = true := by rfl) (hs : starEach (e :: es) X.env = (false, eval e X.env) :: starEach es X.env := by rfl) (hplain : (backTo cpos (starEach es X.env)).any (·.1) = false := by rfl) :
    VE X C κ (.Call (.Attribute o name apos) (e :: es) [] cpos) (eMth g fo fs) := by
  refine PE.mono (pe_bm PySem.F.plainAttrs_list slot hty hm ho ha hbase hfew hline hs hplain) fun σ H Q ⟨Hm, F, ρ, r, q⟩ => ?_
  refine ⟨Hm, F, ρ, r, q.bind.imp fun p hq v Hm1 H1 F1 g1 s1 r1 x1 => ?_⟩
  obtain ⟨d, ρ'⟩ := p
  have x2 := x1.of_im
  cases d with
  | lst ds =>
    cases x2 with
    | @lst a xs _ h1 h2 =>
      refine ⟨.inl ⟨rfl, xs, .inl (Same.rd r1.sub h1)⟩, Hm1, F1, ρ', r1, (hq.step s1).bind.imp fun p2 hq2 vs Hm2 H2 F2 s2 r2 x2 hn => ?_⟩
      obtain ⟨z, hz, hq2⟩ := hq2.bind.of
      exact hp Hm2 H2 _ vs (.lst ds) p2.1 z Q r2.sub (.lst (Same.rd s2.sm h1) (DtA.mono s2.sm _ h2)) x2 hz fun v' G' H' f' g' x' => endE hq2 (s1.trans s2) r2 g' x'
  | _ => exact hq.elim
/-- x[::-1] -/
theorem ve_rev {k : Nat} {p1 p2 p3 : Pos} (h : VE X C .im e f) : VE X C (.ow .im) (.Subscript e (.Slice none none (some (.UnaryOp .USub (.Constant (.int 1) k p1) p2)) p3) pos) (eOp1 revD f) := by
  refine PE.mono (pe_revL h) fun σ H Q ⟨Hm, F, ρ, r, q⟩ => ⟨Hm, F, ρ, r, q.bind.imp fun p hq v Hm1 H1 F1 g1 s1 r1 x1 => ?_⟩
  obtain ⟨z, hz, hq⟩ := hq.bind.of
  have x2 := x1.of_im
  obtain ⟨d, ρ'⟩ := p
  cases d with
  | lst ds =>
    cases hz
    cases x2 with
    | @lst a xs _ h1 h2 => exact ⟨a, xs, rfl, .inl (Same.rd r1.sub h1), fun pp hp => endE hq s1 r1 (Grow.own r1.sub hp (fun _ _ z => by cases z) fun _ z => by cases z) (Res.lst r1.sub hp h2.reverse)⟩
  | _ => cases hz
theorem rg_dt {K : PySem.W.Frag} {G : Hp} (i j : Int) : DtA K G (rgV i j) (rangeD i (j - i).toNat) := by
  unfold rgV rangeD
  induction List.range (j - i).toNat with
  | nil => exact .nil
  | cons m l ih => exact .cons (.int _) ih
theorem ve_listRange1 (hl : X.mg "list" = none) (hm : X.mg "range" = none) (h : VE X C .im a fa) (hg : Gl X "list" := by rfl) (hg2 : Gl X "range" := by rfl) (hc : X.calm = true := by rfl) (na : starEach [a] X.env = (false, eval a X.env) :: starEach [] X.env := by rfl)
    (nb : starEach [.Call (.Name "range" p2) [a] [] apos] X.env = (false, eval (.Call (.Name "range" p2) [a] [] apos) X.env) :: starEach [] X.env := by rfl) : VE X C (.ow .im) (.Call (.Name "list" p) [.Call (.Name "range" p2) [a] [] apos] [] pos) (eListRange1 [fa]) := by
  refine PE.mono (pe_listRg hc hg hl (prg_1 hg2 hm h na) nb) fun σ H Q ⟨Hm, F, ρ, r, q⟩ => ⟨Hm, F, ρ, r, q.bind.bind.imp fun p hq v Hm1 H1 F1 g1 s1 r1 x1 => ?_⟩
  obtain ⟨d, ρ'⟩ := p
  have x2 := x1.of_im
  cases x2 with
  | int j =>
    have hq : fin X.K C Hm H F (if j ≤ 16777216 ∧ -16777216 ≤ j then Rs.ok (D.lst (rangeD 0 j.toNat), ρ') else Rs.bad) _ := hq
    by_cases hj : j ≤ 16777216 ∧ -16777216 ≤ j
    · rw [if_pos hj] at hq
      refine ⟨j, rfl, ⟨by omega, by omega, by omega, by omega, by omega⟩, fun pp hp => ?_⟩
      have := rg_dt (K := X.K) (G := Hm1) 0 j
      rw [Int.sub_zero] at this
      exact endE hq s1 r1 (Grow.own r1.sub hp (fun _ _ z => by cases z) fun _ z => by cases z) (Res.lst r1.sub hp this)
    · rw [if_neg hj] at hq; exact hq.elim
  | _ => exact hq.elim
theorem ve_listRange2 (hl : X.mg "list" = none) (hm : X.mg "range" = none) (ha : VE X C .im a fa) (hb : VE X C .im b fb) (hg : Gl X "list" := by rfl) (hg2 : Gl X "range" := by rfl) (hc : X.calm = true := by rfl) (na : starEach [a, b] X.env = (false, eval a X.env) :: starEach [b] X.env := by rfl)
    (nb : starEach [b] X.env = (false, eval b X.env) :: starEach [] X.env := by rfl) (hp : (backTo apos (starEach [b] X.env)).any (·.1) = false := by rfl) (nc : starEach [.Call (.Name "range" p2) [a, b] [] apos] X.env = (false, eval (.Call (.Name "range" p2) [a, b] [] apos) X.env) :: starEach [] X.env := by rfl) :
    VE X C (.ow .im) (.Call (.Name "list" p) [.Call (.Name "range" p2) [a, b] [] apos] [] pos) (eListRange2 [fa, fb]) := by
  refine PE.mono (pe_listRg hc hg hl (prg_2 hg2 hm ha hb na nb hp) nc) fun σ H Q ⟨Hm, F, ρ, r, q⟩ => ⟨Hm, F, ρ, r, q.bind.bind.imp fun p hq v Hm1 H1 F1 g1 s1 r1 x1 => ?_⟩
  refine ⟨Hm1, F1, p.2, r1, (hq.step s1).bind.bind.imp fun p2 hq2 u Hm2 H2 F2 g2 s2 r2 x2 => ?_⟩
  obtain ⟨d, ρ'⟩ := p
  obtain ⟨e, ρ2⟩ := p2
  have y1 := Dt.mono s2.sm _ x1.of_im
  have y2 := x2.of_im
  cases y1 with
  | int i =>
    cases y2 with
    | int j =>
      have hq2 : fin X.K C Hm H F (if (j ≤ 16777216 ∧ -16777216 ≤ j) ∧ 0 ≤ i ∧ i ≤ 16777216 then Rs.ok (D.lst (rangeD i (j - i).toNat), ρ2) else Rs.bad) _ := hq2
      by_cases hj : (j ≤ 16777216 ∧ -16777216 ≤ j) ∧ 0 ≤ i ∧ i ≤ 16777216
      · rw [if_pos hj] at hq2
        refine ⟨i, j, rfl, rfl, ⟨by omega, by omega, by omega, by omega, by omega⟩, fun pp hp => ?_⟩
        exact endE hq2 (s1.trans s2) r2 (Grow.own r2.sub hp (fun _ _ z => by cases z) fun _ z => by cases z) (Res.lst r2.sub hp (rg_dt i j))
      · rw [if_neg hj] at hq2; exact hq2.elim
    | _ => exact hq2.elim
  | _ => cases e <;> exact hq2.elim
end

/-! ### a call whose first argument is a new mutable list -/
section
variable {K : PySem.W.Frag} {C : Ct} {σ : St} {H : Hp} {Q : VK} {Ek : EW} {E : XK} {ms : List Pm} {rm : Md} {f : FF} {fo : EF} {gs : List Ag} {n : Nat}
def tGO (K : PySem.W.Frag) (C : Ct) (n : Nat) (fo : EF) (gs : List Ag) : TA := fun σ H Q => ∃ Hm F ρ, Rel K C Hm H F σ ρ ∧ fin K C Hm H F (fo ρ >>= fun p => agEval gs p.2 >>= fun q => .ok (p.1, q)) fun p => ∀ v a vs Hm' H' F', Step Hm H F Hm' H' F' → Rel K C Hm' H' F' σ p.2.2 → Val K H Hm' H' F' (.ow .im) v p.1 [a] → AgOk K C Hm' σ gs vs p.2.1 → vs.length = n → Q (v :: vs) H'
theorem callO_red (hf : fitA ms gs = true) (hn : noN gs = true) (nd : (refsA gs).Nodup) (hi : ∀ i ∈ refsA gs, C.Γ[i]? = some (.ow .im)) (h : tE K C rm (eCallO f fo gs) σ H Q) : tGO K C n fo gs σ H fun vs H1 => spV Ek K (.rf :: ms) rm f vs H1 Q E := by
  obtain ⟨Hm, F, ρ, rl, q⟩ := h
  refine ⟨Hm, F, ρ, rl, ?_⟩
  have q2 : fin K C Hm H F (fo ρ >>= fun p => agEval gs p.2 >>= fun q => Rs.ok (p.1, q)) fun p => fin K C Hm H F (Rs.of (agFill p.2.1 p.2.2) >>= fun ds => match f (p.1 :: ds) with
      | .ok r => Rs.ok (r.1, agBack (refsA gs) r.2.tail p.2.2)
      | _ => Rs.bad) (OkE K C rm Hm H F σ Q) := by
    unfold eCallO at q
    cases e1 : fo ρ with
    | bad => rw [e1] at q; exact q
    | err x ρ' => rw [e1] at q; exact q
    | ok p =>
      rw [e1] at q
      have q : fin K C Hm H F (agEval gs p.2 >>= fun q => Rs.of (agFill q.1 q.2) >>= fun ds => match f (p.1 :: ds) with
        | .ok r => Rs.ok (r.1, agBack (refsA gs) r.2.tail q.2)
        | _ => Rs.bad) (OkE K C rm Hm H F σ Q) := q
      show fin K C Hm H F (agEval gs p.2 >>= fun q => Rs.ok (p.1, q)) _
      cases e2 : agEval gs p.2 with
      | bad => rw [e2] at q; exact q
      | err x ρ' => rw [e2] at q; exact q
      | ok p2 => rw [e2] at q; exact q
  refine q2.imp fun p hq v a vs Hm1 H1 F1 s1 r1 xv x1 _ => ?_
  obtain ⟨d0, qs, ρ1⟩ := p
  obtain ⟨ds, ed, hq⟩ := hq.bind.of
  have nn := no_n hn
  obtain ⟨as, ha, hat⟩ := fill_args (G := Hm1) x1 r1 (Same.refl _) (fun i a e _ => r1.un i a (by rw [e]; exact List.mem_cons_self)) (ms := ms) hf nd (fun i v d z => absurd z (nn i)) ed
  obtain ⟨a', ea, eg⟩ := xv.rd.own1
  cases eg
  subst ea
  have hna : a ∉ as := fun z => by
    obtain ⟨i, _, e⟩ := hat.mem z
    exact xv.ap a List.mem_cons_self i (by rw [e]; exact List.mem_cons_self)
  refine ⟨Hm1, d0 :: ds, a :: as, r1.sub, r1.tp, r1.fz, .rf xv.rd (xv.un a List.mem_cons_self) hna ha, ?_⟩
  cases ef : f (d0 :: ds) with
  | bad => rw [ef] at hq; exact hq.elim
  | err x ρ => rw [ef] at hq; exact hq.elim
  | ok r =>
    rw [ef] at hq
    intro w Hm' H' g bk xw
    -- the new list, unseen
    let Hh : Hp := fun b => if b = a then none else H1 b
    have hh : ∀ b, b ≠ a → Hh b = H1 b := fun b hb => if_neg hb
    have hha : Hh a = none := if_pos rfl
    have ma : Hm1 a = none := xv.un a List.mem_cons_self
    have aF : ∀ i, a ∉ F1 i := xv.ap a List.mem_cons_self
    have r1' : Rel K C Hm1 Hh F1 σ ρ1 := ⟨r1.ls, r1.lr, fun i d h => by
        obtain ⟨v, m, h1, h2, h3⟩ := r1.sl i d h
        exact ⟨v, m, h1, h2, h3.step (Same.refl _) fun b hb o ho => by rw [hh b fun z => by subst z; exact aF i hb]; exact ho⟩, r1.nd, r1.dj, r1.un, fun b o e => by rw [hh b fun z => by subst z; rw [ma] at e; cases e]; exact r1.sub b o e,
      fun i b hb => by
        obtain ⟨o, ho⟩ := r1.bd i b hb
        exact ⟨o, by rw [hh b fun z => by subst z; exact aF i hb]; exact ho⟩,
      fun b xs e => by
        by_cases hb : b = a
        · subst hb; rw [hha] at e; cases e
        · rw [hh b hb] at e; exact r1.tp b xs e,
      fun b o u e => by
        by_cases hb : b = a
        · subst hb; rw [hha] at e; cases e
        · rw [hh b hb] at e; exact r1.fz b o u e,
      fun b e => by
        by_cases hb : b = a
        · subst hb; exact rl.he b (xv.nw b List.mem_cons_self)
        · rw [hh b hb] at e; exact r1.he b e, r1.ow, r1.fx⟩
    have s1' : Step Hm H F Hm1 Hh F1 := ⟨s1.sm, fun b o e hb => by
        rw [hh b fun z => by subst z; rw [xv.nw b List.mem_cons_self] at e; cases e]
        exact s1.kp b o e hb, s1.nw, s1.fn, fun b e => by
        by_cases hb : b = a
        · subst hb; exact xv.nw b List.mem_cons_self
        · rw [hh b hb] at e; exact s1.dm b e⟩
    have bf := bk.rf
    obtain ⟨rs, er⟩ : ∃ rs, r.2 = rs := ⟨_, rfl⟩
    rw [er] at bf
    cases bf with
    | @cons _ rs' _ d1 h3 h4 h5 =>
      have st : Step Hm1 Hh (fun _ => as) Hm' H' (fun _ => as) := ⟨bk.st.sm, fun b o e hb => by
          have hba : b ≠ a := fun z => by subst z; rw [hha] at e; cases e
          rw [hh b hba] at e
          exact bk.st.kp b o e fun i hi => (List.mem_cons.mp hi).elim hba (hb i), fun b o e => by
          rcases bk.st.nw b o e with z | ⟨i, z⟩ | z
          · exact .inl z
          · rcases List.mem_cons.mp z with z | z
            · subst z; exact .inr (.inr hha)
            · exact .inr (.inl ⟨i, z⟩)
          · refine .inr (.inr ?_)
            by_cases hb : b = a
            · subst hb; exact hha
            · rw [hh b hb]; exact z, fun i b h => .inl ⟨i, h⟩, fun b e => by
          by_cases hb : b = a
          · subst hb; exact hha
          · rw [hh b hb]; exact bk.st.dm b e⟩
      obtain ⟨r2, s2⟩ := back_rel r1' hat nd hi st bk.sub bk.tp bk.fz h5 (refs_at hat h5)
      have hq : OkE K C rm Hm H F σ Q (r.1, agBack (refsA gs) r.2.tail ρ1) := hq
      rw [er] at hq
      refine hq w Hm' H' F1 g (s1'.trans s2) r2 ⟨xw.rd, xw.nd, xw.un, fun b hb i hbi => ?_, fun b hb => s1.dm b (xw.nw b hb)⟩
      obtain ⟨o, ho⟩ := r1.bd i b hbi
      rw [xw.nw b hb] at ho; cases ho
end
section
variable {X : Cx} {C : Ct} {o e : Expr} {es : List Expr} {n k j : Nat} {gs : List Ag} {ms : List Pm} {rm κ : Md} {f : FF} {x : Str} {p pos : Pos} {fo : EF}
theorem vg_o (h1 : VE X C (.ow .im) o fo) (h2 : VG X C es n gs) (hs : starEach (o :: es) X.env = (false, eval o X.env) :: starEach es X.env := by rfl) : PA X (o :: es) (tGO X.K C n fo gs) := by
  refine PA.mono (pa_cons h1 h2 hs) fun σ H Q ⟨Hm, F, ρ, r, q⟩ => ?_
  refine ⟨Hm, F, ρ, r, q.bind.imp fun p hq v Hm1 H1 F1 g1 s1 r1 x1 => ?_⟩
  refine ⟨Hm1, F1, p.2, r1, (hq.step s1).bind.imp fun p2 hq2 vs Hm2 H2 F2 s2 r2 x2 hn => ?_⟩
  obtain ⟨a, ea, eg⟩ := x1.rd.own1
  subst eg
  exact hq2 v a vs Hm2 H2 F2 (s1.trans s2) r2 (x1.step s2) x2 hn
theorem ve_callO (c : Cb X.prog X.w X.K X.mg X.base k x (.rf :: ms) rm f) (hr : RoomG j X.A) (hk : k ≤ j) (ha : PA X (o :: es) (tGO X.K C n fo gs)) (hf : fitA ms gs = true := by rfl) (hn : noN gs = true := by rfl) (nd : (refsA gs).Nodup := by decide) (hi : ∀ i ∈ refsA gs, C.Γ[i]? = some (.ow .im) := by first | exact fun _ h => absurd h List.not_mem_nil | (intro i h; simp [refsA] at h; subst h; rfl) | (intro i h; simp [refsA] at h; rcases h with rfl | rfl <;> rfl))
    (hg : Gl X x := by rfl) (hdb : (x == ("__debug__" : Str)) = false := by decide) (he : starEach (o :: es) X.env = (false, eval o X.env) :: starEach es X.env := by rfl) (hpl : (backTo pos (starEach es X.env)).any (·.1) = false := by rfl) :
    VE X C rm (.Call (.Name x p) (o :: es) [] pos) (eCallO f fo gs) := by
  obtain ⟨fa, fd, ps, F, hm, kp, b⟩ := c
  refine PE.mono (pe_callG F (hr.mono hk) hg hm kp b ha hdb he hpl) fun σ H Q h => ?_
  exact callO_red (Ek := EW0) (E := E0) (n := n) hf hn nd hi h
end
end VL

set_option Elab.async false
set_option linter.all false
set_option maxRecDepth 100000
set_option maxHeartbeats 4000000
/-! V14: own lists of own lists. -/
namespace VL
open PySem PySem.Spec L2
theorem AllM.at {P : V → D → List Addr → Prop} : ∀ {vs : List V} {ds : List D} {f : List Addr} {j : Nat} {d : D}, AllM P vs ds f → ds[j]? = some d → ∃ v f1 fx f2, vs[j]? = some v ∧ P v d fx ∧ f = f1 ++ (fx ++ f2) ∧
    ∀ (P' : V → D → List Addr → Prop) (d' : D) (fx' : List Addr), (∀ v d g, (∀ a ∈ g, a ∈ f1 ∨ a ∈ f2) → P v d g → P' v d g) → P' v d' fx' → AllM P' vs (ds.set j d') (f1 ++ (fx' ++ f2))
  | _, _, _, j, _, .nil, h => by simp at h
  | _, _, _, 0, d, @AllM.cons _ v vs d0 ds f1 f2 h1 h2, h => by
    simp at h
    subst h
    refine ⟨v, [], f1, f2, rfl, h1, rfl, fun P' d' fx' k h => ?_⟩
    exact (show AllM P' (v :: vs) (d' :: ds) (fx' ++ f2) from .cons h (h2.imp fun v d g hg hp => k v d g (fun a ha => .inr (hg a ha)) hp))
  | _, _, _, j + 1, d, @AllM.cons _ v vs d0 ds f1 f2 h1 h2, h => by
    obtain ⟨w, g1, gx, g2, k1, k2, k3, k4⟩ := AllM.at (j := j) (d := d) h2 (by simpa using h)
    refine ⟨w, f1 ++ g1, gx, g2, by simpa using k1, k2, by rw [k3, List.append_assoc], fun P' d' fx' k h => ?_⟩
    rw [List.append_assoc]
    exact .cons (k _ _ _ (fun a ha => .inl (List.mem_append_left _ ha)) h1) (k4 P' d' fx' (fun v d g hg hp => k v d g (fun a ha => (hg a ha).imp (List.mem_append_right _) id) hp) h)
section
variable {X : Cx} {C : Ct} {rm : Md} {e ek : Expr} {fk : EF} {pf : PF} {x : PySem.Str} {i : Nat} {pos p p1 p2 p3 p4 : Pos}
theorem append2_red {D : Ends} {σ : St} {H : Hp} (hm : C.Γ[i]? = some (.ow (.ow .im))) (h : tS X.K C rm (sAppend2 i fk pf) D σ H) :
    tDrop (tBM X.K "list" rAppend (tOp (rIx X.K) (tVar i) (tE X.K C .im fk)) (tCons (tP X.K C pf) tNil)) D σ H := by
  obtain ⟨Hm, F, ρ, r, q⟩ := h
  unfold sAppend2 at q
  split at q
  rotate_left
  · exact q.elim
  rename_i ds0 e0
  obtain ⟨a, xs0, g0, h1, h2, _, _, _⟩ := r.own e0 hm
  refine ⟨.ref a, h1, Hm, F, ρ, r, q.bind.imp fun p hq w Hm1 H1 F1 g1 s1 r1 x1 => ?_⟩
  obtain ⟨dk, ρ1⟩ := p
  have hq : fin X.K C Hm H F (match ρ1[i]?, dk with
    | some (some (.lst ds)), .int k => (match ixD ds.length k with
      | some j => (match ds[j]? with
        | some (.lst es) => pf ρ1 >>= fun d => if (flat d && decide (es.length < LINE)) = true then Rs.ok (Fl.next, ρ1.set i (some (.lst (ds.set j (.lst (es ++ [d])))))) else .bad
        | _ => .bad)
      | none => .bad)
    | _, _ => .bad) _ := hq
  split at hq
  rotate_left
  · exact hq.elim
  rename_i ds kk e1 old
  have x3 := x1.of_im
  cases x3
  obtain ⟨a', xs, g, h3, h4, hall, hF, hag⟩ := r1.own e1 hm
  rw [h1] at h3
  cases h3
  split at hq
  rotate_left
  · exact hq.elim
  rename_i j ej
  split at hq
  rotate_left
  · exact hq.elim
  rename_i es ees
  obtain ⟨v, f1, fx, f2, k1, k2, k3, k4⟩ := hall.at ees
  obtain ⟨b, rfl, hb⟩ := k2
  rcases hb with ⟨ys, es', gb, eqd, hb, hallb, hfx⟩ | ⟨_, _, _, eqd, _⟩ | ⟨_, _, _, _, _, _, eqd, _⟩
  rotate_left
  · cases eqd
  · cases eqd
  cases eqd
  obtain ⟨_, rfl⟩ := all_im hallb
  subst hfx
  have hat : atI xs kk = some (.ref b) := by
    unfold atI
    rw [hall.length, show ixN ds.length kk = some j from ej]
    exact k1
  refine .inl ⟨a, xs, kk, .ref b, rfl, rfl, .inl (.of h4), hat, .inl ⟨rfl, ys, .inl (.of hb)⟩, Hm1, F1, ρ1, r1, (hq.step s1).bind.imp fun d hd v Hm2 H2 s2 sm r2 xv => ?_⟩
  have hd : fin X.K C Hm1 H1 F1 (if (flat d && decide (es.length < LINE)) = true then Rs.ok (Fl.next, ρ1.set i (some (.lst (ds.set j (.lst (es ++ [d])))))) else Rs.bad) (OkS X.K C rm Hm H F D) := hd
  by_cases hc : (flat d && decide (es.length < LINE)) = true
  rotate_left
  · rw [if_neg hc] at hd; exact hd.elim
  rw [if_pos hc] at hd
  rw [Bool.and_eq_true, decide_eq_true_eq] at hc
  have hb2 : H2 b = some (.lst ys) := sm _ _ hb
  have h42 : H2 a = some (.lst xs) := sm _ _ h4
  have bF : b ∈ F1 i := by
    rw [hF, k3]
    exact List.mem_cons_of_mem _ (List.mem_append_right _ (List.mem_append_left _ List.mem_cons_self))
  have aF : a ∈ F1 i := by rw [hF]; exact List.mem_cons_self
  have nd := r1.nd i
  rw [hF, k3] at nd
  have hba : b ≠ a := fun z => by
    subst z
    exact (List.nodup_cons.mp nd).1 (List.mem_append_right _ (List.mem_append_left _ List.mem_cons_self))
  have hlen : ys.length = es.length := hallb.length
  refine ⟨b, ys, v, rfl, rfl, hb2, by rw [line_eq, hlen]; exact hc.2, ?_⟩
  have dtv : Dt X.K Hm2 v d := flat_dt r2.tp r2.fz d hc.1 xv
  have fout : ∀ c, (c ∈ f1 ∨ c ∈ f2) → c ≠ b := fun c h z => by
    subst z
    have nd2 := (List.nodup_cons.mp nd).2
    rw [List.nodup_append] at nd2
    rcases h with h | h
    · exact nd2.2.2 c h c (List.mem_append_left _ List.mem_cons_self) rfl
    · have := (List.nodup_cons.mp (show (c :: ([] ++ f2)).Nodup from nd2.2.1)).1
      exact this h
  have r3 := r2.rew (a := b) (o := .lst (ys ++ [v])) (g := a :: g) (d := .lst (ds.set j (.lst (es ++ [d])))) hm h1 bF
    ⟨a, rfl, .inl ⟨xs, ds.set j (.lst (es ++ [d])), g, rfl, by rw [upd_ne (Ne.symm hba)]; exact h42, by
      rw [k3]
      exact k4 _ _ _ (fun v d g hg hh => hh.step s2.sm fun c hcg o ho => by
        rw [upd_ne (fout c (hg c hcg))]
        exact sm _ _ ho) ⟨b, rfl, .inl ⟨ys ++ [v], es ++ [d], [], rfl, upd_same, im_all (DtA.append (DtA.mono s2.sm _ (all_im hallb).1) (.cons dtv .nil)), rfl⟩⟩, rfl⟩⟩
    (by rw [← hF]; exact r1.nd i) (fun c hcg => r2.un i c (by rw [hF]; exact hcg)) (fun c hcg l hl hcl => hl (r2.dj l i c hcl (by rw [hF]; exact hcg))) (fun c hcg => .inl (by rw [hF]; exact hcg)) (fun _ z => by cases z) (fun _ _ z => by cases z)
  have s3 := (s1.trans s2).rew (a := b) (o := .lst (ys ++ [v])) (g := a :: g) bF ⟨_, hb2⟩ fun c hc => .inl (by rw [hF]; exact hc)
  exact hd Hm2 _ _ σ s3 r3
/-- x[j].append(e) -/
theorem vs_append2 (hk : VE X C .im ek fk) (h : VP X C e pf) (hm : C.Γ[i]? = some (.ow (.ow .im)) := by rfl) (hN : X.N[i]? = some x := by rfl) (hv : Vis X.env.scope x := by first | exact Or.inl rfl | exact Or.inr (Or.inl rfl) | exact Or.inr (Or.inr rfl))
    (hd : (x == ("__debug__" : PySem.Str)) = false := by decide) (hcd : (x == ("__classdict__" : PySem.Str)) = false := by decide) (hix : PlainIx ek := by exact fun _ _ => rfl)
    (he : starEach [e] X.env = (false, eval e X.env) :: starEach [] X.env := by rfl) (hbase : attributeBase (.Subscript (.Name x p) ek p4) "append" X.env (eval (.Subscript (.Name x p) ek p4) X.env) = eval (.Subscript (.Name x p) ek p4) X.env := by rfl)
    (hfew : ((backTo p2 (starEach [e] X.env)).all (fun x => !x.1) && (backToKw p2 (keywordEach [] X.env)).all (fun x => x.1.isSome)
      && decide ([e].length + ([] : List Keyword).length + (if ([] : List Keyword).isEmpty then 0 else 1) < 30)) = true := by rfl)
    (hline : (p1.endLine == p2.line) = true := by rfl) (hpl : (backTo p2 (starEach [] X.env)).any (·.1) = false := by rfl)
    (hs : swapsWith (.Call (.Attribute (.Subscript (.Name x p) ek p4) "append" p1) [e] [] p2) none pos.line X.env = pure false := by rfl) :
    VS X C rm (.Expr (.Call (.Attribute (.Subscript (.Name x p) ek p4) "append" p1) [e] [] p2) pos) (sAppend2 i fk pf) :=
  PS.mono (ps_expr (pe_bm PySem.F.plainAttrs_list PySem.F.slot_list_append PySem.F.type_list_append mt_append (pe_ix ix_seq (pe_var hN hv hd hcd) hk hix) (pa_cons h pa_nil he) hbase hfew hline he hpl) hs) fun _ _ _ => append2_red hm
end
end VL

set_option Elab.async false
set_option linter.all false
set_option maxRecDepth 100000
set_option maxHeartbeats 4000000
/-! V15: unpacking into own slots, *=, isinstance of several, sorted, max, min, methods that change a list, keywords, recursion. -/
namespace L2
open PySem PySem.Spec PyProof.Rows
section
variable {X : Cx}
/-- xs.extend(ys), ys also a locked one -/
def rExtendR : V → List V → Hp → VK → Prop := fun x vs H Q => ∃ l b xs zs, x = .ref l ∧ vs = [.ref b] ∧ H l = some (.lst xs) ∧ Rd H b (.lst zs) ∧ xs.length + zs.length ≤ sizeLine ∧ Q .non (upd H l (.lst (xs ++ zs)))
theorem mt_extendR : MtM X "list.extend" rExtendR := by
  intro pins s σ H x vs v us Q I rx rv h
  obtain ⟨l, b, xs, zs, rfl, rfl, hH, hB, hz, q⟩ := h
  cases rx
  obtain ⟨u, rfl, ru⟩ := rv.one
  cases ru
  obtain ⟨z, its, n, r, hl, e⟩ := I.lstM hH
  obtain ⟨z2, its2, n2, r2, hl2, e2⟩ := I.lstR hB
  have hsz : its.toArray.size + its2.toArray.size ≤ sizeLine := by rw [List.size_toArray, List.size_toArray]; omega
  have hlong : ¬ (!its.toArray.isEmpty && Builtin.List.listTooLong (its.toArray.size + its2.toArray.size)) = true := by
    rw [notLongL hsz, Bool.and_false]
    exact Bool.false_ne_true
  refine call_meets F.slot_list_extend ⟨_, e, rfl⟩ F.entry_list_extend (F.args_list_extend_2 _ _)
    (AutoSeq1.list_extend_list_list_0 l its.toArray n b its2.toArray n2 hlong (by rw [List.size_toArray]; omega) (by omega)) ⟨e, e2, ?_⟩
  refine ⟨.non, _, I.lset (its' := its ++ its2) hH e (by simp) (r.append r2) ?_, rfl, q⟩
  rw [List.length_append]
  omega
def ipMul : TIp := fun x y H Q => ∃ i j, x = .int i ∧ y = .int j ∧ IntMulOk i j ∧ Q (.int (i * j)) H
theorem ip_mulW : PIp X .Mult ipMul := by
  intro pins s σ H x y v u Q I r1 r2 h
  obtain ⟨i, j, e1, e2, hm, q⟩ := h
  subst e1; subst e2
  obtain ⟨t, rfl⟩ := r1
  obtain ⟨t', rfl⟩ := r2
  exact imul_int ⟨.int _, H, I.tok _, ⟨_, rfl⟩, q⟩ hm
end
end L2
namespace VL
open PySem PySem.Spec L2

/-! ### x, y = a, b where a target is a cell -/
abbrev VGv (X : Cx) (tgs : List Expr) (is : List Nat) : Prop := PGs X tgs (fun vs σ H Q => vs.length = is.length ∧ Q (setV is vs σ) H)
section
variable {X : Cx} {C : Ct} {rm : Md} {pos : Pos} {es tgs : List Expr} {is : List Nat} {ms : List Md} {fs : List EF}
theorem vgv_nil : VGv X [] [] := PGs.mono pgs_nil fun vs σ H Q ⟨h, q⟩ => by
  cases vs with
  | nil => exact ⟨rfl, q⟩
  | cons v vs => cases h
theorem vgv_cons {i : Nat} {x : Str} (h2 : VGv X es is) (hN : X.N.Nodup := by first | assumption | decide) (hi : X.N[i]? = some x := by rfl) (hx : Loc X.env.scope x := by first | exact Or.inl rfl | exact Or.inr rfl)
    (hf : X.fn x = true ∨ X.env.scope.names.lookup x = some .local := by first | exact .inl rfl | exact .inr rfl | assumption) (hs : (assignEach (.Name x pos :: es) X.env).map (·.2) = assign (.Name x pos) X.env :: (assignEach es X.env).map (·.2) := by rfl) : VGv X (.Name x pos :: es) (i :: is) :=
  PGs.mono (pgs_cons (pg_name hN hi hx hf) h2 hs) fun vs σ H Q ⟨h, q⟩ => by
    cases vs with
    | nil => cases h
    | cons v vs => exact ⟨v, vs, rfl, by simpa using h, q⟩
theorem vs_parT {kt k2 : Nat} {pt pt2 : Pos} (h : VAM X C es ms (eArgs fs)) (hg : VGv X tgs is) (hm : is.map (C.Γ[·]?) = ms.map some := by rfl) (hR : is.all (fun i => !C.R.contains i) = true := by rfl) (hz : ms.length ≤ 1000 := by decide) (hlen : is.length = ms.length := by rfl)
    (hc : X.calm = true := by rfl) (hn : (assignEach tgs X.env).length = is.length := by rfl) (hst : (assignEach tgs X.env).findIdx? (·.1) = none := by rfl)
    (hs : swapsWithSole [.Tuple tgs kt pt] (.Tuple es k2 pt2) pos.line X.env = pure false := by rfl) (hw : swappedStores [.Tuple tgs kt pt] (.Tuple es k2 pt2) X.env = pure none := by rfl)
    (h1 : (assignEach [.Tuple tgs kt pt] X.env).map (·.2) = [assign (.Tuple tgs kt pt) X.env] := by rfl) : VS X C rm (.Assign [.Tuple tgs kt pt] (.Tuple es k2 pt2) pos) (sParN is fs) := by
  refine PS.mono (ps_asg (pe_tup h) (pg_tup (n := is.length) hc hg hn hst) hs hw h1) fun D σ H ⟨Hm, F, ρ, r, q⟩ => ⟨Hm, F, ρ, r, q.bind.imp fun p hq vs gs Hm1 H1 F1 s1 r1 x1 => ⟨Nat.le_of_lt (small1000 (by rw [x1.len]; omega)), fun a ha => ?_⟩⟩
  obtain ⟨r2, s2⟩ := r1.grow (Grow.one (o := .tup vs) r1.sub ha fun _ _ z => by cases z)
  have hR' : ∀ i ∈ is, i ∉ C.R := fun i hi => by
    have := List.all_eq_true.mp hR i hi
    exact notIn_of (by simpa using this)
  obtain ⟨F2, r4, s4⟩ := set_all (x1.step s2) hm hR' (fun g hg a ha => ⟨x1.nw g hg a ha, r.he a (x1.nw g hg a ha)⟩) r2 (s1.trans s2)
  have hl : vs.length = is.length := by rw [x1.len, hlen]
  exact ⟨a, vs, rfl, .of upd_same, hl, hl, hq _ _ F2 _ s4 r4⟩
end

/-! ### *= -/
section
variable {K : PySem.W.Frag}
theorem mulOk_fits {i j : Int} (h : mulOk i j = true) : IntMulOk i j := by
  unfold mulOk at h
  simp only [Bool.or_eq_true, decide_eq_true_eq] at h
  have small : ∀ {i : Int}, i.natAbs < 2 ^ 64 → Builtin.Int.intBits i ≤ 64 := fun {i} h => by
    have b : Builtin.Int.intBits i ≤ i.natAbs.log2 + 1 := by
      unfold Builtin.Int.intBits
      split <;> omega
    by_cases h0 : i.natAbs = 0
    · rw [h0] at b
      have : Nat.log2 0 = 0 := by decide
      omega
    · have := (Nat.log2_lt h0).mpr h
      omega
  rcases h with (h | h) | h
  · exact IntMulOk.of_left (small h)
  · exact IntMulOk.of_right (small h)
  · exact CMulW.ok h
theorem prim_mulI : Prim2 K ipMul mulI .im := by
  intro G H x y d e z Q s hx hy hz q
  cases hx with
  | int i =>
    cases hy with
    | int j =>
      have hz : (if mulOk i j = true then some (D.int (i * j)) else none) = some z := hz
      split at hz
      · rename_i h
        cases hz
        exact ⟨i, j, rfl, rfl, mulOk_fits h, q _ G H [] (Grow.refl s) (Res.im (.int _))⟩
      · cases hz
    | _ => cases hz
  | _ => cases hy <;> cases hz
end

/-! ### isinstance(e, (T, U, ..)) -/
section
variable {X : Cx} {C : Ct} {e : Expr} {f : EF} {es : List Expr} {n : Nat} {pos p tpos : Pos} {tk : Nat} {Ts : List String}
theorem kit_any {K : PySem.W.Frag} {H : Hp} {x : V} {d : D} (hd : Dt K H x d) : ∀ {Ts : List String}, Ts.all isTy = true → PySem.W.kitAny K (tyV K d) (Ts.map Value.type) = some (Ts.any fun T => isiD T d)
  | [], _ => rfl
  | T :: Ts, h => by
    rw [List.all_cons, Bool.and_eq_true] at h
    have ih := kit_any hd h.2
    show PySem.W.kitAny K (tyV K d) (.type T :: Ts.map Value.type) = _
    unfold PySem.W.kitAny
    rw [kit_is hd h.1, List.any_cons]
    cases isiD T d with
    | true => rfl
    | false => exact ih
/-- names of built-in types, in a row -/
abbrev TyRow (X : Cx) (es : List Expr) (Ts : List String) : Prop := PA X es (fun σ H Q => Q (Ts.map V.ty) H)
theorem tr_nil : TyRow X [] [] := PA.mono pa_nil fun σ H Q q => q
theorem tr_cons {x : Str} {T : String} {q : Pos} (hT : PE X (.Name x q) (tC (.ty T))) (h : TyRow X es Ts) (hs : starEach (.Name x q :: es) X.env = (false, eval (.Name x q) X.env) :: starEach es X.env := by rfl) : TyRow X (.Name x q :: es) (T :: Ts) :=
  PA.mono (pa_cons hT h hs) fun σ H Q q => q
theorem cls_row : ∀ {Ts : List String}, Paired ClsV (Ts.map V.ty) (Ts.map Value.type)
  | [] => .nil
  | T :: Ts => .cons (.ty T) cls_row
theorem ve_isiT (h : VE X C .im e f) (ht : Ts.all isTy = true) (hT : TyRow X es Ts) (hl : Ts.length ≤ 1000) (hm : X.mg "isinstance" = none) (hg : Gl X "isinstance" := by rfl) (he : starEach [e, .Tuple es tk tpos] X.env = (false, eval e X.env) :: starEach [.Tuple es tk tpos] X.env := by rfl)
    (hs2 : starEach [.Tuple es tk tpos] X.env = (false, eval (.Tuple es tk tpos) X.env) :: starEach [] X.env := by rfl)
    (hpl : (backTo pos (starEach [.Tuple es tk tpos] X.env)).any (·.1) = false := by rfl) : VE X C .im (.Call (.Name "isinstance" p) [e, .Tuple es tk tpos] [] pos) (eIsiT Ts f) := by
  refine PE.mono (pe_callB call_isiTZ hg hm (by decide +kernel) (pa_cons h (pa_cons (pe_tup hT) pa_nil hs2) he) (by decide) (by decide) he hpl) fun σ H Q ⟨Hm, F, ρ, r, q⟩ => ?_
  refine ⟨Hm, F, ρ, r, q.bind.imp fun p hq v Hm1 H1 F1 g1 s1 r1 x1 => ⟨Nat.le_of_lt (small1000 (by rw [List.length_map]; omega)), fun a ha => ?_⟩⟩
  have gr := Grow.one (o := .tup (Ts.map V.ty)) r1.sub ha fun _ _ z => by cases z
  obtain ⟨r2, s2⟩ := r1.grow gr
  exact ⟨v, a, _, _, _, _, rfl, upd_same, cls_row, ty_dt (Dt.mono r2.sub _ (Dt.mono s2.sm _ x1.of_im)), kit_any (Dt.mono r2.sub _ (Dt.mono s2.sm _ x1.of_im)) ht, hq (.bl _) _ _ F1 [] (s1.trans s2) r2 (Val.im (.bl _))⟩
end

/-! ### sorted, max, min of a list of ints -/
section
variable {K : PySem.W.Frag}
theorem intsV {xs : List V} : ∀ {ds : List D} {G : Hp} {ns : List Int} {xs : List V}, DtA K G xs ds → intsD ds = some ns → xs = ns.map V.int ∧ ds = ns.map D.int
  | _, _, _, _, .nil, h => by cases h; exact ⟨rfl, rfl⟩
  | d :: ds, _, ns, _, .cons a b, h => by
    cases d with
    | int i =>
      cases a
      cases e : intsD ds with
      | none => simp [intsD, e] at h
      | some ms =>
        simp [intsD, e] at h
        subst h
        obtain ⟨h1, h2⟩ := intsV (xs := []) b e
        exact ⟨by rw [h1]; rfl, by rw [h2]; rfl⟩
    | _ => simp [intsD] at h
theorem prim_sorted : PrimN K (rSorted K) sortedD (.ow .im) := by
  intro G H xs ds z Q s hx hz q
  cases hx with
  | nil => cases hz
  | cons h t =>
    cases t with
    | cons h2 t2 => rename_i d _ _ _ _; cases d <;> cases hz
    | nil =>
      cases h with
      | @lst a ys es h1 h2 =>
        have hz : ((intsD es).bind fun ns => if ns.length < 64 then some (D.lst ((isort ns).map D.int)) else none) = some z := hz
        cases e : intsD es with
        | none => rw [e] at hz; cases hz
        | some ns =>
          rw [e] at hz
          have hz : (if ns.length < 64 then some (D.lst ((isort ns).map D.int)) else none) = some z := hz
          split at hz
          · rename_i hl
            cases hz
            obtain ⟨e1, e2⟩ := intsV (xs := []) h2 e
            subst e1
            refine ⟨a, ns, rfl, .inl (Same.rd s h1), hl, fun ns' p hp hs hh => ?_⟩
            have es := PySem.W.ksm_same (hp.trans (isort_perm ns).symm) hs (isort_sorted ns)
            subst es
            exact q _ _ _ _ (Grow.own s hh (fun _ _ z => by cases z) fun _ z => by cases z) (Res.lst s hh (dt_ints _))
          · cases hz
      | _ => cases hz
where
  dt_ints {G : Hp} : ∀ ns : List Int, DtA K G (ns.map V.int) (ns.map D.int)
  | [] => .nil
  | n :: ns => .cons (.int n) (dt_ints ns)
theorem prim_max1 : PrimN K (rMax K) max1D .im := by
  intro G H xs ds z Q s hx hz q
  cases hx with
  | nil => cases hz
  | cons h t =>
    cases t with
    | cons h2 t2 => rename_i d _ _ _ _; cases d <;> cases hz
    | nil =>
      cases h with
      | @lst a ys es h1 h2 =>
        have hz : ((intsD es).bind fun ns => (ns.max?).map D.int) = some z := hz
        cases e : intsD es with
        | none => rw [e] at hz; cases hz
        | some ns =>
          rw [e] at hz
          have hz : (ns.max?).map D.int = some z := hz
          cases em : ns.max? with
          | none => rw [em] at hz; cases hz
          | some m =>
            rw [em] at hz
            cases hz
            obtain ⟨e1, e2⟩ := intsV (xs := []) h2 e
            subst e1
            obtain ⟨m1, m2⟩ := List.max?_eq_some_iff.mp em
            refine ⟨a, ns, rfl, .inl (Same.rd s h1), List.length_pos_of_mem m1, fun m' h3 h4 => ?_⟩
            have : m' = m := Int.le_antisymm (m2 m' h3) (h4 m m1)
            subst this
            exact q _ G H [] (Grow.refl s) (Res.im (.int _))
      | _ => cases hz
theorem prim_min1 : PrimN K (rMin K) min1D .im := by
  intro G H xs ds z Q s hx hz q
  cases hx with
  | nil => cases hz
  | cons h t =>
    cases t with
    | cons h2 t2 => rename_i d _ _ _ _; cases d <;> cases hz
    | nil =>
      cases h with
      | @lst a ys es h1 h2 =>
        have hz : ((intsD es).bind fun ns => (ns.min?).map D.int) = some z := hz
        cases e : intsD es with
        | none => rw [e] at hz; cases hz
        | some ns =>
          rw [e] at hz
          have hz : (ns.min?).map D.int = some z := hz
          cases em : ns.min? with
          | none => rw [em] at hz; cases hz
          | some m =>
            rw [em] at hz
            cases hz
            obtain ⟨e1, e2⟩ := intsV (xs := []) h2 e
            subst e1
            obtain ⟨m1, m2⟩ := List.min?_eq_some_iff.mp em
            refine ⟨a, ns, rfl, .inl (Same.rd s h1), List.length_pos_of_mem m1, fun m' h3 h4 => ?_⟩
            have : m' = m := Int.le_antisymm (h4 m m1) (m2 m' h3)
            subst this
            exact q _ G H [] (Grow.refl s) (Res.im (.int _))
      | _ => cases hz
end
end VL

set_option Elab.async false
set_option linter.all false
set_option maxRecDepth 100000
set_option maxHeartbeats 4000000
/-! V16: repr, str; calls with keywords; recursion. -/
namespace VL
open PySem PySem.Spec L2
section
theorem listText_le (ts : List Str) : (listText ts).length ≤ 2 + piled ts := by
  have key : ∀ (ts : List Str) (k : Nat) (acc : Str), (textFrom k acc ts).length ≤ acc.length + piled ts := fun ts => by
    induction ts with
    | nil => intro k acc; exact Nat.le_refl _
    | cons t ts ih =>
      intro k acc
      have e : (acc ++ (if k > 0 then ", " else "" : String) ++ t).length = acc.length + (if k > 0 then 2 else 0) + t.length := by
        rw [strLen_append, strLen_append]
        split <;> rfl
      have := ih (k + 1) (acc ++ (if k > 0 then ", " else "" : String) ++ t)
      rw [e] at this
      rw [piled_cons]
      show (textFrom (k + 1) _ ts).length ≤ _
      refine Nat.le_trans this ?_
      split <;> omega
  unfold listText
  have e := key ts 0 "["
  rw [strLen_append]
  have e1 : (("[" : String) : Str).length = 1 := rfl
  have e2 : (("]" : String) : Str).length = 1 := rfl
  omega
theorem tupleText_le (ts : List Str) : (tupleText ts).length ≤ 3 + piled ts := by
  unfold tupleText
  rw [strLen_append, strLen_append]
  have e1 : (("(" : String) : Str).length = 1 := rfl
  have e2 : ((if (ts.length == 1) = true then ",)" else ")" : String) : Str).length ≤ 2 := by
    split
    · exact Nat.le_refl 2
    · decide
  by_cases h : ts = []
  · subst h
    have : (Str.join ", " []).length = 0 := rfl
    have e3 : piled [] = 0 := rfl
    omega
  · have := join_length_add ts h
    omega
mutual
theorem shown_le : ∀ (n : Nat) (d : D), okR n d = true → (toPy d).shown.length ≤ rsz d ∧ (toPy d).showable = true
  | _, .non, _ => ⟨Nat.le_refl 4, rfl⟩
  | _, .bl true, _ => ⟨show 4 ≤ 5 by decide, rfl⟩
  | _, .bl false, _ => ⟨Nat.le_refl 5, rfl⟩
  | n, .int i, h => by
    have h : shortI i = true := by cases n <;> exact h
    have h2 : i.natAbs.log2 < 1920 := by
      unfold shortI at h
      exact of_decide_eq_true h
    refine ⟨?_, by simpa [toPy, PyData.showable] using h2⟩
    show (Str.ofString (toString i)).length ≤ 1921
    rw [ofString_length]
    exact int_text_length_le (by decide) h2
  | n, .str x, h => by
    have h : strOkD x = true := by cases n <;> exact h
    refine ⟨?_, rfl⟩
    show (reprText x).length ≤ 10 * x.length + 2
    refine StrLaws.reprText_len x fun c hc => ?_
    unfold strOkD at h
    rw [Array.all_eq_true_iff_forall_mem] at h
    have := h c (Array.mem_toList_iff.mp hc)
    have h3 : c < 0x110000 := of_decide_eq_true this
    have : (0x110000 : Nat) ≤ 16 ^ 8 := by decide
    omega
  | 0, .lst ds, h => by simp [okR] at h
  | 0, .tup ds, h => by simp [okR] at h
  | 0, .dct ds, h => by simp [okR] at h
  | n + 1, .dct ds, h => by simp [okR] at h
  | 0, .obj c ds, h => by simp [okR] at h
  | n + 1, .obj c ds, h => by simp [okR] at h
  | n + 1, .lst ds, h => by
    obtain ⟨h1, h2⟩ := shownA_le n ds (by simpa [okR] using h)
    refine ⟨?_, by simpa [toPy, PyData.showable] using h2⟩
    show (listText (PyData.shownAll (toPyA ds))).length ≤ 2 + rszA ds
    have := listText_le (PyData.shownAll (toPyA ds))
    omega
  | n + 1, .tup ds, h => by
    obtain ⟨h1, h2⟩ := shownA_le n ds (by simpa [okR] using h)
    refine ⟨?_, by simpa [toPy, PyData.showable] using h2⟩
    show (tupleText (PyData.shownAll (toPyA ds))).length ≤ 3 + rszA ds
    have := tupleText_le (PyData.shownAll (toPyA ds))
    omega
theorem shownA_le : ∀ (n : Nat) (ds : List D), okRA n ds = true → piled (PyData.shownAll (toPyA ds)) ≤ rszA ds ∧ PyData.showableAll (toPyA ds) = true
  | _, [], _ => ⟨Nat.le_refl _, rfl⟩
  | n, d :: ds, h => by
    have h : (okR n d && okRA n ds) = true := by simpa [okRA] using h
    rw [Bool.and_eq_true] at h
    obtain ⟨h1, h2⟩ := shown_le n d h.1
    obtain ⟨h3, h4⟩ := shownA_le n ds h.2
    refine ⟨?_, ?_⟩
    · show piled ((toPy d).shown :: PyData.shownAll (toPyA ds)) ≤ rsz d + 2 + rszA ds
      rw [piled_cons]
      omega
    · show ((toPy d).showable && PyData.showableAll (toPyA ds)) = true
      rw [h2, h4]; rfl
end
mutual
theorem okR_dp {K : PySem.W.Frag} {H : Hp} : ∀ (n : Nat) (d : D) {v : V}, okR n d = true → Dt K H v d → Dp K H v (toPy d) ∧ (toPy d).hasDict = false ∧ (toPy d).depth ≤ n
  | _, .non, _, _, h => by cases h; exact ⟨.non, rfl, Nat.zero_le _⟩
  | _, .bl b, _, _, h => by cases h; exact ⟨.bl b, rfl, Nat.zero_le _⟩
  | _, .int i, _, _, h => by cases h; exact ⟨.int i, rfl, Nat.zero_le _⟩
  | _, .str x, _, _, h => by cases h; exact ⟨.str x, rfl, Nat.zero_le _⟩
  | 0, .lst ds, _, f, _ => by simp [okR] at f
  | 0, .tup ds, _, f, _ => by simp [okR] at f
  | 0, .dct ds, _, f, _ => by simp [okR] at f
  | n + 1, .dct ds, _, f, _ => by simp [okR] at f
  | 0, .obj c ds, _, f, _ => by simp [okR] at f
  | n + 1, .obj c ds, _, f, _ => by simp [okR] at f
  | n + 1, .lst ds, _, f, h => by
    cases h with
    | lst a b =>
      obtain ⟨h1, h2, h3⟩ := okRA_dp n ds (by simpa [okR] using f) b
      exact ⟨.lst (.inl a) h1, by simpa [toPy, PyData.hasDict] using h2, by simpa [toPy, PyData.depth] using h3⟩
  | n + 1, .tup ds, _, f, h => by
    cases h with
    | tup a b =>
      obtain ⟨h1, h2, h3⟩ := okRA_dp n ds (by simpa [okR] using f) b
      exact ⟨.tup a h1, by simpa [toPy, PyData.hasDict] using h2, by simpa [toPy, PyData.depth] using h3⟩
theorem okRA_dp {K : PySem.W.Frag} {H : Hp} : ∀ (n : Nat) (ds : List D) {vs : List V}, okRA n ds = true → DtA K H vs ds → DpAll K H vs (toPyA ds) ∧ PyData.hasDictAll (toPyA ds) = false ∧ PyData.depthAll (toPyA ds) ≤ n
  | _, [], _, _, h => by cases h; exact ⟨.nil, rfl, Nat.zero_le _⟩
  | n, d :: ds, _, f, h => by
    cases h with
    | cons a b =>
      have f : (okR n d && okRA n ds) = true := by simpa [okRA] using f
      rw [Bool.and_eq_true] at f
      obtain ⟨h1, h2, h3⟩ := okR_dp n d f.1 a
      obtain ⟨h4, h5, h6⟩ := okRA_dp n ds f.2 b
      refine ⟨.cons h1 h4, ?_, ?_⟩
      · show ((toPy d).hasDict || PyData.hasDictAll (toPyA ds)) = false
        rw [h2, h5]; rfl
      · show max (toPy d).depth (PyData.depthAll (toPyA ds)) ≤ n
        exact Nat.max_le.mpr ⟨h3, h6⟩
end
end
def rRepr (X : Cx) : List V → Hp → VK → Prop := fun xs H Q => (∃ x d, xs = [x] ∧ Dp X.K H x d ∧ d.showable = true ∧ d.hasDict = false ∧ d.depth ≤ 60 ∧ d.shown.length ≤ sizeLine ∧ Q (.str d.shown) H) ∨
  (∃ a, xs = [.ref a] ∧ Rd H a (.dK []) ∧ Q (.str "{}") H)
theorem call_reprD {X : Cx} (hg : X.A.guards = some []) (hu : X.A.units + 64 < cLine) : CallR X (.builtin "repr") (rRepr X) := by
  intro pins s σ H xs us Q I r h
  rcases h with ⟨x, d, rfl, hd, hs, hn, hdep, hz, q⟩ | ⟨a, rfl, hR, q⟩
  · obtain ⟨u, rfl, ru⟩ := r.one
    obtain ⟨as, hr⟩ := Dp.reads I d x u hd ru
    cases hr with
    | none => exact PySem.P.repr_of_none ⟨.str _, H, I.tok _, ⟨_, rfl⟩, q⟩
    | bool b => exact PySem.P.repr_of_bool ⟨.str _, H, I.tok _, ⟨_, rfl⟩, q⟩
    | int i t => exact PySem.P.repr_of_int (by simpa [PyData.showable] using hs) ⟨.str _, H, I.tok _, ⟨_, rfl⟩, q⟩
    | str y t => exact PySem.P.repr_of_str (hsz := hz) ⟨.str _, H, I.tok _, ⟨_, rfl⟩, q⟩
    | list h1 h2 h3 h4 => exact repr_of_reads' (.list h1 h2 h3 h4) hs (PyData.noDict_hsm hn) hg (by omega) (fun _ _ e => e) (fun h' u tk hk => ⟨.str _, H, I.kept hk, ⟨_, rfl⟩, q⟩) hz
    | tuple h1 h2 h3 h4 => exact repr_of_reads' (.tuple h1 h2 h3 h4) hs (PyData.noDict_hsm hn) hg (by omega) (fun _ _ e => e) (fun h' u tk hk => ⟨.str _, H, I.kept hk, ⟨_, rfl⟩, q⟩) hz
    | dict h1 h2 h3 h4 h5 => simp [PyData.hasDict] at hn
  · obtain ⟨u, rfl, ru⟩ := r.one
    cases ru
    obtain ⟨hz, hS, vs, rel, o, es, ep, e1, e2, e3, e4, e5, e6⟩ := dk_rd I.hok hR
    cases rel
    have e5' : es.toList = [] := by
      cases e : es.toList with
      | nil => rfl
      | cons y ys => rw [e] at e5; cases e5
    have hr : Reads s.heap (.ref a) (.dict []) (a :: [] ++ []) := .dict e1 e2.1 e3 (by rw [e5']; exact .nil) (by rw [e5']; exact .nil)
    refine repr_of_reads' hr rfl (fun _ hm => ?_) hg (by show X.A.units + (1 + 1) < cLine; omega) (fun _ _ e => e) (fun h' u tk hk => ⟨.str _, H, I.kept hk, ⟨_, rfl⟩, q⟩) (by rw [sizeLine_eq]; decide +kernel)
    rw [List.append_nil, List.mem_singleton] at hm
    rw [hm] at hS
    simp at hS
section
variable {X : Cx} {C : Ct} {e : Expr} {es : List Expr} {f : EF} {fs : List EF} {n k j : Nat} {pos p : Pos} {x : Str} {κ rm : Md} {ms : List Pm}
theorem prim_repr : PrimN X.K (rRepr X) (fun ds => match ds with | [d] => reprD d | _ => none) .im := by
  intro G H xs ds z Q s hx hz q
  cases hx with
  | nil => cases hz
  | cons h t =>
    cases t with
    | cons h2 t2 => cases hz
    | nil =>
      rename_i d
      have hz : reprD d = some z := hz
      unfold reprD at hz
      by_cases hk : reprOk d = true
      · rw [if_pos hk] at hz
        cases hz
        unfold reprOk at hk
        rw [Bool.and_eq_true, decide_eq_true_eq] at hk
        obtain ⟨h1, h2⟩ := shown_le 60 d hk.1
        obtain ⟨h3, h4, h5⟩ := okR_dp 60 d hk.1 (Dt.mono s _ h)
        have e : reprS d = (toPy d).shown := by unfold reprS; rfl
        exact .inl ⟨_, toPy d, rfl, h3, h2, h4, h5, by rw [sizeLine_eq]; omega, by rw [← e]; exact q _ G H [] (Grow.refl s) (Res.im (.str _))⟩
      · rw [if_neg hk] at hz
        cases h with
        | dct a b =>
          cases b with
          | nil => cases hz; exact .inr ⟨_, rfl, Same.rd s a, q _ G H [] (Grow.refl s) (Res.im (.str _))⟩
          | cons _ _ => cases hz
        | _ => cases hz
theorem ve_repr (hr : RoomG j X.A) (hm : X.mg "repr" = none) (h : VE X C .im e f) (hg : Gl X "repr" := by rfl) (he : starEach [e] X.env = (false, eval e X.env) :: starEach [] X.env := by rfl) (hpl : (backTo pos (starEach [] X.env)).any (·.1) = false := by rfl) :
    VE X C .im (.Call (.Name "repr" p) [e] [] pos) (eRepr f) := by
  refine PE.mono (pe_callB (call_reprD hr.gd hr.u64) hg hm (by decide +kernel) (pa_cons h pa_nil he) (by decide) (by decide) he hpl) fun σ H Q ⟨Hm, F, ρ, r, q⟩ => ?_
  refine ⟨Hm, F, ρ, r, q.bind.imp fun p hq v Hm1 H1 F1 g1 s1 r1 x1 => ?_⟩
  obtain ⟨z, ez, hz⟩ := hq.bind.of
  exact prim_repr Hm1 H1 [v] [p.1] z Q r1.sub (.cons x1.of_im .nil) ez fun w G' H' f gr rs => endE hz s1 r1 gr rs
def rStr : List V → Hp → VK → Prop := fun xs H Q => (∃ i, xs = [.int i] ∧ i.natAbs.log2 < 1920 ∧ Q (.str (toString i)) H) ∨ ∃ a, xs = [.str a] ∧ Q (.str a) H
theorem call_strD : CallR X (.type "str") rStr := fun pins s σ H xs us Q I r h => h.elim (fun h => call_str_int pins s σ H xs us Q I r h) fun h => SkE.call_str_str pins s σ H xs us Q I r h
theorem prim_str : PrimN X.K rStr strD .im := by
  intro G H xs ds z Q s hx hz q
  cases hx with
  | nil => cases hz
  | cons h t =>
    cases t with
    | cons h2 t2 => rename_i d _ _ _ _; cases d <;> cases hz
    | nil =>
      cases h with
      | int i =>
        have hz : (if shortI i = true then some (D.str (strI i)) else none) = some z := hz
        split at hz
        · rename_i hk
          cases hz
          have e : strI i = toString i := by unfold strI; rfl
          exact .inl ⟨i, rfl, by unfold shortI at hk; exact of_decide_eq_true hk, by rw [← e]; exact q _ G H [] (Grow.refl s) (Res.im (.str _))⟩
        · cases hz
      | str y => cases hz; exact .inr ⟨y, rfl, q _ G H [] (Grow.refl s) (Res.im (.str _))⟩
      | _ => cases hz

/-! ### a def that calls itself: nothing is claimed of its deepest call -/
theorem bad_g {P : Program} {w : World} {K : PySem.W.Frag} {mg : Str → Option Value} {base : Heap} {k : Nat} {fa : Addr} {fd : FuncData} {ps : List Str} (hl : ps.length = ms.length) : FnG P w K mg base k fa fd ps (spV EW0 K ms rm fun _ => .bad) :=
  ⟨fun vs H Q E ⟨_, _, _, _, _, _, x, _⟩ => by rw [x.lenV, hl], fun A outer s H args us vs Q E hr e b r h => h.choose_spec.choose_spec.choose_spec.2.2.2.2.elim⟩
/-! ### keywords -/
def KwOk (K : PySem.W.Frag) (fd : FuncData) (ps ks : List Str) (n : Nat) (π : List Nat) : Prop := ∀ (s : Shared) (us ws zs : List Value), K.In s.heap → us.length = n → ws.length = ks.length → π.map ((us ++ ws)[·]?) = zs.map some → zs.length = ps.length → BindsTo s fd ⟨us, ks.zip ws⟩ (ps.zip zs)
theorem perm_dt {K : PySem.W.Frag} {G : Hp} {vs : List V} {ds : List D} (h : DtA K G vs ds) : ∀ {π : List Nat} {es : List D}, permD π ds = some es → ∃ zs, π.map (vs[·]?) = zs.map some ∧ DtA K G zs es
  | [], es, e => by cases e; exact ⟨[], rfl, .nil⟩
  | i :: π, es, e => by
    unfold permD at e
    cases hd : ds[i]? with
    | none => rw [hd] at e; cases e
    | some d =>
      rw [hd] at e
      cases hp : permD π ds with
      | none => rw [hp] at e; cases e
      | some es' =>
        rw [hp] at e
        cases e
        obtain ⟨v, h1, h2⟩ := h.get hd
        obtain ⟨zs, h3, h4⟩ := perm_dt h hp
        exact ⟨v :: zs, by rw [List.map_cons, List.map_cons, h1, h3], .cons h2 h4⟩
theorem perm_vals {vs : List V} {us : List Value} (h : Vals vs us) : ∀ {π : List Nat} {zs : List V}, π.map (vs[·]?) = zs.map some → ∃ ws, π.map (us[·]?) = ws.map some ∧ Vals zs ws
  | [], zs, e => by
    cases zs with
    | nil => exact ⟨[], rfl, .nil⟩
    | cons z zs => cases e
  | i :: π, zs, e => by
    cases zs with
    | nil => cases e
    | cons z zs =>
      injection e with e1 e2
      obtain ⟨w, h1, h2⟩ := h.get e1
      obtain ⟨ws, h3, h4⟩ := perm_vals h e2
      exact ⟨w :: ws, by rw [List.map_cons, List.map_cons, h1, h3], .cons h2 h4⟩
end
end VL
namespace VL
open PySem PySem.Spec L2
section
variable {X : Cx} {C : Ct} {k : Md} {pos : Pos}
/-- {} -/
theorem ve_dctO : VE X C (.ow k) (.Dict [] [] pos) (eC (.dct [])) := PE.mono pe_dnewK fun σ H Q ⟨Hm, F, ρ, r, q⟩ p hp =>
  endE (z := .dct []) q .refl r (Grow.own (o := .dK []) r.sub hp (fun _ _ z => by cases z) fun _ z => by cases z)
    ⟨⟨p, rfl, .inr (.inl ⟨[], [], [], rfl, upd_same, .nil, rfl⟩)⟩, (by simp), (fun a ha => by rw [List.mem_singleton.mp ha]; exact Same.none r.sub hp), fun a ha => by rw [List.mem_singleton.mp ha]; exact hp⟩
theorem ve_dct0 : VE X C .im (.Dict [] [] pos) (eC (.dct [])) := ve_im (ve_dctO (k := .im))
end
end VL

set_option Elab.async false
set_option linter.all false
set_option maxRecDepth 100000
set_option maxHeartbeats 4000000
/-! V17: texts. -/
namespace VL
open PySem PySem.Spec L2
section
variable {K : PySem.W.Frag}
theorem strsV {xs : List V} : ∀ {ds : List D} {G : Hp} {ns : List Str} {xs : List V}, DtA K G xs ds → strsD ds = some ns → xs = ns.map V.str
  | _, _, _, _, .nil, h => by cases h; rfl
  | d :: ds, _, ns, _, .cons a b, h => by
    cases d with
    | str i =>
      cases a
      cases e : strsD ds with
      | none => simp [strsD, e] at h
      | some ms =>
        simp [strsD, e] at h
        subst h
        rw [strsV (xs := []) b e]
        rfl
    | _ => simp [strsD] at h
theorem dt_strs {G : Hp} : ∀ ns : List Str, DtA K G (ns.map V.str) (ns.map D.str)
  | [] => .nil
  | n :: ns => .cons (.str n) (dt_strs ns)
theorem one_arg {G : Hp} {vs : List V} {ds : List D} (h : DtA K G vs ds) {d : D} (e : ds = [d]) : ∃ v, vs = [v] ∧ Dt K G v d := by
  subst e
  cases h with
  | cons a b => cases b; exact ⟨_, rfl, a⟩
theorem prim_split : PrimM K (fun x xs H Q => ∃ a b, x = .str a ∧ xs = [.str b] ∧ (b.length == 0) = false ∧ a.length + 2 ≤ sizeLine ∧ rNewStrs (Txt.split a b) H Q) splitD (.ow .im) := by
  intro G H x xs d ds z Q s hx hy hz q
  cases hx with
  | str a =>
    match ds, hy, hz with
    | [.str b], hy, hz =>
      obtain ⟨v, rfl, hv⟩ := one_arg hy rfl
      cases hv
      have hz : (if ((b.length == 0) = false ∧ a.length + 2 ≤ LINE) then some (D.lst ((Txt.split a b).map .str)) else none) = some z := hz
      split at hz
      · rename_i hc
        cases hz
        exact ⟨a, b, rfl, rfl, hc.1, by rw [line_eq]; exact hc.2, fun p hp => q _ _ _ _ (Grow.own s hp (fun _ _ z => by cases z) fun _ z => by cases z) (Res.lst s hp (dt_strs _))⟩
      · cases hz
  | _ => cases hz
theorem prim_countS : PrimM K (fun x xs H Q => ∃ a b, x = .str a ∧ xs = [.str b] ∧ Q (.int (Txt.count a b)) H) countSD .im := by
  intro G H x xs d ds z Q s hx hy hz q
  cases hx with
  | str a =>
    match ds, hy, hz with
    | [.str b], hy, hz =>
      obtain ⟨v, rfl, hv⟩ := one_arg hy rfl
      cases hv
      cases hz
      exact ⟨a, b, rfl, rfl, q _ G H [] (Grow.refl s) (Res.im (.int _))⟩
  | _ => cases hz
theorem prim_rstrip : PrimM K (fun x xs H Q => ∃ a b, x = .str a ∧ xs = [.str b] ∧ a.length ≤ sizeLine ∧ Q (.str (Txt.rstripChars a b)) H) rstripD .im := by
  intro G H x xs d ds z Q s hx hy hz q
  cases hx with
  | str a =>
    match ds, hy, hz with
    | [.str b], hy, hz =>
      obtain ⟨v, rfl, hv⟩ := one_arg hy rfl
      cases hv
      have hz : (if a.length ≤ LINE then some (D.str (Txt.rstripChars a b)) else none) = some z := hz
      split at hz
      · rename_i hc
        cases hz
        exact ⟨a, b, rfl, rfl, by rw [line_eq]; exact hc, q _ G H [] (Grow.refl s) (Res.im (.str _))⟩
      · cases hz
  | _ => cases hz
theorem prim_partition : PrimM K (fun x xs H Q => ∃ a b, x = .str a ∧ xs = [.str b] ∧ (b.length == 0) = false ∧ a.length ≤ sizeLine ∧
    ∀ p, H p = none → Q (.ref p) (upd H p (.tup [.str (Txt.partition a b).1, .str (Txt.partition a b).2.1, .str (Txt.partition a b).2.2]))) partitionD .im := by
  intro G H x xs d ds z Q s hx hy hz q
  cases hx with
  | str a =>
    match ds, hy, hz with
    | [.str b], hy, hz =>
      obtain ⟨v, rfl, hv⟩ := one_arg hy rfl
      cases hv
      have hz : (if ((b.length == 0) = false ∧ a.length ≤ LINE) then some (D.tup [.str (Txt.partition a b).1, .str (Txt.partition a b).2.1, .str (Txt.partition a b).2.2]) else none) = some z := hz
      split at hz
      · rename_i hc
        cases hz
        refine ⟨a, b, rfl, rfl, hc.1, by rw [line_eq]; exact hc.2, fun p hp => ?_⟩
        have g := Grow.one (o := .tup [.str (Txt.partition a b).1, .str (Txt.partition a b).2.1, .str (Txt.partition a b).2.2]) s hp fun _ _ z => by cases z
        exact q _ _ _ _ g (Res.im (.tup (.of upd_same) (.cons (.str _) (.cons (.str _) (.cons (.str _) .nil)))))
      · cases hz
  | _ => cases hz
theorem prim_join : PrimM K (fun x xs H Q => ∃ a p, ∃ ys : List Str, x = .str a ∧ xs = [.ref p] ∧ (SqL K H p (ys.map V.str) ∨ SqT K H p (ys.map V.str)) ∧
    (ys.map (·.length)).sum + ys.length * a.length ≤ 16777216 ∧ Q (.str (Txt.join a ys)) H) joinD .im := by
  intro G H x xs d ds z Q s hx hy hz q
  cases hx with
  | str a =>
    match ds, hy, hz with
    | [.lst es], hy, hz =>
      obtain ⟨v, rfl, hv⟩ := one_arg hy rfl
      cases hv with
      | @lst p ys _ h1 h2 =>
        have hz : ((strsD es).bind fun ys => if (ys.map (·.length)).sum + ys.length * a.length ≤ LINE then some (D.str (Txt.join a ys)) else none) = some z := hz
        cases e : strsD es with
        | none => rw [e] at hz; cases hz
        | some ns =>
          rw [e] at hz
          have hz : (if (ns.map (·.length)).sum + ns.length * a.length ≤ LINE then some (D.str (Txt.join a ns)) else none) = some z := hz
          split at hz
          · rename_i hc
            cases hz
            have e2 := strsV (xs := []) h2 e
            subst e2
            exact ⟨a, p, ns, rfl, rfl, .inl (.inl (Same.rd s h1)), hc, q _ G H [] (Grow.refl s) (Res.im (.str _))⟩
          · cases hz
  | _ => cases hz
def ipAddIS : TIp := fun x y H Q => ipI (fun i j => i + j) x y H Q ∨ ∃ i j, x = .str i ∧ y = .str j ∧ i.length + j.length ≤ sizeLine ∧ Q (.str (i ++ j)) H
theorem ip_addIS {X : Cx} : PIp X .Add ipAddIS := fun pins s σ H x y v u Q I r1 r2 h => h.elim (fun h => ip_add pins s σ H x y v u Q I r1 r2 h) fun h => iop_add_str pins s σ H x y v u Q I r1 r2 h
theorem prim_addIS : Prim2 K ipAddIS addIS .im := by
  intro G H x y d e z Q s hx hy hz q
  cases hx with
  | int i =>
    cases hy with
    | int j => cases hz; exact .inl ⟨i, j, rfl, rfl, q _ G H [] (Grow.refl s) (Res.im (.int _))⟩
    | _ => cases hz
  | str a =>
    cases hy with
    | str b =>
      have hz : (if a.length + b.length ≤ LINE then some (D.str (a ++ b)) else none) = some z := hz
      split at hz
      · rename_i hl
        cases hz
        exact .inr ⟨a, b, rfl, rfl, by rw [line_eq]; exact hl, q _ G H [] (Grow.refl s) (Res.im (.str _))⟩
      · cases hz
    | _ => cases hz
  | _ => cases hy <;> cases hz
end
section
variable {X : Cx} {C : Ct} {o e a b : Expr} {es : List Expr} {κ : Md} {n : Nat} {f fo fa fb : EF} {fs : List EF} {pos p p2 apos cpos : Pos} {name : Str} {id : String}
theorem ve_mthS {r : V → List V → Hp → VK → Prop} {g : List D → Option D} (slot : PySem.Slot "str" name id) (hty : typeOf (.builtin id) = pure (.type "method_descriptor")) (hm : MtR X id r) (hp : PrimM X.K r g κ) (ho : VE X C .im o fo) (ha : VA X C (e :: es) n (eArgs fs))
    (hbase : attributeBase o name X.env (eval o X.env) = eval o X.env := by rfl)
    (hfew : ((backTo cpos (starEach (e :: es) X.env)).all (fun x => !x.1) && (backToKw cpos (keywordEach [] X.env)).all (fun x => x.1.isSome)
      && decide ((e :: es).length + ([] : List Keyword).length + (if ([] : List Keyword).isEmpty then 0 else 1) < 30)) = true := by rfl)
    (hline : (apos.endLine == cpos.line) = true := by rfl) (hs : starEach (e :: es) X.env = (false, eval e X.env) :: starEach es X.env := by rfl) (hplain : (backTo cpos (starEach es X.env)).any (·.1) = false := by rfl) :
    VE X C κ (.Call (.Attribute o name apos) (e :: es) [] cpos) (eMthS g fo fs) := by
  refine PE.mono (pe_bm PySem.F.plainAttrs_str slot hty hm ho ha hbase hfew hline hs hplain) fun σ H Q ⟨Hm, F, ρ, r, q⟩ => ?_
  refine ⟨Hm, F, ρ, r, q.bind.imp fun p hq v Hm1 H1 F1 g1 s1 r1 x1 => ?_⟩
  obtain ⟨d, ρ'⟩ := p
  have x2 := x1.of_im
  cases d with
  | str a =>
    cases x2
    refine ⟨rfl, Hm1, F1, ρ', r1, (hq.step s1).bind.imp fun p2 hq2 vs Hm2 H2 F2 s2 r2 x2 hn => ?_⟩
    obtain ⟨z, hz, hq2⟩ := hq2.bind.of
    exact hp Hm2 H2 _ vs (.str a) p2.1 z Q r2.sub (.str a) x2 hz fun v' G' H' f' g' x' => endE hq2 (s1.trans s2) r2 g' x'
  | _ => exact hq.elim
end

/-! ### methods that change an own list -/
section
variable {X : Cx} {C : Ct} {rm k : Md} {e : Expr} {fe : EF} {x : Str} {i : Nat} {pos p p1 p2 : Pos}
/-- the own list in slot i gets other items, of its own old ones -/
theorem Rel.put_items {K : PySem.W.Frag} {C : Ct} {Hm H : Hp} {F : Fps} {σ : St} {ρ : En} (r : Rel K C Hm H F σ ρ) {Hm0 H0 : Hp} {F0 : Fps} (s : Step Hm0 H0 F0 Hm H F) {i : Nat} {k : Md} {a : Addr} {xs ys : List V} {es : List D} {g g' : List Addr} (hm : C.Γ[i]? = some (.ow k))
    (h1 : σ[i]? = some (some (.ref a))) (h2 : H a = some (.lst xs)) (hF : F i = a :: g) (hag : a ∉ g) (hall : AllM (RdM K Hm H k) ys es g') (sub : ∀ b ∈ g', b ∈ g) (nd : g'.Nodup) :
    Rel K C Hm (upd H a (.lst ys)) (F.put i (a :: g')) σ (ρ.set i (some (.lst es))) ∧ Step Hm0 H0 F0 Hm (upd H a (.lst ys)) (F.put i (a :: g')) := by
  have mem : ∀ b, b ∈ a :: g' → b ∈ F i := fun b hb => by
    rw [hF]
    rcases List.mem_cons.mp hb with rfl | hb
    · exact List.mem_cons_self
    · exact List.mem_cons_of_mem _ (sub b hb)
  refine ⟨r.rew (a := a) (o := .lst ys) (g := a :: g') (d := .lst es) hm h1 (by rw [hF]; exact List.mem_cons_self)
    ⟨a, rfl, .inl ⟨_, _, g', rfl, upd_same, hall.imp fun v d gx hgx hh => hh.step (Same.refl _) fun b hb o ho => by
      have : b ≠ a := fun z => by subst z; exact hag (sub _ (hgx b hb))
      rw [upd_ne this]
      exact ho, rfl⟩⟩
    (List.nodup_cons.mpr ⟨fun z => hag (sub _ z), nd⟩) (fun b hb => r.un i b (mem b hb)) (fun b hb j hj hbj => hj (r.dj j i b hbj (mem b hb))) (fun b hb => .inl (mem b hb)) (fun _ z => by cases z) (fun _ _ z => by cases z),
    s.rew (by rw [hF]; exact List.mem_cons_self) ⟨_, h2⟩ fun b hb => .inl (mem b hb)⟩
theorem AllM.rev {P : V → D → List Addr → Prop} : ∀ {vs : List V} {ds : List D} {f : List Addr}, AllM P vs ds f → ∃ f', AllM P vs.reverse ds.reverse f' ∧ (∀ b ∈ f', b ∈ f) ∧ (f.Nodup → f'.Nodup)
  | _, _, _, .nil => ⟨[], .nil, fun _ h => h, fun _ => .nil⟩
  | _, _, _, .cons (f := f1) (g := g1) h t => by
    obtain ⟨f', h1, h2, h3⟩ := AllM.rev t
    rw [List.reverse_cons, List.reverse_cons]
    refine ⟨f' ++ f1, AllM.append h1 (AllM.one h), fun b hb => ?_, fun n => ?_⟩
    · rcases List.mem_append.mp hb with z | z
      · exact List.mem_append_right _ (h2 b z)
      · exact List.mem_append_left _ z
    · rw [List.nodup_append] at n ⊢
      exact ⟨h3 n.2.1, n.1, fun x hx y hy e => n.2.2 y hy x (h2 x hx) e.symm⟩
theorem AllM.init {P : V → D → List Addr → Prop} : ∀ {vs : List V} {ds : List D} {f : List Addr}, AllM P vs ds f → ∃ f', AllM P vs.dropLast ds.dropLast f' ∧ (∀ b ∈ f', b ∈ f) ∧ (f.Nodup → f'.Nodup)
  | _, _, _, .nil => ⟨[], .nil, fun _ h => h, fun _ => .nil⟩
  | _, _, _, .cons h .nil => ⟨[], AllM.nil, (fun b hb => by cases hb), fun _ => List.nodup_nil⟩
  | _, _, _, .cons (f := f1) h (.cons h2 t) => by
    obtain ⟨f', q1, q2, q3⟩ := AllM.init (.cons h2 t)
    refine ⟨f1 ++ f', .cons h q1, fun b hb => ?_, fun n => ?_⟩
    · rcases List.mem_append.mp hb with z | z
      · exact List.mem_append_left _ z
      · exact List.mem_append_right _ (q2 b z)
    · rw [List.nodup_append] at n ⊢
      exact ⟨n.1, q3 n.2.1, fun x hx y hy e => n.2.2 x hx y (q2 y hy) e⟩
theorem rev_red {D : Ends} {σ : St} {H : Hp} (hm : C.Γ[i]? = some (.ow k)) (h : tS X.K C rm (sRev i) D σ H) : tDrop (tBM0 X.K "list" rReverse (tVar i)) D σ H := by
  obtain ⟨Hm, F, ρ, r, q⟩ := h
  unfold sRev at q
  split at q
  · rename_i ds e0
    obtain ⟨a, xs, g, h1, h2, hall, hF, hag⟩ := r.own e0 hm
    obtain ⟨g', q1, q2, q3⟩ := hall.rev
    have nd : g.Nodup := by have := r.nd i; rw [hF] at this; exact (List.nodup_cons.mp this).2
    obtain ⟨r2, s2⟩ := r.put_items .refl hm h1 h2 hF hag q1 q2 (q3 nd)
    exact ⟨.ref a, h1, .inl ⟨rfl, xs, .of h2⟩, a, xs, rfl, rfl, h2, q Hm _ _ σ s2 r2⟩
  · exact q.elim
theorem pop_red {D : Ends} {σ : St} {H : Hp} (hm : C.Γ[i]? = some (.ow k)) (h : tS X.K C rm (sPop i) D σ H) : tDrop (tBM0 X.K "list" rPop (tVar i)) D σ H := by
  obtain ⟨Hm, F, ρ, r, q⟩ := h
  unfold sPop at q
  split at q
  · rename_i d ds e0
    obtain ⟨a, xs, g, h1, h2, hall, hF, hag⟩ := r.own e0 hm
    obtain ⟨g', q1, q2, q3⟩ := hall.init
    have nd : g.Nodup := by have := r.nd i; rw [hF] at this; exact (List.nodup_cons.mp this).2
    obtain ⟨r2, s2⟩ := r.put_items .refl hm h1 h2 hF hag q1 q2 (q3 nd)
    have hl : xs.length = ds.length + 1 := hall.length
    have hlt : xs.length - 1 < xs.length := by omega
    exact ⟨.ref a, h1, .inl ⟨rfl, xs, .of h2⟩, a, xs, xs[xs.length - 1], rfl, rfl, h2, List.getElem?_eq_getElem hlt, q Hm _ _ σ s2 r2⟩
  · exact q.elim
/-- x.reverse(), x own -/
theorem vs_rev (hm : C.Γ[i]? = some (.ow k) := by rfl) (hN : X.N[i]? = some x := by rfl) (hv : Vis X.env.scope x := by first | exact Or.inl rfl | exact Or.inr (Or.inl rfl) | exact Or.inr (Or.inr rfl))
    (hd : (x == ("__debug__" : Str)) = false := by decide) (hcd : (x == ("__classdict__" : Str)) = false := by decide)
    (hbase : attributeBase (.Name x p) "reverse" X.env (eval (.Name x p) X.env) = eval (.Name x p) X.env := by rfl) (hline : (p1.endLine == p2.line) = true := by rfl)
    (hs : swapsWith (.Call (.Attribute (.Name x p) "reverse" p1) [] [] p2) none pos.line X.env = pure false := by rfl) :
    VS X C rm (.Expr (.Call (.Attribute (.Name x p) "reverse" p1) [] [] p2) pos) (sRev i) :=
  PS.mono (ps_expr (pe_bm0 PySem.F.plainAttrs_list PySem.F.slot_list_reverse PySem.F.type_list_reverse mt_reverse (pe_var hN hv hd hcd) hbase hline) hs) fun _ _ _ => rev_red hm
/-- x.pop(), x own -/
theorem vs_pop (hm : C.Γ[i]? = some (.ow k) := by rfl) (hN : X.N[i]? = some x := by rfl) (hv : Vis X.env.scope x := by first | exact Or.inl rfl | exact Or.inr (Or.inl rfl) | exact Or.inr (Or.inr rfl))
    (hd : (x == ("__debug__" : Str)) = false := by decide) (hcd : (x == ("__classdict__" : Str)) = false := by decide)
    (hbase : attributeBase (.Name x p) "pop" X.env (eval (.Name x p) X.env) = eval (.Name x p) X.env := by rfl) (hline : (p1.endLine == p2.line) = true := by rfl)
    (hs : swapsWith (.Call (.Attribute (.Name x p) "pop" p1) [] [] p2) none pos.line X.env = pure false := by rfl) :
    VS X C rm (.Expr (.Call (.Attribute (.Name x p) "pop" p1) [] [] p2) pos) (sPop i) :=
  PS.mono (ps_expr (pe_bm0 PySem.F.plainAttrs_list PySem.F.slot_list_pop PySem.F.type_list_pop mt_pop (pe_var hN hv hd hcd) hbase hline) hs) fun _ _ _ => pop_red hm
/-- x.extend(e), x own, its items read alone -/
theorem extend_red {D : Ends} {σ : St} {H : Hp} (hm : C.Γ[i]? = some (.ow .im)) (h : tS X.K C rm (sExtend i fe) D σ H) : tDrop (tBM X.K "list" rExtendR (tVar i) (tCons (tE X.K C .im fe) tNil)) D σ H := by
  obtain ⟨Hm, F, ρ, r, q⟩ := h
  unfold sExtend at q
  split at q
  · rename_i ds0 e0
    obtain ⟨a, xs0, g0, h1, h2, _, _, _⟩ := r.own e0 hm
    refine ⟨.ref a, h1, .inl ⟨rfl, xs0, .of h2⟩, Hm, F, ρ, r, q.bind.imp fun p hq v Hm1 H1 F1 g1 s1 r1 x1 => ?_⟩
    obtain ⟨d, ρ1⟩ := p
    have hq : fin X.K C Hm H F (match ρ1[i]?, d with
      | some (some (.lst ds)), .lst es => if ds.length + es.length ≤ LINE then Rs.ok (Fl.next, ρ1.set i (some (.lst (ds ++ es)))) else .bad
      | _, _ => .bad) _ := hq
    split at hq
    · rename_i ds es e1 old
      obtain ⟨a', xs, g, h3, h4, hall, hF, hag⟩ := r1.own e1 hm
      rw [h1] at h3
      cases h3
      split at hq
      · rename_i hl
        have x2 := x1.of_im
        cases x2 with
        | @lst b zs _ y1 y2 =>
          have e2 : g = [] := (all_im hall).2
          subst e2
          obtain ⟨r2, s2⟩ := r1.put_items (ys := xs ++ zs) (es := ds ++ es) (g' := []) s1 hm h1 h4 hF hag (im_all (DtA.append (all_im hall).1 y2)) (fun b hb => hb) .nil
          exact ⟨a, b, xs, zs, rfl, rfl, h4, Same.rd r1.sub y1, by rw [line_eq, hall.length, y2.length]; exact hl, hq Hm1 _ _ σ s2 r2⟩
      · exact hq.elim
    · exact hq.elim
  · exact q.elim
theorem vs_extend (h : VE X C .im e fe) (hm : C.Γ[i]? = some (.ow .im) := by rfl) (hN : X.N[i]? = some x := by rfl) (hv : Vis X.env.scope x := by first | exact Or.inl rfl | exact Or.inr (Or.inl rfl) | exact Or.inr (Or.inr rfl))
    (hd : (x == ("__debug__" : Str)) = false := by decide) (hcd : (x == ("__classdict__" : Str)) = false := by decide)
    (he : starEach [e] X.env = (false, eval e X.env) :: starEach [] X.env := by rfl) (hbase : attributeBase (.Name x p) "extend" X.env (eval (.Name x p) X.env) = eval (.Name x p) X.env := by rfl)
    (hfew : ((backTo p2 (starEach [e] X.env)).all (fun x => !x.1) && (backToKw p2 (keywordEach [] X.env)).all (fun x => x.1.isSome)
      && decide ([e].length + ([] : List Keyword).length + (if ([] : List Keyword).isEmpty then 0 else 1) < 30)) = true := by rfl)
    (hline : (p1.endLine == p2.line) = true := by rfl) (hpl : (backTo p2 (starEach [] X.env)).any (·.1) = false := by rfl)
    (hs : swapsWith (.Call (.Attribute (.Name x p) "extend" p1) [e] [] p2) none pos.line X.env = pure false := by rfl) :
    VS X C rm (.Expr (.Call (.Attribute (.Name x p) "extend" p1) [e] [] p2) pos) (sExtend i fe) :=
  PS.mono (ps_expr (pe_bm PySem.F.plainAttrs_list PySem.F.slot_list_extend PySem.F.type_list_extend mt_extendR (pe_var hN hv hd hcd) (pa_cons h pa_nil he) hbase hfew hline he hpl) hs) fun _ _ _ => extend_red hm
end
end VL

set_option Elab.async false
set_option linter.all false
set_option maxRecDepth 100000
set_option maxHeartbeats 4000000
/-! V18: f-strings. -/
namespace VL
open PySem PySem.Spec L2
section
variable {X : Cx} {C : Ct} {σ : St} {Q : VK}
abbrev VJ (X : Cx) (C : Ct) (es : List Expr) (fs : List EF) : Prop := PJ X es (fs.map fun f => tFmt (tE X.K C .im f))
theorem vj_nil : VJ X C [] [] := PJ.nil
theorem vj_cons {e : Expr} {pos : Pos} {es : List Expr} {f : EF} {fs : List EF} (h : VE X C .im e f) (r : VJ X C es fs) : VJ X C (.FormattedValue e (-1) none pos :: es) (f :: fs) := PJ.cons (pe_fmt h) r
theorem redJ {Hm0 H0 : Hp} {F0 : Fps} : ∀ (fs : List EF) (acc : Str) {Hm H : Hp} {F : Fps} {ρ : En}, Step Hm0 H0 F0 Hm H F → Rel X.K C Hm H F σ ρ → fin X.K C Hm H F (eJ fs acc ρ) (OkE X.K C .im Hm0 H0 F0 σ Q) → tJs (fs.map fun f => tFmt (tE X.K C .im f)) acc σ H fun out H1 => Q (.str out) H1
  | [], acc, Hm, H, F, ρ, s, r, q => endE (κ := .im) q s r (Grow.refl r.sub) (Res.im (.str acc))
  | f :: fs, acc, Hm, H, F, ρ, s, r, q => by
    refine ⟨Hm, F, ρ, r, q.bind.imp fun p hq v Hm1 H1 F1 g1 s1 r1 x1 => ?_⟩
    obtain ⟨a2, ea, hz⟩ := (hq.step s1).bind.of
    have hd := x1.of_im
    revert ea hd
    cases hp : p.1 with
    | str y =>
      intro ea hd
      have ea : (if y.length ≤ 16777216 ∧ acc.length + y.length ≤ 16777216 then some (acc ++ y) else none) = some a2 := ea
      by_cases hl : y.length ≤ 16777216 ∧ acc.length + y.length ≤ 16777216
      · rw [if_pos hl] at ea
        cases ea
        cases hd
        exact .inl ⟨y, rfl, hl.1, y, rfl, by rw [strLen_append]; exact hl.2, redJ fs _ (s.trans s1) r1 hz⟩
      · rw [if_neg hl] at ea; cases ea
    | int i =>
      intro ea hd
      have ea : (if shortI i = true ∧ acc.length + (strI i).length ≤ 16777216 then some (acc ++ strI i) else none) = some a2 := ea
      by_cases hl : shortI i = true ∧ acc.length + (strI i).length ≤ 16777216
      · rw [if_pos hl] at ea
        cases ea
        cases hd
        have e : strI i = (toString i : Str) := by unfold strI; rfl
        rw [e] at hl hz
        exact .inr ⟨i, rfl, of_decide_eq_true hl.1, _, rfl, by rw [strLen_append]; exact hl.2, redJ fs _ (s.trans s1) r1 hz⟩
      · rw [if_neg hl] at ea; cases ea
    | non => intro ea; cases ea
    | bl b => intro ea; cases ea
    | lst ds => intro ea; cases ea
    | tup ds => intro ea; cases ea
    | dct ds => intro ea; cases ea
    | obj c ds => intro ea; cases ea
/-- f'..' of two parts or more -/
theorem ve_fs {e1 e2 : Expr} {es : List Expr} {fs : List EF} {pos : Pos} (h : VJ X C (e1 :: e2 :: es) fs) : VE X C .im (.JoinedStr (e1 :: e2 :: es) pos) (eFs fs) :=
  PE.mono (pe_joined h) fun σ H Q ⟨Hm, F, ρ, r, q⟩ => redJ fs Str.empty .refl r q
end
section
variable {X : Cx} {K : PySem.W.Frag}
def rIntT : List V → Hp → VK → Prop := fun xs H Q => ((∃ i, xs = [.int i] ∧ Q (.int i) H) ∨ ∃ k, xs = [.bl k] ∧ Q (.int (if k then 1 else 0)) H) ∨ ∃ a n, xs = [.str a] ∧ PySem.intText? a = some n ∧ a.length ≤ 640 ∧ Q (.int n) H
theorem call_intT : CallR X (.type "int") rIntT := fun pins s σ H xs us Q I r h => h.elim (fun h => call_int1 pins s σ H xs us Q I r h) fun h => call_int_str pins s σ H xs us Q I r h
theorem prim_intT : PrimN K rIntT intTD .im := by
  intro G H xs ds z Q s h hz q
  cases h with
  | nil => cases hz
  | @cons v vs d ds h1 h2 =>
    cases h2 with
    | cons => cases d <;> cases hz
    | nil =>
      cases h1 with
      | int i => cases hz; exact .inl (.inl ⟨i, rfl, q _ G H [] (Grow.refl s) (Res.im (.int _))⟩)
      | bl k => cases hz; exact .inl (.inr ⟨k, rfl, q _ G H [] (Grow.refl s) (Res.im (.int _))⟩)
      | str a =>
        have hz : (if a.length ≤ 640 then (PySem.intText? a).map D.int else none) = some z := hz
        by_cases hl : a.length ≤ 640
        · rw [if_pos hl] at hz
          obtain ⟨n, hn, e⟩ := Option.map_eq_some_iff.mp hz
          cases e
          exact .inr ⟨a, n, rfl, hn, hl, q _ G H [] (Grow.refl s) (Res.im (.int _))⟩
        · rw [if_neg hl] at hz; cases hz
      | _ => cases hz
theorem prim_inS : Prim2 K (fun x y H Q => ∃ (c : Nat) (z : Str), x = .str ⟨#[c]⟩ ∧ y = .str z ∧ Q (.bl (decide (c ∈ z.cps.toList))) H) inS .im := by
  intro G H x y d e z Q s hx hy hz q
  cases hx with
  | str i =>
    cases hy with
    | str j =>
      have hz : (match i.cps.toList with | [c] => some (D.bl (decide (c ∈ j.cps.toList))) | _ => none) = some z := hz
      split at hz
      · rename_i c hc
        cases hz
        have e : i = ⟨#[c]⟩ := by
          cases i with
          | mk a =>
            congr 1
            exact Array.toList_inj.mp hc
        subst e
        exact ⟨c, j, rfl, rfl, q _ G H [] (Grow.refl s) (Res.im (.bl _))⟩
      · cases hz
    | _ => cases hz
  | _ => cases hy <;> cases hz
end
end VL

set_option Elab.async false
set_option linter.all false
set_option maxRecDepth 100000
set_option maxHeartbeats 4000000
/-! V19: dicts, read. -/
namespace VL
open PySem PySem.Spec L2
section
variable {K : PySem.W.Frag} {H : Hp}
theorem DtK.get {k : Key} : ∀ {kvs : List (Key × V)} {kds : List (Key × D)}, DtK K H kvs kds → (∀ d, valD kds k = some d → ∃ v, valV kvs k = some v ∧ Dt K H v d) ∧ (valD kds k).isSome = (valV kvs k).isSome
  | _, _, .nil => ⟨(fun d h => by cases h), rfl⟩
  | (k1, v) :: kvs, (_, d) :: kds, .cons a b => by
    obtain ⟨h1, h2⟩ := DtK.get b
    by_cases e : k1 = k
    · have e1 : valD ((k1, d) :: kds) k = some d := by simp [valD, List.find?_cons, e]
      rw [e1, valV_pos (p := (k1, v)) e]
      exact ⟨fun d' z => ⟨v, rfl, by cases z; exact a⟩, rfl⟩
    · have e1 : valD ((k1, d) :: kds) k = valD kds k := by simp [valD, List.find?_cons, e]
      rw [e1, valV_neg (p := (k1, v)) e]
      exact ⟨h1, h2⟩
theorem keyD_of {y : V} {e : D} {k : Key} (h : Dt K H y e) (hk : keyD e = some k) : y = kV k := by
  cases h <;> cases hk <;> rfl
def rDGet : R2 := fun x y H Q => ∃ a v, x = .ref a ∧ DGet H a y (some v) ∧ Q v H
theorem prim_dGet : Prim2 K rDGet dGet .im := by
  intro G H x y d e z Q s hx hy hz q
  cases hx with
  | dct h1 h2 =>
    obtain ⟨k, hk, hv⟩ := Option.bind_eq_some_iff.mp hz
    obtain ⟨v, h3, h4⟩ := (DtK.get h2).1 z hv
    have ey := keyD_of hy hk
    subst ey
    refine ⟨_, v, rfl, .inl ⟨_, k, Same.rd s h1, rfl, h3.symm⟩, q v G H [] (Grow.refl s) (Res.im h4)⟩
  | _ => cases hz
end
section
variable {X : Cx} {C : Ct} {a b : Expr} {fa fb : EF} {pa pb : PF} {pos : Pos}
theorem ve_dget (hu : X.A.units + 1 < cLine) (ha : VE X C .im a fa) (hb : VE X C .im b fb) (hs : NoSl b := by exact fun _ _ => rfl) : VE X C .im (.Subscript a b pos) (eOp2 dGet fa fb) := PE.mono (pe_dget hu ha hb hs) fun _ _ _ => red2 prim_dGet
theorem vp_dget (hu : X.A.units + 1 < cLine) (ha : VP X C a pa) (hb : VP X C b pb) (hs : NoSl b := by exact fun _ _ => rfl) : VP X C (.Subscript a b pos) (pOp2 dGet pa pb) := PE.mono (pe_dget hu ha hb hs) fun _ _ _ => redP2 prim_dGet
end
end VL

set_option Elab.async false
set_option linter.all false
set_option maxRecDepth 100000
set_option maxHeartbeats 4000000
/-! V20: calls with keywords; x[:] = y; slices with a step; divmod. -/
namespace VL
open PySem PySem.Spec PyProof.Rows L2
/-! ### f(k = v, ..) -/
/-- a def of the top, and how it may be called by keywords alone -/
def Ck (P : Program) (w : World) (K : PySem.W.Frag) (mg : Str → Option Value) (base : Heap) (k : Nat) (x : Str) (n : Nat) (rm : Md) (f : FF) (ks : List Str) (π : List Nat) : Prop :=
  ∃ (fa : Addr) (fd : FuncData) (ps : List Str), FnG P w K mg base k fa fd ps (spV EW0 K (List.replicate n .im) rm f) ∧ mg x = some (.ref fa) ∧ PySem.W.keepIn K (.ref fa) = true ∧ KwOk K fd ps ks 0 π
theorem kw_ok {K : PySem.W.Frag} {x qual : Str} {params : Arguments} {body : List Stmt} {scope : Scope} {f : Addr} {fd : FuncData} {ps ks : List Str} {n : Nat} {π : List Nat} (F : FunD K x qual params body scope [] [] f fd)
    (h : ∀ (kV doc pm : Value) (an : Option Addr) (cdv ct : Value) (us ws zs : List Value), us.length = n → ws.length = ks.length → π.map ((us ++ ws)[·]?) = zs.map some → bindArgs (PySem.W.fnOf x qual params body scope .none kV doc pm an cdv ct) ⟨us, ks.zip ws⟩ = pure (ps.zip zs)) : KwOk K fd ps ks n π := by
  obtain ⟨oc, od, dV, kV, doc, pm, an, cdv, ct, osl, rfl, lk, hcd, hD, hK⟩ := F.ex
  rcases hD with ⟨_, rfl⟩ | ⟨e, _⟩
  · intro s us ws zs _ h1 h2 h3 _
    exact .of_eq (h kV doc pm an cdv ct us ws zs h1 h2 h3)
  · exact absurd rfl e
section
variable {X : Cx} {C : Ct} {e : Expr} {kws : List Keyword} {n : Nat} {f : EF} {fs : List EF} {nm : Option Str} {kpos : Pos}
theorem vk_nil : PK X [] (tA X.K C 0 (eArgs [])) := ⟨fun pos pins s σ H Q I h => pk_nil.run pos pins s σ H Q I (by
  obtain ⟨Hm, F, ρ, r, q⟩ := h
  exact q [] Hm H F .refl r .nil rfl)⟩
theorem vk_cons (h1 : VE X C .im e f) (h2 : PK X kws (tA X.K C n (eArgs fs))) : PK X (⟨nm, e, kpos⟩ :: kws) (tA X.K C (n + 1) (eArgs (f :: fs))) := ⟨fun pos pins s σ H Q I h => (pk_cons h1 h2).run pos pins s σ H Q I (by
  obtain ⟨Hm, F, ρ, r, q⟩ := h
  refine ⟨Hm, F, ρ, r, q.bind.imp fun p hq v Hm1 H1 F1 g1 s1 r1 x1 => ?_⟩
  refine ⟨Hm1, F1, p.2, r1, (hq.step s1).bind.imp fun p2 hq2 vs Hm2 H2 F2 s2 r2 x2 hn => ?_⟩
  exact hq2 (v :: vs) Hm2 H2 F2 (s1.trans s2) r2 (.cons (Dt.mono s2.sm _ x1.of_im) x2) (by rw [List.length_cons, hn]))⟩
end
section
variable {X : Cx} {C : Ct} {k : Nat} {fa : Addr} {fd : FuncData} {ps ks : List Str} {sp : Sp} {x : Str} {p pos : Pos} {π : List Nat}
theorem run_gk {pins : List (Addr × Obj)} {σ : L2.St} {H : Hp} {s : Shared} {Q : VK} {ws : List Value} {zs ys : List V} (F : FnG X.prog X.w X.K X.mg X.base k fa fd ps sp) (hr : RoomG k X.A) (hb : KwOk X.K fd ps ks 0 π)
    (I : Inv X pins σ H s) (hl : zs.length = ks.length) (rz : Vals zs ws) (hz : π.map (zs[·]?) = ys.map some) (h : sp ys H Q E0) : wpAny (model X.prog X.w) X.A (call (.ref fa) [] (ks.zip ws)) (EP X pins σ Q) X.xe s := by
  obtain ⟨us, h1, h2⟩ := perm_vals rz hz
  have h3 : us.length = ps.length := by rw [← h2.length]; exact F.ar _ _ _ _ h
  have hbs := hb s [] ws us I.kIn rfl (by rw [← rz.length]; exact hl) h1 h3
  refine wpAny_call (codeAny_mono (F.go X.A X.stack s H _ us ys Q E0 hr I.env0 hbs h2 h) fun r s' hq => ?_)
  cases r with
  | error e => exact pass0 pins σ H s e s' I hq
  | ok fl =>
    cases fl with
    | ret u => exact I.after hq
    | _ => exact False.elim hq
theorem args_im {K : PySem.W.Frag} {Hm H : Hp} : ∀ {vs : List V} {ds : List D}, DtA K Hm vs ds → ArgsOk K Hm H (List.replicate vs.length .im) vs ds []
  | _, _, .nil => .nil
  | _, _, .cons h t => .im h (args_im t)
theorem callK_red {σ : L2.St} {H : Hp} {Q : VK} {rm : Md} {f : FF} {fs : List EF} {n m : Nat} (hm : π.length = m) (h : tE X.K C rm (eCallK f π fs) σ H Q) :
    tA X.K C n (eArgs fs) σ H fun zs H1 => zs.length = n ∧ ∃ ys, π.map (zs[·]?) = ys.map some ∧ spV EW0 X.K (List.replicate m .im) rm f ys H1 Q E0 := by
  obtain ⟨Hm, F, ρ, rl, q⟩ := h
  refine ⟨Hm, F, ρ, rl, q.bind.imp fun p hp vs Hm1 H1 F1 s1 r1 x1 hn => ⟨hn, ?_⟩⟩
  obtain ⟨ds, ed, hq⟩ := hp.bind.of
  obtain ⟨ys, h1, h2⟩ := perm_dt x1 ed
  have hy : ys.length = m := by
    have := congrArg List.length h1
    rw [List.length_map, List.length_map] at this
    omega
  refine ⟨ys, h1, Hm1, ds, [], r1.sub, r1.tp, r1.fz, by rw [← hy]; exact args_im h2, ?_⟩
  cases ef : f ds with
  | bad => rw [ef] at hq; exact hq.elim
  | err x ρ => rw [ef] at hq; exact hq.elim
  | ok r =>
    rw [ef] at hq
    intro v Hm' H' g bk xv
    obtain ⟨r2, s2⟩ := back_rel (is := []) r1 .nil List.nodup_nil (fun _ z => by cases z) bk.st bk.sub bk.tp bk.fz bk.rf (fun _ _ z => by cases z)
    refine hq v Hm' H' F1 g (s1.trans s2) r2 ⟨xv.rd, xv.nd, xv.un, fun a ha i hi => ?_, fun a ha => s1.dm a (xv.nw a ha)⟩
    obtain ⟨o, ho⟩ := r1.bd i a hi
    rw [xv.nw a ha] at ho; cases ho
/-- f(k = v, ..) -/
theorem ve_callK {rm : Md} {f : FF} {fs : List EF} {kws : List Keyword} {n m j : Nat} (c : Ck X.prog X.w X.K X.mg X.base k x m rm f ks π) (hr : RoomG j X.A) (hk : k ≤ j) (hkw : PK X kws (tA X.K C n (eArgs fs))) (hm : π.length = m := by rfl) (hn : n = ks.length := by rfl)
    (hall : (backToKw pos (keywordEach kws X.env)).all (·.1.isSome) = true := by rfl) (hks : (backToKw pos (keywordEach kws X.env)).filterMap (·.1) = ks := by rfl)
    (hg : Gl X x := by rfl) (hdb : (x == ("__debug__" : Str)) = false := by decide)
    (hpl : ((backTo pos (starEach [] X.env)).any (·.1) || (backToKw pos (keywordEach kws X.env)).any (·.1.isNone)) = false := by rfl) : VE X C rm (.Call (.Name x p) [] kws pos) (eCallK f π fs) := by
  obtain ⟨fa, fd, ps, F, hmg, kp, b⟩ := c
  refine ⟨fun pins s σ H Q I h => ?_⟩
  refine wpAny_Call_Name_kw (ld_glob I hg hmg ?_ hdb)
  refine PySem.W.callWith_KW0 (h₀ := X.base) I.ok.mod.kin kp hall (thn (hkw.run pos pins s σ H _ I (callK_red hm h)) fun ws s1 ⟨zs, H1, I1, rz, hl, ys, hz, hs⟩ => ⟨I1.kIn, ?_⟩) hpl
  rw [hks]
  exact run_gk F (hr.mono hk) b I1 (by rw [hl, hn]) rz hz hs
end
end VL

namespace VL
open PySem PySem.Spec PyProof.Rows L2
/-! ### x[:] = y, y a new list -/
section
variable {prog : Program} {w : World} {A : Around} {E : Value → Shared → Prop} {s : Shared}
theorem bounds_all (n : Nat) : sliceBounds none none none n = (0, (n : Int), 1) := by
  simp [sliceBounds]
theorem splice_all (its its2 : List Value) : its.toArray.extract 0 0 ++ its2.toArray ++ its.toArray.extract its.toArray.size its.toArray.size = its2.toArray := by
  apply Array.toList_inj.mp
  simp
set_option maxRecDepth 100000 in
theorem setItem_all {l b sl : Addr} {items new : Array Value} {n n2 : Nat} {Q : Unit → Shared → Prop}
    (e : s.heap.get? l = some { cls := .type "list", data := .seq items n }) (e2 : s.heap.get? b = some { cls := .type "list", data := .seq new n2 }) (hne : l ≠ b) (hs : s.heap.IsSliceOf sl .none .none .none) (hsz : items.size + new.size ≤ sizeLine)
    (h : Q () { s with heap := s.heap.update l (Obj.mapSeq fun xs => xs.extract 0 0 ++ new ++ xs.extract items.size xs.size) }) : wpAny (model prog w) A (setItem (.ref l) (.ref sl) (.ref b)) Q E s := by
  have hl : s.heap.IsList l items := PySem.IsL.isList e
  have hb : s.heap.IsList b new := PySem.IsL.isList e2
  obtain ⟨os, hos, hcs, hds⟩ := id hs
  have hTs : s.TypeIs (.ref sl) "slice" := ⟨os, hos, hcs⟩
  have hstep : ¬ ((rawPart none == rawInt 0) = true) := Bool.false_ne_true
  have hsame : Builtin.List.listSameRef (.ref l) (.ref b) = false := by unfold Builtin.List.listSameRef; exact beq_eq_false_iff_ne.mpr hne
  have hmax : (max (0 : Int) (items.size : Int)).toNat = items.size := by omega
  have hz' : ((fun xs : Array Value => xs.extract 0 0 ++ new ++ xs.extract items.size xs.size) items).size ≤ sizeLine + 1 := by simp only [Array.size_append, Array.size_extract]; omega
  unfold setItem
  try with_reducible refine wpAny_holding ?_
  first | refine wpAny_bind (wpAny_pure ?_) | skip
  refine wpAny_bind (wpAny_sequenceKey hl.typeIs (by decide) ?_)
  refine wpAny_bind (wpAny_callSpecial?_slot (name := Str.ofString "__setitem__") hl.typeIs slot_list_setitem (wpAny_call_entry slot_list_setitem hl.typeIs entry_list_setitem ?_ (args_list_setitem _ _ _)))
  show wpAny _ _ (Builtin.List.listSubscript? (.ref sl) >>= _) _ _ s
  refine wpAny_bind ?_
  unfold Builtin.List.listSubscript?
  refine wpAny_bind (wpAny_specialOf hTs slice_no_index ?_)
  simp only [Option.isNone_none, if_true]
  refine wpAny_pure ?_
  show wpAny _ _ (typeOf (.ref sl) >>= _) _ _ s
  refine wpAny_bind (wpAny_typeOf hTs ?_)
  first | rw [if_neg (by decide)] | refine PySem.W.KFB.if_not (by decide) ?_
  rw [listSliceParts_eq]
  refine wpAny_bind (wpAny_bind (wpAny_field hos hds (x := .none) rfl (wpAny_bind (wpAny_listPart .none ?_))))
  rw [if_neg hstep]
  refine wpAny_bind (wpAny_field hos hds (x := .none) rfl (wpAny_bind (wpAny_listPart .none ?_)))
  refine wpAny_bind (wpAny_field hos hds (x := .none) rfl (wpAny_bind (wpAny_listPart .none (wpAny_pure ?_))))
  first | simp only [hsame, Bool.false_eq_true, if_false] | refine PySem.W.KFB.if_not hsame ?_ | (dsimp only; rw [if_neg (by rw [hsame]; exact Bool.false_ne_true)])
  refine wpAny_bind (m := Builtin.List.listAllItems (.ref b) "must assign iterable to extended slice") ?_
  unfold Builtin.List.listAllItems
  refine wpAny_bind (wpAny_typeOf hb.typeIs ?_)
  first | refine PySem.W.KFB.if_so (by decide) ?_ | rw [if_pos (by decide)] | simp only [beq_self_eq_true, Bool.true_or, if_true]
  unfold Builtin.List.listItems
  refine wpAny_bind (wpAny_seqItems e2 rfl (wpAny_pure ?_))
  refine wpAny_bind (wpAny_bind (wpAny_seqItems e rfl (wpAny_pure ?_)))
  refine wpAny_bind (wpAny_of_eq ((sliceIndices_raw none none none items.size (by simp)).trans (congrArg (pure : Int × Int × Int → Sem (Int × Int × Int)) (bounds_all items.size))) ?_)
  show wpAny _ _ (if ((1 : Int) == 1) = true then _ else _) _ _ s
  rw [if_pos (by decide)]
  refine wpAny_bind (wpAny_rule ?_)
  first | simp only [notLongL hsz, Bool.false_eq_true, if_false] | refine PySem.W.KFB.if_not (notLongL hsz) ?_
  first | refine wpAny_bind (wpAny_pure ?_) | skip
  show wpAny _ _ (updateSeq l (fun xs => xs.extract 0 ((0 : Int)).toNat ++ new ++ xs.extract (max (0 : Int) (items.size : Int)).toNat xs.size) >>= _) _ _ s
  rw [hmax, show ((0 : Int)).toNat = 0 from rfl]
  refine wpAny_bind (wpAny_updateSeq (hz := Nat.le_trans (Nat.le_add_right _ _) hsz) (_hz' := hz') e rfl ?_)
  refine wpAny_bind (wpAny_letGo ?_)
  first | exact wpAny_bind (wpAny_pure (wpAny_pure ⟨.none, rfl, wpAny_pure h⟩)) | exact wpAny_pure ⟨.none, rfl, wpAny_pure h⟩
end
section
variable {X : Cx} {C : Ct} {i : Nat} {x : Str} {e : Expr} {fe : EF} {k rm : Md} {p p1 p2 pos : Pos}
def gAllS (i : Nat) : TG := fun v σ H Q => ∃ l b xs ys, σ[i]? = some (some (.ref l)) ∧ v = .ref b ∧ l ≠ b ∧ H l = some (.lst xs) ∧ H b = some (.lst ys) ∧ xs.length + ys.length ≤ sizeLine ∧ Q σ (upd H l (.lst ys))
theorem pg_all (hN : X.N[i]? = some x) (hv : Vis X.env.scope x) (hd : (x == ("__debug__" : Str)) = false) (hcd : (x == ("__classdict__" : Str)) = false)
    (ha : ∀ v, assign (.Subscript (.Name x p) (.Slice none none none p1) p2) X.env v = (do
      let ov ← holding [v] (eval (.Name x p) X.env)
      let iv ← holding [v, ov] (eval (.Slice none none none p1) X.env)
      standAt p2
      holding [v, ov, iv] (setItem ov iv v)
      release [iv, v, ov] [])) : PG X (.Subscript (.Name x p) (.Slice none none none p1) p2) (gAllS i) := by
  refine ⟨fun pins s σ H v u Q I r h => ?_⟩
  obtain ⟨l, b, xs, ys, hσ, rfl, hne, hl, hb, hz, q⟩ := h
  cases r
  rw [ha]
  refine wpAny_bind (wpAny_holding (thn ((pe_var hN hv hd hcd).run pins s σ H (fun x H1 => x = .ref l ∧ H1 = H) I ⟨_, hσ, rfl, rfl⟩) fun ov s1 ⟨x, H1, I1, r1, e1, e2⟩ => ?_))
  subst e1 e2
  cases r1
  refine wpAny_bind (wpAny_holding (wpAny_Slice ?_))
  rw [evalPart_none]
  refine wpAny_pure (wpAny_pure (wpAny_pure ?_))
  have I2 : Inv X pins σ H1 { s1 with heap := s1.heap.push { cls := .type "slice", data := .fields #[.none, .none, .none] } } := I1.kept (t' := s1.toks) fun b ob q => Heap.get?_push_of_some _ q
  obtain ⟨_, its, n, r3, hl2, e3⟩ := I2.lstM hl
  obtain ⟨_, its2, n2, r4, hl4, e4⟩ := I2.lstM hb
  refine wpAny_bind (wpAny_standAt (wpAny_bind (wpAny_holding (setItem_all e3 e4 hne (Heap.IsSliceOf.new ..) (by rw [List.size_toArray, List.size_toArray]; omega) ?_))))
  refine wpAny_release ⟨σ, _, ?_, q⟩
  refine I2.lset (its' := its2) (t' := s1.toks) hl e3 (splice_all its its2) r4 ?_
  omega
theorem setall_red {D : Ends} {σ : L2.St} {H : Hp} (hm : C.Γ[i]? = some (.ow k)) (h : tS X.K C rm (sSetAll i fe) D σ H) : tAsg (tE X.K C (.ow k) fe) (gAllS i) D σ H := by
  obtain ⟨Hm, F, ρ, r, q⟩ := h
  refine ⟨Hm, F, ρ, r, q.bind.imp fun p hq v Hm1 H1 F1 g1 s1 r1 x1 => ?_⟩
  obtain ⟨d, ρ1⟩ := p
  have hq : fin X.K C Hm H F (match ρ1[i]?, d with
    | some (some (.lst ds)), .lst es => if ds.length + es.length ≤ LINE then Rs.ok (Fl.next, ρ1.set i (some (.lst es))) else .bad
    | _, _ => .bad) _ := hq
  split at hq
  · rename_i ds es e0 _
    split at hq
    · rename_i hz
      obtain ⟨a, xs, g, h1, h2, hall, hF, hag⟩ := r1.own e0 hm
      obtain ⟨b, hb, h3⟩ := x1.rd
      rcases h3 with ⟨ys, es', g', ee, hob, hall2, rfl⟩ | ⟨_, _, _, ee, _⟩ | ⟨_, _, _, _, _, _, ee, _⟩
      · cases ee
        subst hb
        have nd1 := List.nodup_cons.mp x1.nd
        have hna : ∀ c ∈ b :: g', c ≠ a := fun c hc z => by subst z; exact x1.ap c hc i (by rw [hF]; exact List.mem_cons_self)
        refine ⟨a, b, xs, ys, h1, rfl, fun z => hna b List.mem_cons_self z.symm, h2, hob, by rw [hall.length, hall2.length]; exact hz, ?_⟩
        have sub : ∀ c, c ∈ a :: g' → c = a ∨ c ∈ b :: g' := fun c hc => (List.mem_cons.mp hc).imp id (List.mem_cons_of_mem _)
        have r3 := r1.rew (a := a) (o := .lst ys) (g := a :: g') (d := .lst es) hm h1 (by rw [hF]; exact List.mem_cons_self)
          ⟨a, rfl, .inl ⟨_, _, g', rfl, upd_same, hall2.imp fun v d gx hgx hh => hh.step (Same.refl _) fun c hc o ho => by
            rw [upd_ne (hna c (List.mem_cons_of_mem _ (hgx c hc)))]
            exact ho, rfl⟩⟩
          (List.nodup_cons.mpr ⟨fun z => hna a (List.mem_cons_of_mem _ z) rfl, nd1.2⟩)
          (fun c hc => (sub c hc).elim (fun z => by subst z; exact r1.un i c (by rw [hF]; exact List.mem_cons_self)) (x1.un c))
          (fun c hc j hj hcj => (sub c hc).elim (fun z => by subst z; exact hj (r1.dj j i c hcj (by rw [hF]; exact List.mem_cons_self))) fun z => x1.ap c z j hcj)
          (fun c hc => (sub c hc).imp (fun z => by subst z; rw [hF]; exact List.mem_cons_self) fun z => r.he c (x1.nw c z)) (fun _ z => by cases z) (fun _ _ z => by cases z)
        exact hq Hm1 _ _ σ (s1.rew (by rw [hF]; exact List.mem_cons_self) ⟨_, h2⟩ fun c hc => (sub c hc).imp (fun z => by subst z; rw [hF]; exact List.mem_cons_self) (x1.nw c)) r3
      · cases ee
      · cases ee
    · exact hq.elim
  · exact hq.elim
/-- x[:] = e -/
theorem vs_setall (h : VE X C (.ow k) e fe) (hm : C.Γ[i]? = some (.ow k) := by rfl) (hN : X.N[i]? = some x := by rfl) (hv : Vis X.env.scope x := by first | exact Or.inl rfl | exact Or.inr (Or.inl rfl) | exact Or.inr (Or.inr rfl))
    (hd : (x == ("__debug__" : Str)) = false := by decide) (hcd : (x == ("__classdict__" : Str)) = false := by decide)
    (ha : ∀ v, assign (.Subscript (.Name x p) (.Slice none none none p1) p2) X.env v = (do
      let ov ← holding [v] (eval (.Name x p) X.env)
      let iv ← holding [v, ov] (eval (.Slice none none none p1) X.env)
      standAt p2
      holding [v, ov, iv] (setItem ov iv v)
      release [iv, v, ov] []) := by intro _; rfl)
    (hs : swapsWithSole [.Subscript (.Name x p) (.Slice none none none p1) p2] e pos.line X.env = pure false := by rfl) (hw : swappedStores [.Subscript (.Name x p) (.Slice none none none p1) p2] e X.env = pure none := by rfl)
    (h1 : (assignEach [.Subscript (.Name x p) (.Slice none none none p1) p2] X.env).map (·.2) = [assign (.Subscript (.Name x p) (.Slice none none none p1) p2) X.env] := by rfl) :
    VS X C rm (.Assign [.Subscript (.Name x p) (.Slice none none none p1) p2] e pos) (sSetAll i fe) :=
  PS.mono (ps_asg h (pg_all hN hv hd hcd ha) hs hw h1) fun _ _ _ => setall_red hm
end
/-! ### x[::k], k > 0 -/
section
theorem bounds_step {k : Int} (n : Nat) (h : 0 < k) : sliceBounds none none (some k) n = (0, (n : Int), k) := by
  simp [sliceBounds, h]
theorem pick_step {k : Int} (items : List Value) (h : 0 < k) : slicePick items.toArray none none (some k) = (stepL items k).toArray := by
  unfold slicePick stepL
  rw [List.size_toArray, bounds_step _ h]
  have e : (fun j : Nat => items.toArray[j]?) = fun j => items[j]? := by funext j; simp
  rw [e]
theorem filt_vals {vs : List V} {us : List Value} (h : Vals vs us) : ∀ js : List Nat, Vals (js.filterMap (vs[·]?)) (js.filterMap (us[·]?))
  | [] => .nil
  | j :: js => by
    cases hj : vs[j]? with
    | none =>
      have : us[j]? = none := by
        rw [List.getElem?_eq_none_iff] at hj ⊢
        rw [← h.length]; exact hj
      rw [List.filterMap_cons_none hj, List.filterMap_cons_none this]
      exact filt_vals h js
    | some v =>
      obtain ⟨u, h1, h2⟩ := h.get hj
      rw [List.filterMap_cons_some hj, List.filterMap_cons_some h1]
      exact .cons h2 (filt_vals h js)
theorem filt_dt {K : PySem.W.Frag} {G : Hp} {vs : List V} {ds : List D} (h : DtA K G vs ds) : ∀ js : List Nat, DtA K G (js.filterMap (vs[·]?)) (js.filterMap (ds[·]?))
  | [] => .nil
  | j :: js => by
    cases hj : ds[j]? with
    | none =>
      have : vs[j]? = none := by
        rw [List.getElem?_eq_none_iff] at hj ⊢
        rw [h.length]; exact hj
      rw [List.filterMap_cons_none hj, List.filterMap_cons_none this]
      exact filt_dt h js
    | some d =>
      obtain ⟨u, h1, h2⟩ := h.get hj
      rw [List.filterMap_cons_some hj, List.filterMap_cons_some h1]
      exact .cons h2 (filt_dt h js)
theorem step_len {α : Type} (xs : List α) {k : Int} (hk : 0 < k) : (stepL xs k).length ≤ xs.length := by
  unfold stepL
  refine Nat.le_trans (List.length_filterMap_le _ _) ?_
  unfold sliceRange
  rw [List.length_map, List.length_range]
  have h1 : k > 0 := hk
  simp only [h1, if_true]
  by_cases h : (0 : Int) < xs.length
  · simp only [h, if_true]
    have := ceilDiv_le ((xs.length : Int) - 0) k (by omega) (by omega)
    omega
  · have e : xs.length = 0 := by omega
    simp [e]
end
section
variable {X : Cx} {C : Ct} {a b : Expr} {fa fb : EF} {p3 pos : Pos}
def tStep (K : PySem.W.Frag) (te ts : TE) : TE := fun σ H Q => te σ H fun x H1 => ts σ H1 fun y H2 => ∃ a xs k, x = .ref a ∧ SqL K H2 a xs ∧ y = .int k ∧ 0 < k ∧ ∀ p, H2 p = none → Q (.ref p) (upd H2 p (.lst (stepL xs k)))
theorem pe_step {te ts : TE} (he : PE X a te) (hs : PE X b ts) : PE X (.Subscript a (.Slice none none (some b) p3) pos) (tStep X.K te ts) := by
  refine ⟨fun pins s σ H Q I h => ?_⟩
  refine Subscript_ (thn (he.run pins s σ H _ I h) fun v s1 ⟨x, H1, I1, r1, q1⟩ => ?_)
  refine wpAny_Slice ?_
  rw [evalPart_none, evalPart_some]
  refine wpAny_pure (wpAny_pure (thn (hs.run pins s1 σ H1 _ I1 q1) fun vs s2 ⟨y, H2, I2, r2, q2⟩ => ?_))
  obtain ⟨l, xs, k, rfl, hx, rfl, hk, q⟩ := q2
  cases r1
  obtain ⟨t, rfl⟩ := r2
  have I5 : Inv X pins σ H2 { s2 with heap := s2.heap.push { cls := .type "slice", data := .fields #[.none, .none, .int k t] } } := I2.kept (t' := s2.toks) fun b ob q => Heap.get?_push_of_some _ q
  obtain ⟨its, r, ht, hz⟩ := I5.list hx
  have hlen := r.length
  show wpAny (model X.prog X.w) X.A (subscriptTail a (.Slice none none (some b) p3) (.ref l) (.ref s2.heap.objs.size)) (EP X pins σ Q) X.xe { s2 with heap := s2.heap.push { cls := .type "slice", data := .fields #[.none, .none, .int k t] } }
  refine tail_any (ops := [.ref l, .ref s2.heap.objs.size]) ht.isList.typeIs (PySem.slot_list_getitem.lookup) ?_ (by with_unfolding_all rfl)
  refine wpAny_getItem_list_slice ht.isList (Heap.IsSliceOf.new _ .none .none (.int k t)) .none .none (.int k t) (by simp; omega) ?_ (by rw [List.size_toArray]; omega)
  rw [pick_step its hk]
  refine ⟨.ref _, _, I5.laid (t' := s2.toks) (o := .lst (stepL xs k)) (fun b ob q => Heap.get?_push_of_some _ q) (Nat.le_refl _) ?_, rfl, q _ (I5.hok.fresh (Nat.le_refl _))⟩
  have e : stepL its k = (sliceRange 0 (xs.length : Int) k).filterMap (its[·]?) := by unfold stepL; rw [hlen]
  exact ⟨Nat.le_trans (step_len xs hk) hz, _, 0, by rw [e]; exact filt_vals r _, Heap.get?_push_size _ rfl⟩
theorem ve_step (ha : VE X C .im a fa) (hb : VE X C .im b fb) : VE X C (.ow .im) (.Subscript a (.Slice none none (some b) p3) pos) (eOp2 stepD fa fb) := by
  refine PE.mono (pe_step ha hb) fun σ H Q ⟨Hm, F, ρ, r, q⟩ => ⟨Hm, F, ρ, r, q.bind.imp fun p hq v Hm1 H1 F1 g1 s1 r1 x1 => ?_⟩
  refine ⟨Hm1, F1, p.2, r1, (hq.step s1).bind.imp fun p2 hq2 w Hm2 H2 F2 g2 s2 r2 x2 => ?_⟩
  obtain ⟨z, hz, hq3⟩ := hq2.bind.of
  have y1 := (x1.step s2).of_im
  have y2 := x2.of_im
  obtain ⟨d, ρ'⟩ := p
  obtain ⟨d2, ρ2⟩ := p2
  cases d with
  | lst ds =>
    cases d2 with
    | int k =>
      have hz : (if 0 < k then some (D.lst (stepL ds k)) else none) = some z := hz
      split at hz
      · rename_i hk
        cases hz
        cases y2
        cases y1 with
        | @lst a xs _ h1 h2 =>
          have e : stepL xs k = (sliceRange 0 (ds.length : Int) k).filterMap (xs[·]?) := by unfold stepL; rw [h2.length]
          exact ⟨a, xs, k, rfl, .inl (Same.rd r2.sub h1), rfl, hk, fun pp hp => endE hq3 (s1.trans s2) r2 (Grow.own r2.sub hp (fun _ _ z => by cases z) fun _ z => by cases z) (Res.lst r2.sub hp (by rw [e]; exact filt_dt h2 _))⟩
      · cases hz
    | _ => cases hz
  | _ => cases hz
end
section
variable {X : Cx}
/-- divmod of ints -/
theorem prim_divmod : PrimN X.K (fun xs H Q => ∃ i j, xs = [.int i, .int j] ∧ CDiv i j ∧ ∀ p, H p = none → Q (.ref p) (upd H p (.tup [.int (i / j), .int (i % j)]))) divmodD .im := by
  intro G H xs ds z Q s h hz q
  match ds, h, hz with
  | [.int i, .int j], h, hz =>
    cases h with
    | cons h1 h2 =>
      cases h2 with
      | cons h3 h4 =>
        cases h4
        cases h1
        cases h3
        have hz : (if 0 < j ∧ j < 1073741824 then some (D.tup [.int (i / j), .int (i % j)]) else none) = some z := hz
        split at hz
        · rename_i hc
          cases hz
          refine ⟨i, j, rfl, hc, fun p hp => ?_⟩
          have g := Grow.one (o := .tup [.int (i / j), .int (i % j)]) s hp fun _ _ z => by cases z
          exact q _ _ _ _ g (Res.im (.tup (.of upd_same) (.cons (.int _) (.cons (.int _) .nil))))
        · cases hz
end
end VL

set_option Elab.async false
set_option linter.all false
set_option maxRecDepth 100000
set_option maxHeartbeats 4000000
/-! V21: lists of ints in order. -/
namespace VL
open PySem PySem.Spec PyProof.Rows L2
theorem first_lex : ∀ (ns ms : List Int) (o : Nat) (e r : Nat → Bool), (∀ j (h1 : j < ns.length) (h2 : j < ms.length), e (o + j) = decide (ns[j] = ms[j]) ∧ r (o + j) = decide (ns[j] < ms[j])) →
    SeqAt.firstLt e r (decide (ns.length < ms.length)) ((List.range (min ns.length ms.length)).map (o + ·)) = lexLt ns ms
  | [], ms, o, e, r, _ => by
    cases ms with
    | nil => rfl
    | cons m ms => simp [SeqAt.firstLt, lexLt]
  | n :: ns, [], o, e, r, _ => by simp [SeqAt.firstLt, lexLt]
  | n :: ns, m :: ms, o, e, r, h => by
    have h0 := h 0 (by simp) (by simp)
    have ih := first_lex ns ms (o + 1) e r fun j h1 h2 => by
      have := h (j + 1) (by simpa using h1) (by simpa using h2)
      rw [show o + 1 + j = o + (j + 1) by omega]
      simpa using this
    have hr : (List.range (min (n :: ns).length (m :: ms).length)).map (o + ·) = o :: (List.range (min ns.length ms.length)).map (o + 1 + ·) := by
      rw [List.length_cons, List.length_cons, Nat.add_min_add_right, List.range_succ_eq_map, List.map_cons, List.map_map]
      congr 1
      refine List.map_congr_left fun k _ => ?_
      show o + (k + 1) = o + 1 + k
      omega
    have hz : decide ((n :: ns).length < (m :: ms).length) = decide (ns.length < ms.length) := by simp
    rw [hr, hz]
    show (if e o = true then _ else r o) = if n = m then lexLt ns ms else decide (n < m)
    have h1 : e o = decide (n = m) := by simpa using h0.1
    have h2 : r o = decide (n < m) := by simpa using h0.2
    rw [h1, h2, ih]
    simp only [decide_eq_true_iff]
def rLtL (K : PySem.W.Frag) : R2 := fun x y H Q => ∃ (a b : Addr) (ns ms : List Int), x = .ref a ∧ y = .ref b ∧ SqL K H a (ns.map V.int) ∧ SqL K H b (ms.map V.int) ∧ Q (.bl (lexLt ns ms)) H
theorem op_ltL {X : Cx} (hu : X.A.units < cLine) : OpR X (compareOp .Lt) (rLtL X.K) := by
  intro pins s σ H x y v u Q I rx ry h
  obtain ⟨a, b, ns, ms, rfl, rfl, ha, hb, q⟩ := h
  cases rx
  cases ry
  obtain ⟨its, r1, p1, _⟩ := I.list ha
  obtain ⟨its2, r2, p2, _⟩ := I.list hb
  have i1 : IntsAre its ns := Vals.ints r1
  have i2 : IntsAre its2 ms := Vals.ints r2
  have e1 : its.toArray.size = ns.length := by rw [List.size_toArray]; exact i1.length
  have e2 : its2.toArray.size = ms.length := by rw [List.size_toArray]; exact i2.length
  have at1 : ∀ j (h1 : j < its.toArray.size), ∃ t, its.toArray[j] = .int (ns.getD j 0) t := fun j h1 => PyProof.Rows.IntsAre.int_at i1 _ _ (by simp at h1; simp [h1])
  have at2 : ∀ j (h1 : j < its2.toArray.size), ∃ t, its2.toArray[j] = .int (ms.getD j 0) t := fun j h1 => PyProof.Rows.IntsAre.int_at i2 _ _ (by simp at h1; simp [h1])
  have R := SeqAt.RcLt.lists (A := X.A) (s := s) (e := fun j => decide (ns.getD j 0 = ms.getD j 0)) (r := fun j => decide (ns.getD j 0 < ms.getD j 0)) p1.isList p2.isList hu (fun j h1 h2 => by
    obtain ⟨t, et⟩ := at1 j h1
    obtain ⟨t', et'⟩ := at2 j h2
    rw [et, et']
    have z : (ns.getD j 0 == ms.getD j 0) = decide (ns.getD j 0 = ms.getD j 0) := by
      by_cases q : ns.getD j 0 = ms.getD j 0
      · rw [decide_eq_true q]; exact beq_iff_eq.mpr q
      · rw [decide_eq_false q]; exact beq_eq_false_iff_ne.mpr q
    rw [← z]
    exact SeqAt.EqAt.int_int _ _ _ _) (fun j h1 h2 _ => by
    obtain ⟨t, et⟩ := at1 j h1
    obtain ⟨t', et'⟩ := at2 j h2
    rw [et, et']
    exact fun _ _ _ _ h => PyProof.Rows.lt_int h)
  rw [e1, e2] at R
  have f := first_lex ns ms 0 (fun j => decide (ns.getD j 0 = ms.getD j 0)) (fun j => decide (ns.getD j 0 < ms.getD j 0)) fun j h1 h2 => by
    simp only [Nat.zero_add]
    rw [List.getD_eq_getElem?_getD, List.getD_eq_getElem?_getD, List.getElem?_eq_getElem h1, List.getElem?_eq_getElem h2]
    exact ⟨rfl, rfl⟩
  rw [show ((List.range (min ns.length ms.length)).map (0 + ·)) = List.range (min ns.length ms.length) by simp] at f
  rw [f] at R
  have z : wpAny (model X.prog X.w) X.A (compareOp .Lt (.ref a) (.ref b)) (EP X pins σ Q) X.xe s := R X.prog X.w X.xe (EP X pins σ Q) ⟨.bl _, H, I, rfl, q⟩
  exact z
theorem prim_ltL {K : PySem.W.Frag} : Prim2 K (rLtL K) ltLD .im := by
  intro G H x y d e z Q s hx hy hz q
  cases hx with
  | @lst a xs ds h1 h2 =>
    cases hy with
    | @lst b ys es h3 h4 =>
      have hz : ((intsD ds).bind fun ns => (intsD es).map fun ms => D.bl (lexLt ns ms)) = some z := hz
      cases e1 : intsD ds with
      | none => rw [e1] at hz; cases hz
      | some ns =>
        cases e2 : intsD es with
        | none => rw [e1, e2] at hz; cases hz
        | some ms =>
          rw [e1, e2] at hz
          cases hz
          obtain ⟨q1, _⟩ := intsV (xs := []) h2 e1
          obtain ⟨q2, _⟩ := intsV (xs := []) h4 e2
          subst q1 q2
          exact ⟨a, b, ns, ms, rfl, rfl, .inl (Same.rd s h1), .inl (Same.rd s h3), q _ G H [] (Grow.refl s) (Res.im (.bl _))⟩
    | _ => cases hz
  | _ => cases hy <;> cases hz
end VL

set_option Elab.async false
set_option linter.all false
set_option maxRecDepth 100000
set_option maxHeartbeats 4000000
/-! V22: lists of own lists; for y in x: y.append(c). -/
namespace VL
open PySem PySem.Spec PyProof.Rows L2
section
variable {K : PySem.W.Frag} {C : Ct} {H0 Hm H : Hp} {F : Fps} {σ : L2.St} {ρ : En} {k : Md}
theorem vals_all : ∀ {n : Nat} {vs : List V} {ds : List D} {gs : List (List Addr)}, ValsM K H0 Hm H F (List.replicate n k) vs ds gs → AllM (RdM K Hm H k) vs ds gs.flatten ∧ gs.flatten.Nodup ∧ (∀ a ∈ gs.flatten, Hm a = none ∧ (∀ i, a ∉ F i) ∧ H0 a = none ∧ ∃ o, H a = some o)
  | 0, _, _, _, .nil => ⟨.nil, List.nodup_nil, fun a ha => by cases ha⟩
  | n + 1, _, _, _, .cons (g := g) (gs := gs) h t kk => by
    obtain ⟨a1, a2, a3⟩ := vals_all (n := n) t
    refine ⟨.cons h.rd a1, ?_, fun a ha => ?_⟩
    · show (g ++ gs.flatten).Nodup
      rw [List.nodup_append]
      refine ⟨h.nd, a2, fun a ha b hb e => ?_⟩
      subst e
      obtain ⟨g', h1, h2⟩ := List.mem_flatten.mp hb
      exact kk a ha g' h1 h2
    · rcases List.mem_append.mp (show a ∈ g ++ gs.flatten from ha) with ha | ha
      · exact ⟨h.un a ha, h.ap a ha, h.nw a ha, h.rd.bound a ha⟩
      · exact a3 a ha
end
section
variable {X : Cx} {C : Ct} {es : List Expr} {fs : List EF} {k : Md} {n : Nat} {pos : Pos}
/-- a display of own things -/
theorem ve_lstM (h : VAM X C es (List.replicate n k) (eArgs fs)) (hn : n ≤ 1000 := by decide) : VE X C (.ow k) (.List es pos) (eLst fs) := by
  refine PE.mono (pe_lst h) fun σ H Q ⟨Hm, F, ρ, r, q⟩ => ⟨Hm, F, ρ, r, q.bind.imp fun p hq vs gs Hm1 H1 F1 s1 r1 x1 => ?_⟩
  have hl : vs.length = n := by rw [x1.len, List.length_replicate]
  obtain ⟨a1, a2, a3⟩ := vals_all x1
  refine ⟨Nat.le_of_lt (small1000 (by omega)), fun a ha => ?_⟩
  obtain ⟨r2, s2⟩ := r1.grow (Grow.own (o := .lst vs) r1.sub ha (fun _ _ z => by cases z) fun _ z => by cases z)
  have hna : ∀ b, (∃ o, H1 b = some o) → b ≠ a := fun b ⟨o, ho⟩ z => by subst z; rw [ha] at ho; cases ho
  refine hq (.ref a) Hm1 _ F1 (a :: gs.flatten) (s1.trans s2) r2 ⟨⟨a, rfl, .inl ⟨vs, p.1, gs.flatten, rfl, upd_same, a1.imp fun v d g hg hh => hh.step (Same.refl _) fun b hb o ho => by
      rw [upd_ne (hna b ⟨o, ho⟩)]; exact ho, rfl⟩⟩, ?_, fun b hb => ?_, fun b hb i hi => ?_, fun b hb => ?_⟩
  · exact List.nodup_cons.mpr ⟨fun z => hna a (a3 a z).2.2.2 rfl, a2⟩
  · rcases List.mem_cons.mp hb with rfl | hb
    · exact Same.none r1.sub ha
    · exact (a3 b hb).1
  · rcases List.mem_cons.mp hb with rfl | hb
    · obtain ⟨o, ho⟩ := r1.bd i b hi
      rw [ha] at ho; cases ho
    · exact (a3 b hb).2.1 i hi
  · rcases List.mem_cons.mp hb with rfl | hb
    · exact s1.dm b ha
    · exact (a3 b hb).2.2.1
end
section
theorem appAll_at {d0 : D} : ∀ {ds ds' : List D}, appAll d0 ds = some ds' → ds'.length = ds.length ∧ ∀ (k : Nat) (d : D), ds[k]? = some d → ∃ es, d = .lst es ∧ es.length < LINE ∧ ds'[k]? = some (.lst (es ++ [d0]))
  | [], ds', h => by cases h; exact ⟨rfl, fun k d e => by simp at e⟩
  | .lst es :: r, ds', h => by
    have h : (if es.length < LINE then (appAll d0 r).map (.lst (es ++ [d0]) :: ·) else none) = some ds' := h
    split at h
    · rename_i hl
      cases hr : appAll d0 r with
      | none => rw [hr] at h; cases h
      | some r' =>
        rw [hr] at h
        cases h
        obtain ⟨a, b⟩ := appAll_at hr
        refine ⟨by rw [List.length_cons, List.length_cons, a], fun k d e => ?_⟩
        cases k with
        | zero => simp at e; subst e; exact ⟨es, rfl, hl, rfl⟩
        | succ k => exact b k d (by simpa using e)
    · cases h
  | .non :: _, _, h | .bl _ :: _, _, h | .int _ :: _, _, h | .str _ :: _, _, h | .tup _ :: _, _, h | .dct _ :: _, _, h | .obj _ _ :: _, _, h => by cases h
theorem mix_step {α : Type} {xs ys : List α} {k : Nat} {z : α} (hl : ys.length = xs.length) (hk : k < xs.length) (hz : ys[k]? = some z) : (ys.take k ++ xs.drop k).set k z = ys.take (k + 1) ++ xs.drop (k + 1) := by
  have h1 : (ys.take k).length = k := by rw [List.length_take]; omega
  rw [List.set_append_right _ _ (by omega), h1, Nat.sub_self, List.drop_eq_getElem_cons hk, List.set_cons_zero, List.take_succ, hz, List.append_assoc]
  rfl
variable {K : PySem.W.Frag} {C : Ct} {Hm H : Hp} {F : Fps} {σ : L2.St} {ρ : En}
theorem Rel.seta (r : Rel K C Hm H F σ ρ) {j : Nat} {w : Option V} (hj : ρ[j]? = some none) (hR : j ∉ C.R) : Rel K C Hm H F (σ.set j w) ρ where
  ls := by rw [List.length_set]; exact r.ls
  lr := r.lr
  sl := fun i d h => by
    have hij : j ≠ i := fun e => by subst e; rw [hj] at h; cases h
    obtain ⟨v, m, h1, h2, h3⟩ := r.sl i d h
    exact ⟨v, m, by rw [List.getElem?_set_ne hij]; exact h1, h2, h3⟩
  nd := r.nd
  dj := r.dj
  un := r.un
  sub := r.sub
  bd := r.bd
  tp := r.tp
  fz := r.fz
  he := r.he
  ow := r.ow
  fx := fun i hi => by
    have hij : j ≠ i := fun e => by subst e; exact hR hi
    rw [List.getElem?_set_ne hij]
    exact r.fx i hi
end
section
variable {X : Cx} {C : Ct} {rm : Md} {c : Expr} {x y : PySem.Str} {i j : Nat} {ty px p p1 p2 pos1 pos : Pos}
theorem vs_forApp (hc0 : PE X c (tC .non)) (hm : C.Γ[i]? = some (.ow (.ow .im)) := by rfl) (hij : i ≠ j := by decide) (hR : j ∉ C.R := by exact notIn_of rfl) (hNd : X.N.Nodup := by first | assumption | decide) (hNi : X.N[i]? = some x := by rfl) (hNj : X.N[j]? = some y := by rfl)
    (hvx : Vis X.env.scope x := by first | exact Or.inl rfl | exact Or.inr (Or.inl rfl) | exact Or.inr (Or.inr rfl)) (hvy : Vis X.env.scope y := by first | exact Or.inl rfl | exact Or.inr (Or.inl rfl) | exact Or.inr (Or.inr rfl))
    (hly : Loc X.env.scope y := by first | exact Or.inl rfl | exact Or.inr rfl) (hfy : X.fn y = true ∨ X.env.scope.names.lookup y = some .local := by first | exact .inl rfl | exact .inr rfl | assumption)
    (hdx : (x == ("__debug__" : Str)) = false := by decide) (hcdx : (x == ("__classdict__" : Str)) = false := by decide) (hdy : (y == ("__debug__" : Str)) = false := by decide) (hcdy : (y == ("__classdict__" : Str)) = false := by decide)
    (he : starEach [c] X.env = (false, eval c X.env) :: starEach [] X.env := by rfl) (hbase : attributeBase (.Name y p) "append" X.env (eval (.Name y p) X.env) = eval (.Name y p) X.env := by rfl)
    (hfew : ((backTo p2 (starEach [c] X.env)).all (fun x => !x.1) && (backToKw p2 (keywordEach [] X.env)).all (fun x => x.1.isSome)
      && decide ([c].length + ([] : List Keyword).length + (if ([] : List Keyword).isEmpty then 0 else 1) < 30)) = true := by rfl)
    (hline : (p1.endLine == p2.line) = true := by rfl) (hpl : (backTo p2 (starEach [] X.env)).any (·.1) = false := by rfl)
    (hs : swapsWith (.Call (.Attribute (.Name y p) "append" p1) [c] [] p2) none pos1.line X.env = pure false := by rfl)
    (hp : PassesOwn (model X.prog X.w) X.A X.env X.xe := by exact PassesOwn.never) (hc : X.calm = true := by rfl) (hsf : ∀ z, foldedSetIterable (.Name x px) X.env z = pure z := by intro _; rfl) :
    VS X C rm (.For (.Name y ty) (.Name x px) [.Expr (.Call (.Attribute (.Name y p) "append" p1) [c] [] p2) pos1] [] pos) (sForApp i j .non) := by
  refine PS.mono (ps_for hp hc (pi_list (pe_var hNi hvx hdx hcdx)) (pg_name hNd hNj hly hfy) (pss_one (ps_expr (pe_bm PySem.F.plainAttrs_list PySem.F.slot_list_append PySem.F.type_list_append mt_append (pe_var hNj hvy hdy hcdy) (pa_cons hc0 pa_nil he) hbase hfew hline he hpl) hs)) hsf) fun D σ H ⟨Hm, F, ρ, r, q⟩ => ?_
  unfold sForApp at q
  split at q
  rotate_left
  · exact q.elim
  rename_i ds e0 ej
  cases hap : appAll .non ds with
  | none => rw [hap] at q; exact q.elim
  | some ds' =>
  rw [hap] at q
  obtain ⟨a, xs, g0, h1, h2, hall0, _, _⟩ := r.own e0 hm
  obtain ⟨al, aat⟩ := appAll_at hap
  have hxl : xs.length = ds.length := hall0.length
  have hσj : j < σ.length := by
    rw [r.ls, ← r.lr]
    exact (List.getElem?_eq_some_iff.mp ej).1
  refine ⟨.ref a, h1, a, rfl, ⟨xs, .of h2⟩, ?_⟩
  refine ⟨fun k m σ' H' => ∃ F', Step Hm H F Hm H' F' ∧ Rel X.K C Hm H' F' σ' (ρ.set i (some (.lst (ds'.take k ++ ds.drop k)))) ∧ k + m = ds.length ∧ H' a = some (.lst xs) ∧ σ'[i]? = some (some (.ref a)) ∧ σ'.length = σ.length, ⟨ds.length, F, .refl, ?_, by omega, h2, h1, rfl⟩, ?_⟩
  · have : ρ.set i (some (.lst (ds'.take 0 ++ ds.drop 0))) = ρ := by
      obtain ⟨hi, ei⟩ := List.getElem?_eq_some_iff.mp e0
      show ρ.set i (some (.lst ds)) = ρ
      rw [← ei]
      exact List.set_getElem_self hi
    rw [this]
    exact r
  rintro k m σ2 H2 ⟨F2, s2, r2, hl, ha2, hσ2, hsl⟩
  have hil : i < ρ.length := (List.getElem?_eq_some_iff.mp e0).1
  by_cases hlt : k < ds.length
  · refine .inr ⟨⟨xs, xs[k], .of ha2, List.getElem?_eq_getElem (by omega)⟩, fun σ' H' => ∃ F', Step Hm H F Hm H' F' ∧ Rel X.K C Hm H' F' σ' (ρ.set i (some (.lst (ds'.take (k + 1) ++ ds.drop (k + 1))))) ∧ H' a = some (.lst xs) ∧ σ'[i]? = some (some (.ref a)) ∧ σ'.length = σ.length, ?_, fun z H3 ⟨eH, hz⟩ => ?_⟩
    · rintro σ' H' ⟨F', b1, b2, b3, b4, b5⟩
      exact ⟨m - 1, by omega, F', b1, b2, by omega, b3, b4, b5⟩
    · subst eH
      have hz := hz xs (.of ha2)
      have e2 : (ρ.set i (some (VL.D.lst (ds'.take k ++ ds.drop k))))[i]? = some (some (.lst (ds'.take k ++ ds.drop k))) := List.getElem?_set_self hil
      obtain ⟨a', xs', g, h3, h4, hall, hF, hag⟩ := r2.own e2 hm
      rw [hσ2] at h3
      cases h3
      rw [ha2] at h4
      cases h4
      have hml : (ds'.take k).length = k := by rw [List.length_take]; omega
      have hk : (ds'.take k ++ ds.drop k)[k]? = some ds[k] := by
        rw [List.getElem?_append_right (by omega), hml, Nat.sub_self, List.getElem?_drop, Nat.add_zero, List.getElem?_eq_getElem hlt]
      obtain ⟨es, ees, hel, hk'⟩ := aat k _ (List.getElem?_eq_getElem hlt)
      rw [ees] at hk
      obtain ⟨v, f1, fx, f2, k1, k2, k3, k4⟩ := hall.at hk
      rw [hz] at k1
      cases k1
      obtain ⟨b, rfl, hb⟩ := k2
      rcases hb with ⟨ys, es', gb, eqd, hb, hallb, hfx⟩ | ⟨_, _, _, eqd, _⟩ | ⟨_, _, _, _, _, _, eqd, _⟩
      rotate_left
      · cases eqd
      · cases eqd
      cases eqd
      obtain ⟨_, rfl⟩ := all_im hallb
      subst hfx
      have bF : b ∈ F2 i := by
        rw [hF, k3]
        exact List.mem_cons_of_mem _ (List.mem_append_right _ (List.mem_append_left _ List.mem_cons_self))
      have nd := r2.nd i
      rw [hF, k3] at nd
      have hba : b ≠ a := fun z => by
        subst z
        exact (List.nodup_cons.mp nd).1 (List.mem_append_right _ (List.mem_append_left _ List.mem_cons_self))
      have fout : ∀ c, (c ∈ f1 ∨ c ∈ f2) → c ≠ b := fun c h z => by
        subst z
        have nd2 := (List.nodup_cons.mp nd).2
        rw [List.nodup_append] at nd2
        rcases h with h | h
        · exact nd2.2.2 c h c (List.mem_append_left _ List.mem_cons_self) rfl
        · exact (List.nodup_cons.mp (show (c :: ([] ++ f2)).Nodup from nd2.2.1)).1 h
      have r3 := r2.rew (a := b) (o := .lst (ys ++ [.non])) (g := a :: g) (d := .lst ((ds'.take k ++ ds.drop k).set k (.lst (es ++ [.non])))) hm hσ2 bF
        ⟨a, rfl, .inl ⟨xs, _, g, rfl, by rw [upd_ne (Ne.symm hba)]; exact ha2, by
          rw [k3]
          exact k4 _ _ _ (fun v d g hg hh => hh.step (Same.refl _) fun c hcg o ho => by
            rw [upd_ne (fout c (hg c hcg))]
            exact ho) ⟨b, rfl, .inl ⟨ys ++ [.non], es ++ [.non], [], rfl, upd_same, im_all (DtA.append (all_im hallb).1 (.cons .non .nil)), rfl⟩⟩, rfl⟩⟩
        (by rw [← hF]; exact r2.nd i) (fun c hcg => r2.un i c (by rw [hF]; exact hcg)) (fun c hcg l hl hcl => hl (r2.dj l i c hcl (by rw [hF]; exact hcg))) (fun c hcg => .inl (by rw [hF]; exact hcg)) (fun _ z => by cases z) (fun _ _ z => by cases z)
      rw [mix_step al hlt hk', List.set_set] at r3
      have s3 := s2.rew (a := b) (o := .lst (ys ++ [.non])) (g := a :: g) bF ⟨_, hb⟩ fun c hc => .inl (by rw [hF]; exact hc)
      have hjj : (ρ.set i (some (VL.D.lst (ds'.take (k + 1) ++ ds.drop (k + 1)))))[j]? = some none := by rw [List.getElem?_set_ne hij]; exact ej
      refine ⟨.ref b, List.getElem?_set_self (by rw [hsl]; exact hσj), .inl ⟨rfl, ys, .of hb⟩, b, ys, .non, rfl, rfl, hb, by rw [line_eq, hallb.length]; exact hel, ?_⟩
      exact ⟨_, s3, r3.seta hjj hR, by rw [upd_ne (Ne.symm hba)]; exact ha2, by rw [List.getElem?_set_ne (Ne.symm hij)]; exact hσ2, by rw [List.length_set]; exact hsl⟩
  · have e : k = ds.length := by omega
    subst e
    rw [List.drop_length, List.append_nil, List.take_of_length_le (by omega)] at r2
    exact .inl ⟨⟨xs, .of ha2, by omega⟩, q Hm H2 F2 σ2 s2 r2⟩
end
end VL

set_option Elab.async false
set_option linter.all false
set_option maxRecDepth 100000
set_option maxHeartbeats 4000000
/-! V23: an own list read where it stands: x + e, x[a:b]. -/
namespace VL
open PySem PySem.Spec PyProof.Rows L2
section
variable {X : Cx} {C : Ct} {b : Expr} {fb : EF} {x : PySem.Str} {i : Nat} {p p2 pos : Pos} {lo hi : Option Expr} {flo fhi : Option EF}
theorem ve_catN (hb : VE X C .im b fb) (hm : C.Γ[i]? = some (.ow .im) := by rfl) (hN : X.N[i]? = some x := by rfl) (hv : Vis X.env.scope x := by first | exact Or.inl rfl | exact Or.inr (Or.inl rfl) | exact Or.inr (Or.inr rfl))
    (hd : (x == ("__debug__" : Str)) = false := by decide) (hcd : (x == ("__classdict__" : Str)) = false := by decide) : VE X C (.ow .im) (.BinOp (.Name x p) .Add b pos) (eCatN i fb) := by
  refine PE.mono (pe_op op_catR (pe_var hN hv hd hcd) hb) fun σ H Q ⟨Hm, F, ρ, r, q⟩ => ?_
  unfold eCatN at q
  split at q
  rotate_left
  · exact q.elim
  rename_i ds0 e0
  obtain ⟨a, xs0, g0, h1, _⟩ := r.own e0 hm
  refine ⟨.ref a, h1, Hm, F, ρ, r, q.bind.imp fun pr hq w Hm2 H2 F2 g2 s2 r2 x2 => ?_⟩
  obtain ⟨d, ρ2⟩ := pr
  have hq : fin X.K C Hm H F (match ρ2[i]? with
    | some (some (.lst ds)) => Rs.of (catD (.lst ds) d) >>= fun z => Rs.ok (z, ρ2)
    | _ => .bad) _ := hq
  split at hq
  rotate_left
  · exact hq.elim
  rename_i ds e2
  obtain ⟨a', xs, g, h3, h4, hall, _, _⟩ := r2.own e2 hm
  rw [h1] at h3
  cases h3
  obtain ⟨z, hz, hq⟩ := hq.bind.of
  have y := x2.of_im
  cases d with
  | lst es =>
    cases y with
    | @lst bb ys _ k1 k2 =>
      have hz : (if ds.length + es.length ≤ LINE then some (VL.D.lst (ds ++ es)) else none) = some z := hz
      split at hz
      · rename_i hl
        cases hz
        have dx := (all_im hall).1
        refine ⟨a, bb, xs, ys, rfl, rfl, .of h4, Same.rd r2.sub k1, by rw [line_eq, dx.length, k2.length]; exact hl, fun pp hp => ?_⟩
        exact endE hq s2 r2 (Grow.own r2.sub hp (fun _ _ z => by cases z) fun _ z => by cases z) (Res.lst r2.sub hp (DtA.append dx k2))
      · cases hz
  | _ => cases hz
theorem ve_sliceN (hl : VO X C lo flo) (hu : VO X C hi fhi) (hm : C.Γ[i]? = some (.ow .im) := by rfl) (hN : X.N[i]? = some x := by rfl) (hv : Vis X.env.scope x := by first | exact Or.inl rfl | exact Or.inr (Or.inl rfl) | exact Or.inr (Or.inr rfl))
    (hd : (x == ("__debug__" : Str)) = false := by decide) (hcd : (x == ("__classdict__" : Str)) = false := by decide) : VE X C (.ow .im) (.Subscript (.Name x p) (.Slice lo hi none p2) pos) (eSliceN i flo fhi) := by
  refine PE.mono (pe_slice sl_list (pe_var hN hv hd hcd) (po_of hl) (po_of hu)) fun σ H Q ⟨Hm, F, ρ, r, q⟩ => ?_
  unfold eSliceN at q
  split at q
  rotate_left
  · exact q.elim
  rename_i ds0 e0
  obtain ⟨a, xs0, g0, h1, _⟩ := r.own e0 hm
  refine ⟨.ref a, h1, Hm, F, ρ, r, q.bind.imp fun p2 hq2 Hm2 H2 F2 s2 r2 => ?_⟩
  refine ⟨Hm2, F2, p2.2, r2, (hq2.step s2).bind.imp fun p3 hq3 Hm3 H3 F3 s3 r3 => ?_⟩
  obtain ⟨u, ρ3⟩ := p3
  have hq3 : fin X.K C Hm2 H2 F2 (match ρ3[i]? with
    | some (some (.lst ds)) => Rs.of (sliceD (.lst ds) p2.1 u) >>= fun z => Rs.ok (z, ρ3)
    | _ => .bad) _ := hq3
  split at hq3
  rotate_left
  · exact hq3.elim
  rename_i ds e2
  obtain ⟨a', xs, g, h3, h4, hall, _, _⟩ := r3.own e2 hm
  rw [h1] at h3
  cases h3
  obtain ⟨z, hz, hq4⟩ := (hq3.step s3).bind.of
  cases hz
  have dx := (all_im hall).1
  refine ⟨a, xs, rfl, .inl (.of h4), fun pp hp => ?_⟩
  exact endE hq4 (s2.trans s3) r3 (Grow.own r3.sub hp (fun _ _ z => by cases z) fun _ z => by cases z) (Res.lst r3.sub hp (cut_dt dx _ _))
end
end VL

set_option Elab.async false
set_option linter.all false
set_option maxRecDepth 100000
set_option maxHeartbeats 4000000
/-! V24: everything own is lent for two statements. -/
namespace VL
open PySem PySem.Spec PyProof.Rows L2
def Ct.bb (C : Ct) (is keep : List Nat) (σ : L2.St) : Ct := { C with Γ := imAt is C.Γ, R := keep, σ0 := σ }
theorem setAt_of {ρ : En} {i : Nat} (h : setAt ρ i = true) : ∃ d, ρ[i]? = some (some d) := by
  unfold setAt at h
  split at h
  · exact ⟨_, by assumption⟩
  · cases h
section
variable {K : PySem.W.Frag} {C : Ct} {Hm H Hm3 H3 : Hp} {F F3 : Fps} {σ σ3 : L2.St} {ρ ρ3 : En} {is ws keep : List Nat}
theorem bb_im (ha : allOk is [] 0 C.Γ = true) {i : Nat} {m : Md} (h : (imAt is C.Γ)[i]? = some m) : m = .im := by
  have hl : i < C.Γ.length := by
    have := (List.getElem?_eq_some_iff.mp h).1
    rwa [imAt_len] at this
  by_cases hi : i ∈ is
  · rw [imAt_in hi hl] at h
    exact (Option.some.inj h).symm
  · rw [imAt_ne hi] at h
    rcases allOk_at ha h with z | z | z
    · exact z
    · exact absurd (by simpa using z) hi
    · cases z
theorem bb_in (r : Rel K C Hm H F σ ρ) (ha : allOk is [] 0 C.Γ = true) (hk : keep.all (setAt ρ) = true) : Rel K (C.bb is keep σ) (lend Hm H F is) H (less F is) σ ρ := by
  have b := bor_in (is := is) r
  refine ⟨b.ls, b.lr, b.sl, b.nd, b.dj, b.un, b.sub, b.bd, b.tp, b.fz, b.he, fun i a h => ?_, fun i hi => ⟨rfl, setAt_of (List.all_eq_true.mp hk i hi)⟩⟩
  rcases b.ow i a h with z | z
  · obtain ⟨d, hd⟩ := (b.fx i z).2
    obtain ⟨v, m, _, h2, h3⟩ := b.sl i d hd
    have hm := bb_im ha h2
    subst hm
    rw [h3.2] at h
    cases h
  · exact .inr z
theorem bb_out (r : Rel K C Hm H F σ ρ) (s : Step (lend Hm H F is) H (less F is) Hm3 H3 F3) (r3 : Rel K (C.bb is keep σ) Hm3 H3 F3 σ3 ρ3) (ha : allOk is [] 0 C.Γ = true)
    (hkw : ∀ j, j < C.Γ.length → j ∈ keep ∨ j ∈ ws) (hw : ∀ j ∈ ws, j ∉ C.R) :
    Rel K C (unlend Hm3 F is) H3 (both F F3 is []) σ3 (wipeE ρ ws) ∧ Step Hm H F (unlend Hm3 F is) H3 (both F F3 is []) := by
  have l1 : (imAt is C.Γ).length = C.Γ.length := imAt_len
  have l3 : σ3.length = C.Γ.length := by rw [← l1]; exact r3.ls
  have l4 : ρ3.length = C.Γ.length := by rw [← l1]; exact r3.lr
  have same : ∀ j, j ∉ ws → σ3[j]? = σ[j]? := fun j hj => by
    by_cases hl : j < C.Γ.length
    · exact (r3.fx j ((hkw j hl).resolve_right hj)).1
    · rw [List.getElem?_eq_none (by omega), List.getElem?_eq_none (by rw [r.ls]; omega)]
  have inR : ∀ j ∈ C.R, j < C.Γ.length := fun j hj => by
    obtain ⟨d, hd⟩ := (r.fx j hj).2
    rw [← r.lr]
    exact (List.getElem?_eq_some_iff.mp hd).1
  have rA : Rel K (C.bor is) Hm3 H3 F3 σ (wipeE ρ3 ws) := by
    refine ⟨by rw [show (C.bor is).Γ = imAt is C.Γ from rfl, l1]; exact r.ls, by rw [wipeE_len, show (C.bor is).Γ = imAt is C.Γ from rfl]; exact r3.lr, fun i d h => ?_, r3.nd, r3.dj, r3.un, r3.sub, r3.bd, r3.tp, r3.fz, r3.he, fun i a h => ?_, fun i hi => ?_⟩
    · by_cases hi : i ∈ ws
      · exact absurd h (wipeE_own hi)
      · rw [wipeE_get hi] at h
        obtain ⟨v, m, h1, h2, h3⟩ := r3.sl i d h
        exact ⟨v, m, by rw [← same i hi]; exact h1, h2, h3⟩
    · rcases r3.ow i a h with z | z
      · obtain ⟨d, hd⟩ := (r3.fx i z).2
        obtain ⟨v, m, _, h2, h3⟩ := r3.sl i d hd
        have hm := bb_im ha h2
        subst hm
        rw [h3.2] at h
        cases h
      · exact .inr z
    · have hn : i ∉ ws := fun z => hw i z hi
      refine ⟨(r.fx i hi).1, ?_⟩
      rw [wipeE_get hn]
      exact (r3.fx i ((hkw i (inR i hi)).resolve_right hn)).2
  obtain ⟨rB, sB⟩ := bor_out (js := []) r s rA rfl ha (z := ρ) rfl
  refine ⟨⟨l3, by rw [wipeE_len]; exact rB.lr, fun i d h => ?_, rB.nd, rB.dj, rB.un, rB.sub, rB.bd, rB.tp, rB.fz, rB.he, rB.ow, fun i hi => ?_⟩, sB⟩
  · by_cases hi : i ∈ ws
    · exact absurd h (wipeE_own hi)
    · rw [wipeE_get hi] at h
      obtain ⟨v, m, h1, h2, h3⟩ := rB.sl i d h
      exact ⟨v, m, by rw [same i hi]; exact h1, h2, h3⟩
  · have hn : i ∉ ws := fun z => hw i z hi
    rw [wipeE_get hn, same i hn]
    exact rB.fx i hi
end
section
variable {X : Cx} {C : Ct} {st1 st2 : Stmt} {rest : List Stmt} {b1 b2 g : SF}
theorem vb_bor2 (is ws keep : List Nat) (h1 : ∀ σ, VS X (C.bb is keep σ) .im st1 b1) (h2 : ∀ σ, VS X (C.bb is keep σ) .im st2 b2) (h3 : VB X C .im rest g) (ha : allOk is [] 0 C.Γ = true := by rfl)
    (hkw : (List.range C.Γ.length).all (fun j => keep.contains j || ws.contains j) = true := by rfl) (hw : ws.all (fun j => !C.R.contains j) = true := by rfl) : VB X C .im (st1 :: st2 :: rest) (sSeq (sBorB ws keep (sSeq b1 b2)) g) := by
  have hkw' : ∀ j, j < C.Γ.length → j ∈ keep ∨ j ∈ ws := fun j hj => by
    have := List.all_eq_true.mp hkw j (List.mem_range.mpr hj)
    simpa using this
  have hw' : ∀ j ∈ ws, j ∉ C.R := fun j hj => by
    have := List.all_eq_true.mp hw j hj
    simpa using this
  refine ⟨fun pins s σ H D I q => (pss_cons (h1 σ) (pss_cons (h2 σ) h3)).run pins s σ H D I ?_⟩
  obtain ⟨Hm, F, ρ, r, q⟩ := q
  have q : fin X.K C Hm H F ((if keep.all (setAt ρ) = true then (match sSeq b1 b2 ρ with
    | .ok (Fl.next, _) => Rs.ok (Fl.next, wipeE ρ ws)
    | .ok (Fl.ret d, _) => if flat d = true then Rs.ok (Fl.ret d, wipeE ρ ws) else Rs.bad
    | _ => Rs.bad) else Rs.bad) >>= fun p => match p.1 with
    | Fl.next => g p.2
    | fl => Rs.ok (fl, p.2)) (OkS X.K C .im Hm H F D) := q
  by_cases hk : keep.all (setAt ρ) = true
  rotate_left
  · rw [if_neg hk] at q; exact q.elim
  rw [if_pos hk] at q
  have fx : ∀ {fl : Fl} {ρ3 : En}, sSeq b1 b2 ρ = .ok (fl, ρ3) → OkS X.K (C.bb is keep σ) .im (lend Hm H F is) H (less F is) { D with nx := fun σ' H' => tS X.K C .im g D σ' H' } (fl, ρ3) := fun {fl ρ3} e => by
    rw [e] at q
    cases fl with
    | next =>
      have q : fin X.K C Hm H F (g (wipeE ρ ws)) (OkS X.K C .im Hm H F D) := q
      intro Hm3 H3 F3 σ3 s3 r3
      obtain ⟨r4, s4⟩ := bb_out r s3 r3 ha hkw' hw'
      exact ⟨_, _, _, r4, (q.step s4).imp fun p hp => hp.step s4⟩
    | brk => exact q.elim
    | cont => exact q.elim
    | ret d =>
      have q : fin X.K C Hm H F ((if flat d = true then Rs.ok (Fl.ret d, wipeE ρ ws) else Rs.bad) >>= fun p => match p.1 with
        | Fl.next => g p.2
        | fl => Rs.ok (fl, p.2)) (OkS X.K C .im Hm H F D) := q
      by_cases hf : flat d = true
      rotate_left
      · rw [if_neg hf] at q; exact q.elim
      rw [if_pos hf] at q
      have q : OkS X.K C .im Hm H F D (.ret d, wipeE ρ ws) := q
      intro v Hm3 H3 F3 σ3 gg s3 r3 x
      obtain ⟨r4, s4⟩ := bb_out r s3 r3 ha hkw' hw'
      exact q v _ _ _ σ3 [] s4 r4 (Val.im (flat_dt r4.tp r4.fz d hf (Dt.mono r3.sub _ x.of_im)))
  refine ⟨lend Hm H F is, less F is, ρ, bb_in r ha hk, ?_⟩
  cases e1 : b1 ρ with
  | bad =>
    have : sSeq b1 b2 ρ = .bad := by show (b1 ρ >>= _) = _; rw [e1]; rfl
    rw [this] at q; exact q.elim
  | err x ρ' =>
    have : sSeq b1 b2 ρ = .err x ρ' := by show (b1 ρ >>= _) = _; rw [e1]; rfl
    rw [this] at q; exact q.elim
  | ok p =>
    obtain ⟨fl, ρ1⟩ := p
    cases fl with
    | next =>
      have es : sSeq b1 b2 ρ = b2 ρ1 := by show (b1 ρ >>= _) = _; rw [e1]; rfl
      intro Hm1 H1 F1 σ1 s1 r1
      refine ⟨Hm1, F1, ρ1, r1, ?_⟩
      cases e2 : b2 ρ1 with
      | bad => rw [es, e2] at q; exact q.elim
      | err x ρ' => rw [es, e2] at q; exact q.elim
      | ok p2 =>
        obtain ⟨fl, ρ2⟩ := p2
        exact (fx (es.trans e2)).step s1
    | brk => exact fx (show sSeq b1 b2 ρ = .ok (.brk, ρ1) by show (b1 ρ >>= _) = _; rw [e1]; rfl)
    | cont => exact fx (show sSeq b1 b2 ρ = .ok (.cont, ρ1) by show (b1 ρ >>= _) = _; rw [e1]; rfl)
    | ret d => exact fx (show sSeq b1 b2 ρ = .ok (.ret d, ρ1) by show (b1 ρ >>= _) = _; rw [e1]; rfl)
end
end VL

set_option Elab.async false
set_option linter.all false
set_option maxRecDepth 100000
set_option maxHeartbeats 4000000
/-! V25: sorted of a list of lists of ints that is in order already. -/
namespace VL
open PySem PySem.Spec PyProof.Rows L2
theorem lexLt_irr : ∀ x : List Int, lexLt x x = false
  | [] => rfl
  | a :: x => by simp [lexLt, lexLt_irr x]
theorem lexLt_asym : ∀ x y : List Int, lexLt x y = true → lexLt y x = false
  | [], [], h => by simp [lexLt] at h
  | [], _ :: _, _ => rfl
  | _ :: _, [], h => by simp [lexLt] at h
  | a :: x, b :: y, h => by
    unfold lexLt at h ⊢
    by_cases e : a = b
    · subst e
      simp only [if_true] at h ⊢
      exact lexLt_asym x y h
    · rw [if_neg e] at h
      rw [if_neg fun z => e z.symm]
      simp only [decide_eq_true_eq, decide_eq_false_iff_not] at h ⊢
      omega
theorem lexLt_tr : ∀ x y z : List Int, lexLt y x = false → lexLt z y = false → lexLt z x = false
  | [], y, z, h, _ => by
    cases z with
    | nil => rfl
    | cons c z => rfl
  | a :: x, [], z, h, _ => by simp [lexLt] at h
  | a :: x, b :: y, [], _, h => by simp [lexLt] at h
  | a :: x, b :: y, c :: z, h1, h2 => by
    unfold lexLt at h1 h2 ⊢
    by_cases e1 : b = a
    · subst e1
      by_cases e2 : c = b
      · subst e2
        simp only [if_true] at h1 h2 ⊢
        exact lexLt_tr x y z h1 h2
      · rw [if_neg e2] at h2 ⊢
        exact h2
    · rw [if_neg e1] at h1
      by_cases e2 : c = b
      · subst e2
        rw [if_neg e1]
        exact h1
      · rw [if_neg e2] at h2
        simp only [decide_eq_false_iff_not] at h1 h2
        rw [if_neg (by omega)]
        simp only [decide_eq_false_iff_not]
        omega
theorem swo_lexl {α : Type} (k : α → List Int) : SrtO.Swo fun v u => lexLt (k v) (k u) := ⟨fun x y h => lexLt_asym _ _ h, fun x y z h1 h2 => lexLt_tr _ _ _ h1 h2⟩

/-- v is a list that holds these numbers -/
def IsIl (h : Heap) (v : Value) (ns : List Int) : Prop := ∃ (a : Addr) (items : Array Value), v = .ref a ∧ h.IsList a items ∧ IntsAre items.toList ns
theorem IsIl.keeps {h h' : Heap} {v : Value} {ns : List Int} (x : IsIl h v ns) (k : ∀ b o, v = .ref b → h.get? b = some o → h'.get? b = some o) : IsIl h' v ns := by
  obtain ⟨a, items, e, ⟨o, g, c, n, d⟩, i⟩ := x
  exact ⟨a, items, e, ⟨o, k _ _ e g, c, n, d⟩, i⟩
theorem IsIl.type {M : Model} {h : Heap} {v : Value} {ns : List Int} (x : IsIl h v ns) : PySem.W.Looks M h (typeOf v) (.type "list") := by
  obtain ⟨a, items, rfl, ⟨o, g, c, n, d⟩, i⟩ := x
  rw [← c]
  exact (PySem.W.Looks.ld g).andThen .now
section
variable {prog : Program} {w : World} {A : Around} {E : Value → Shared → Prop} {s : Shared}
theorem lt_il {v u : Value} {ns ms : List Int} {Q : Bool → Shared → Prop} (hu : A.units < cLine) (hv : IsIl s.heap v ns) (hw : IsIl s.heap u ms) (h : Q (lexLt ns ms) s) : wpAny (model prog w) A (keyLt' oneType' v u) Q E s := by
  obtain ⟨a, its, rfl, la, i1⟩ := hv
  obtain ⟨b, its2, rfl, lb, i2⟩ := hw
  obtain ⟨o, go, co, no, d⟩ := id la
  rw [keyLt'_oneType, oneLt'_eq]
  simp only [if_true]
  refine wpAny_bind (wpAny_cRoomFor hu ?_)
  have e1 : its.size = ns.length := by have := i1.length; simpa using this
  have e2 : its2.size = ms.length := by have := i2.length; simpa using this
  have at1 : ∀ j (h1 : j < its.size), ∃ t, its[j] = .int (ns.getD j 0) t := fun j h1 => PyProof.Rows.IntsAre.int_at i1 _ _ (by simp [h1])
  have at2 : ∀ j (h1 : j < its2.size), ∃ t, its2[j] = .int (ms.getD j 0) t := fun j h1 => PyProof.Rows.IntsAre.int_at i2 _ _ (by simp [h1])
  refine wpAny_bind (wpAny_callSpecialIfBound?_slot (T := "list") ⟨_, go, co⟩ PySem.F.slot_list_lt (SeqAt.call_list_lt (e := fun j => decide (ns.getD j 0 = ms.getD j 0)) (r := fun j => decide (ns.getD j 0 < ms.getD j 0)) la lb (fun j h1 h2 => ?_) (fun j h1 h2 _ => ?_) ?_))
  · obtain ⟨t, et⟩ := at1 j h1
    obtain ⟨t', et'⟩ := at2 j h2
    rw [et, et']
    have z : (ns.getD j 0 == ms.getD j 0) = decide (ns.getD j 0 = ms.getD j 0) := by
      by_cases q : ns.getD j 0 = ms.getD j 0
      · rw [decide_eq_true q]; exact beq_iff_eq.mpr q
      · rw [decide_eq_false q]; exact beq_eq_false_iff_ne.mpr q
    rw [← z]
    exact SeqAt.EqAt.int_int _ _ _ _
  · obtain ⟨t, et⟩ := at1 j h1
    obtain ⟨t', et'⟩ := at2 j h2
    rw [et, et']
    exact fun _ _ _ _ h => PyProof.Rows.lt_int h
  · have f := first_lex ns ms 0 (fun j => decide (ns.getD j 0 = ms.getD j 0)) (fun j => decide (ns.getD j 0 < ms.getD j 0)) fun j h1 h2 => by
      simp only [Nat.zero_add]
      rw [List.getD_eq_getElem?_getD, List.getD_eq_getElem?_getD, List.getElem?_eq_getElem h1, List.getElem?_eq_getElem h2]
      exact ⟨rfl, rfl⟩
    rw [show ((List.range (min ns.length ms.length)).map (0 + ·)) = List.range (min ns.length ms.length) by simp] at f
    rw [e1, e2, f]
    exact wpAny_truthy_bool h
theorem il_cmp {vs : List Value} {k : Value → List Int} (hu : A.units < cLine) (hv : ∀ v ∈ vs, IsIl s.heap v (k v)) : SrtO.Cmp prog w A s oneType' (fun p => p.1 ∈ vs) (SrtO.lt2 fun v u => lexLt (k v) (k u)) := by
  intro p q hp hq
  exact lt_il (Q := fun r s' => s' = s ∧ r = lexLt (k p.1) (k q.1)) (E := fun _ _ => False) hu (hv p.1 hp) (hv q.1 hq) ⟨rfl, rfl⟩
theorem il_sortable {a : Addr} {vs : List Value} {k : Value → List Int} (h2 : 2 ≤ vs.length) (hu : A.units < cLine) (hv : ∀ v ∈ vs, IsIl s.heap v (k v)) (ha : ∀ v ∈ vs, v ≠ .ref a) :
    SrtO.SortableO prog w A s a vs fun v u => lexLt (k v) (k u) := by
  intro h' keep
  have hv' : ∀ v ∈ vs, IsIl h' v (k v) := fun v hm => (hv v hm).keeps fun b o e g => keep b o (fun z => ha v hm (by rw [e, z])) g
  refine ⟨oneType', fun Q E hq => ?_, il_cmp (s := { s with heap := h' }) hu hv'⟩
  exact PySem.W.kas_kind (s := { s with heap := h' }) (T := .type "list") h2 (fun v hm => (hv' v hm).type) (by rfl) (by simp) hq
end
/-- sorted(xs), xs a list of lists of ints in order: a new list of the same items -/
def rSortedX (K : PySem.W.Frag) : List V → Hp → VK → Prop := fun vs H Q => ∃ (a : Addr) (xs : List V) (k : V → List Int), vs = [V.ref a] ∧ SqL K H a xs ∧ (∀ x ∈ xs, ∃ t, x = V.ref t ∧ SqL K H t ((k x).map V.int)) ∧
  xs.Pairwise (fun x y => lexLt (k y) (k x) = false) ∧ ∀ p, H p = none → Q (.ref p) (upd H p (.lst xs))
theorem cr_sortedX {X : Cx} (hu : X.A.units + 2 < cLine) : CallR X (.builtin "sorted") (rSortedX X.K) := by
  intro pins s σ H vs us Q I r h
  obtain ⟨a, xs, k, rfl, hs, hx, hup, q⟩ := h
  obtain ⟨its, rv, hl, hz⟩ := I.list hs
  obtain ⟨u, rfl, ru⟩ := vals1 r
  obtain rfl : u = Value.ref a := ru
  obtain ⟨e1, e2⟩ := refs_back rv fun x m => by
    obtain ⟨t, e, _⟩ := hx x m
    exact ⟨t, e⟩
  have hv : ∀ v ∈ its, IsIl s.heap v (k (backV v)) := fun v hv => by
    obtain ⟨t, rfl⟩ := e2 v hv
    have hm : V.ref t ∈ xs := by rw [e1]; exact List.mem_map.mpr ⟨_, hv, rfl⟩
    obtain ⟨t', e, ht⟩ := hx _ hm
    cases e
    obtain ⟨its2, r2, l2, _⟩ := I.list ht
    exact ⟨t, _, rfl, l2.isList, Vals.ints r2⟩
  refine SrtO.sorted_ord (swo_lexl fun u => k (backV u)) hl.isList (by rw [← rv.length]; exact hz) (fun h2 h₁ a' ha' keep => il_sortable (s := { s with heap := h₁ }) h2 ?_ (fun v hm => (hv v hm).keeps fun b o _ g => (keep b o g).2) fun v hm z => ?_) fun out h1 h2 => ?_
  · exact hu
  · obtain ⟨t, _, e, ⟨o, g, _⟩, _⟩ := hv v hm
    rw [e] at z
    cases z
    exact (keep _ _ g).1 rfl
  · have h3 : ∀ u ∈ out, ∃ a, u = Value.ref a := fun u hu => e2 u (h2.perm.mem_iff.mp hu)
    obtain ⟨ep, he'⟩ := PyProof.Rows.sortedAll_at s.heap its out.toArray
    have hb : SrtO.Stb (fun x y => lexLt (k x) (k y)) (out.map backV) xs := by
      rw [e1]
      exact SrtO.Stb.map (swo_lexl k) backV h2
    have eo : out.map backV = xs := SrtO.stb_uniq (swo_lexl k) (SrtO.srtd_map h1) hup hb
    refine ⟨.ref _, upd H (s.heap.objs.size + 1) (.lst (out.map backV)), I.laid (t' := s.toks) (fun _ _ => PyProof.Rows.sortedAll_old) (Nat.le_succ _) ⟨?_, out, ep, vals_back h3, he'⟩, rfl, ?_⟩
    · rw [hb.len]
      exact hz
    · rw [eo]
      exact q _ (I.hok.fresh (Nat.le_succ _))
theorem rd_lst {H : Hp} {a : Addr} {xs ys : List V} (h1 : Rd H a (.lst xs)) (h2 : Rd H a (.lst ys)) : xs = ys := by
  rcases h1 with h1 | ⟨o, h1⟩ <;> rcases h2 with h2 | ⟨o2, h2⟩ <;> · rw [h1] at h2; cases h2; try rfl
theorem ints_inj : ∀ {ns ms : List Int}, ns.map V.int = ms.map V.int → ns = ms
  | [], [], _ => rfl
  | [], _ :: _, h => by cases h
  | _ :: _, [], h => by cases h
  | n :: ns, m :: ms, h => by
    simp only [List.map_cons, List.cons.injEq, V.int.injEq] at h
    rw [h.1, ints_inj h.2]
open Classical in
/-- the numbers in the list at v -/
noncomputable def numsAt (H : Hp) (v : V) : List Int := if h : ∃ ns : List Int, ∃ t, v = .ref t ∧ Rd H t (.lst (ns.map V.int)) then h.choose else []
theorem numsAt_eq {H : Hp} {t : Addr} {ns : List Int} (h : Rd H t (.lst (ns.map V.int))) : numsAt H (.ref t) = ns := by
  have e : ∃ ns : List Int, ∃ t', V.ref t = .ref t' ∧ Rd H t' (.lst (ns.map V.int)) := ⟨ns, t, rfl, h⟩
  unfold numsAt
  rw [dif_pos e]
  obtain ⟨t', q1, q2⟩ := e.choose_spec
  cases q1
  exact ints_inj (rd_lst q2 h)
theorem intsLV {K : PySem.W.Frag} {G H : Hp} (s : Same G H) : ∀ {ds : List D} {xs : List V} {nss : List (List Int)}, DtA K G xs ds → intsLD ds = some nss → xs.map (numsAt H) = nss ∧ ∀ x ∈ xs, ∃ t, x = V.ref t ∧ SqL K H t ((numsAt H x).map V.int)
  | _, _, _, .nil, h => by cases h; exact ⟨rfl, fun _ z => by cases z⟩
  | d :: ds, _, nss, .cons a b, h => by
    cases d with
    | lst es =>
      cases a with
      | @lst t ys _ h1 h2 =>
        have h : ((intsD es).bind fun ns => (intsLD ds).map (ns :: ·)) = some nss := h
        cases e : intsD es with
        | none => rw [e] at h; cases h
        | some ns =>
          cases e2 : intsLD ds with
          | none => rw [e, e2] at h; cases h
          | some mss =>
            rw [e, e2] at h
            cases h
            obtain ⟨q1, _⟩ := intsV (xs := []) h2 e
            subst q1
            obtain ⟨k1, k2⟩ := intsLV s b e2
            have en := numsAt_eq (Same.rd s h1)
            refine ⟨by rw [List.map_cons, k1, en], fun x hx => ?_⟩
            rcases List.mem_cons.mp hx with rfl | hx
            · exact ⟨t, rfl, .inl (by rw [en]; exact Same.rd s h1)⟩
            · exact k2 x hx
    | _ => cases h
theorem lexUp_pw : ∀ {nss : List (List Int)}, lexUp nss = true → nss.Pairwise fun x y => lexLt y x = false
  | [], _ => .nil
  | x :: xs, h => by
    simp only [lexUp, Bool.and_eq_true, List.all_eq_true] at h
    refine .cons (fun y hy => ?_) (lexUp_pw h.2)
    have := h.1 y hy
    simpa using this
theorem prim_sortedX {K : PySem.W.Frag} : PrimN K (rSortedX K) sortedLD (.ow .im) := by
  intro G H xs ds z Q s hx hz q
  cases hx with
  | nil => cases hz
  | cons h t =>
    cases t with
    | cons h2 t2 => rename_i d _ _ _ _; cases d <;> cases hz
    | nil =>
      cases h with
      | @lst a ys es h1 h2 =>
        have hz : ((intsLD es).bind fun nss => if lexUp nss = true then some (D.lst es) else none) = some z := hz
        cases e : intsLD es with
        | none => rw [e] at hz; cases hz
        | some nss =>
          rw [e] at hz
          have hz : (if lexUp nss = true then some (D.lst es) else none) = some z := hz
          split at hz
          · rename_i hl
            cases hz
            obtain ⟨k1, k2⟩ := intsLV s h2 e
            refine ⟨a, ys, numsAt H, rfl, .inl (Same.rd s h1), k2, ?_, fun p hh => ?_⟩
            · have := lexUp_pw hl
              rw [← k1] at this
              exact List.pairwise_map.mp this
            · exact q _ _ _ _ (Grow.own s hh (fun _ _ z => by cases z) fun _ z => by cases z) (Res.lst s hh h2)
          · cases hz
      | _ => cases hz
end VL

set_option Elab.async false
set_option linter.all false
set_option maxRecDepth 100000
set_option maxHeartbeats 4000000
/-! V26: everything own is lent for one statement. -/
namespace VL
open PySem PySem.Spec PyProof.Rows L2
theorem flatE_len {ρ ρ3 : En} : ∀ {ws : List Nat}, (flatE ρ ρ3 ws).length = ρ.length
  | [] => rfl
  | i :: is => by unfold flatE; rw [List.length_set, flatE_len]
theorem flatE_get {ρ ρ3 : En} {j : Nat} : ∀ {ws : List Nat}, j ∉ ws → (flatE ρ ρ3 ws)[j]? = ρ[j]?
  | [], _ => rfl
  | i :: is, h => by
    show ((flatE ρ ρ3 is).set i _)[j]? = _
    rw [List.getElem?_set_ne (fun e => h (by simp [e]))]
    exact flatE_get fun z => h (List.mem_cons_of_mem _ z)
theorem flatOne_some {ρ3 : En} {i : Nat} {d : D} (h : flatOne ρ3 i = some d) : ρ3[i]? = some (some d) ∧ flat d = true := by
  unfold flatOne at h
  split at h
  · split at h
    · cases h
      exact ⟨by assumption, by assumption⟩
    · cases h
  · cases h
theorem flatE_in {ρ ρ3 : En} {j : Nat} {d : D} : ∀ {ws : List Nat}, j ∈ ws → (flatE ρ ρ3 ws)[j]? = some (some d) → ρ3[j]? = some (some d) ∧ flat d = true
  | [], h, _ => by cases h
  | i :: is, h, e => by
    have e : ((flatE ρ ρ3 is).set i (flatOne ρ3 i))[j]? = some (some d) := e
    by_cases z : j = i
    · subst z
      rw [List.getElem?_set] at e
      simp only [if_true] at e
      split at e
      · exact flatOne_some (Option.some.inj e)
      · cases e
    · rw [List.getElem?_set_ne (fun q => z q.symm)] at e
      exact flatE_in ((List.mem_cons.mp h).resolve_left z) e
section
variable {K : PySem.W.Frag} {C : Ct} {Hm H Hm3 H3 : Hp} {F F3 : Fps} {σ σ3 : L2.St} {ρ ρ3 : En} {is ws keep : List Nat}
theorem bb_outF (r : Rel K C Hm H F σ ρ) (s : Step (lend Hm H F is) H (less F is) Hm3 H3 F3) (r3 : Rel K (C.bb is keep σ) Hm3 H3 F3 σ3 ρ3) (ha : allOk is [] 0 C.Γ = true)
    (hkw : ∀ j, j < C.Γ.length → j ∈ keep ∨ j ∈ ws) (hw : ∀ j ∈ ws, j ∉ C.R) (hi : ∀ j ∈ ws, C.Γ[j]? = some .im) (his : ∀ j ∈ ws, j ∉ is) :
    Rel K C (unlend Hm3 F is) H3 (both F F3 is []) σ3 (flatE ρ ρ3 ws) ∧ Step Hm H F (unlend Hm3 F is) H3 (both F F3 is []) := by
  obtain ⟨r4, s4⟩ := bb_out r s r3 ha hkw hw
  refine ⟨⟨r4.ls, by rw [flatE_len]; exact r.lr, fun i d h => ?_, r4.nd, r4.dj, r4.un, r4.sub, r4.bd, r4.tp, r4.fz, r4.he, r4.ow, fun i h => ?_⟩, s4⟩
  · by_cases hm : i ∈ ws
    · obtain ⟨h1, h2⟩ := flatE_in hm h
      obtain ⟨v, m, k1, k2, k3⟩ := r3.sl i d h1
      have em := bb_im ha k2
      subst em
      refine ⟨v, .im, k1, hi i hm, flat_dt r4.tp r4.fz d h2 (Dt.mono r3.sub _ k3.1), ?_⟩
      unfold both
      rw [if_neg (his i hm)]
      rfl
    · rw [flatE_get hm] at h
      exact r4.sl i d (by rw [wipeE_get hm]; exact h)
  · have hn : i ∉ ws := fun z => hw i z h
    have := r4.fx i h
    rw [wipeE_get hn] at this
    rw [flatE_get hn]
    exact this
end
section
variable {X : Cx} {C : Ct} {st : Stmt} {f : SF}
theorem vs_borF (is ws keep : List Nat) (h1 : ∀ σ, VS X (C.bb is keep σ) .im st f) (ha : allOk is [] 0 C.Γ = true := by rfl)
    (hkw : (List.range C.Γ.length).all (fun j => keep.contains j || ws.contains j) = true := by rfl) (hw : ws.all (fun j => !C.R.contains j && !is.contains j && isImB C.Γ[j]?) = true := by rfl) : VS X C .im st (sBorF ws keep f) := by
  have hkw' : ∀ j, j < C.Γ.length → j ∈ keep ∨ j ∈ ws := fun j hj => by
    have := List.all_eq_true.mp hkw j (List.mem_range.mpr hj)
    simpa using this
  have hw0 : ∀ j ∈ ws, (j ∉ C.R ∧ j ∉ is) ∧ isImB C.Γ[j]? = true := fun j hj => by
    have := List.all_eq_true.mp hw j hj
    simpa using this
  have hw' : ∀ j ∈ ws, j ∉ C.R := fun j hj => (hw0 j hj).1.1
  have his : ∀ j ∈ ws, j ∉ is := fun j hj => (hw0 j hj).1.2
  have hi : ∀ j ∈ ws, C.Γ[j]? = some .im := fun j hj => by
    have := (hw0 j hj).2
    unfold isImB at this
    split at this
    · assumption
    · cases this
  refine ⟨fun pins s σ H D I q => (h1 σ).run pins s σ H D I ?_⟩
  obtain ⟨Hm, F, ρ, r, q⟩ := q
  have q : fin X.K C Hm H F (if keep.all (setAt ρ) = true then (match f ρ with
    | .ok (Fl.next, ρ3) => Rs.ok (Fl.next, flatE ρ ρ3 ws)
    | .ok (Fl.ret d, _) => if flat d = true then Rs.ok (Fl.ret d, wipeE ρ ws) else Rs.bad
    | _ => Rs.bad) else Rs.bad) (OkS X.K C .im Hm H F D) := q
  by_cases hk : keep.all (setAt ρ) = true
  rotate_left
  · rw [if_neg hk] at q; exact q.elim
  rw [if_pos hk] at q
  refine ⟨lend Hm H F is, less F is, ρ, bb_in r ha hk, ?_⟩
  cases e1 : f ρ with
  | bad => rw [e1] at q; exact q.elim
  | err x ρ' => rw [e1] at q; exact q.elim
  | ok p =>
    obtain ⟨fl, ρ1⟩ := p
    rw [e1] at q
    cases fl with
    | next =>
      have q : OkS X.K C .im Hm H F D (.next, flatE ρ ρ1 ws) := q
      intro Hm3 H3 F3 σ3 s3 r3
      obtain ⟨r4, s4⟩ := bb_outF r s3 r3 ha hkw' hw' hi his
      exact q _ _ _ σ3 s4 r4
    | brk => exact q.elim
    | cont => exact q.elim
    | ret d =>
      have q : fin X.K C Hm H F (if flat d = true then Rs.ok (Fl.ret d, wipeE ρ ws) else Rs.bad) (OkS X.K C .im Hm H F D) := q
      by_cases hf : flat d = true
      rotate_left
      · rw [if_neg hf] at q; exact q.elim
      rw [if_pos hf] at q
      have q : OkS X.K C .im Hm H F D (.ret d, wipeE ρ ws) := q
      intro v Hm3 H3 F3 σ3 gg s3 r3 x
      obtain ⟨r4, s4⟩ := bb_out r s3 r3 ha hkw' hw'
      exact q v _ _ _ σ3 [] s4 r4 (Val.im (flat_dt r4.tp r4.fz d hf (Dt.mono r3.sub _ x.of_im)))
end
end VL

set_option Elab.async false
set_option linter.all false
set_option maxRecDepth 100000
set_option maxHeartbeats 4000000
/-! V27: repr of a list of things, some of which are {}. -/
namespace VL
open PySem PySem.Spec PyProof.Rows L2
section
variable {X : Cx} {pins : List (Addr × Obj)} {σ : L2.St} {H : Hp} {s : Shared}
/-- one item -/
theorem itemM (I : Inv X pins σ H s) {v : V} {u : Value} {d : D} (h : Dt X.K H v d) (hk : (okR 58 d || isED d) = true) (ru : RelV v u) (hz : (toPy d).shown.length ≤ sizeLine) :
    (∃ as, Reads s.heap u (toPy d) as) ∧ (toPy d).depth ≤ 58 ∧ ∃ bs, ReadAtMost s.heap (toPy d).depth bs ∧ ReprK X.prog X.w bs s.heap (toPy d).depth u (toPy d).shown := by
  rcases Bool.or_eq_true _ _ ▸ hk with hk | hk
  · obtain ⟨h3, h4, h5⟩ := okR_dp 58 d hk h
    obtain ⟨as, hr⟩ := Dp.reads I (toPy d) v u h3 ru
    obtain ⟨_, h2⟩ := shown_le 58 d hk
    exact ⟨⟨as, hr⟩, h5, ReprK.of_reads hr h2 (fun z => by rw [h4] at z; cases z) hz⟩
  · cases h with
    | @dct a kvs kds hR b =>
      cases b with
      | cons _ _ => cases hk
      | nil =>
        cases ru
        obtain ⟨_, hS, vs, rel, o, es, ep, e1, e2, e3, e4, e5, e6⟩ := dk_rd I.hok hR
        cases rel
        have e5' : es.toList = [] := by
          cases e : es.toList with
          | nil => rfl
          | cons y ys => rw [e] at e5; cases e5
        have hr : Reads s.heap (.ref a) (.dict []) (a :: [] ++ []) := .dict e1 e2.1 e3 (by rw [e5']; exact .nil) (by rw [e5']; exact .nil)
        refine ⟨⟨_, hr⟩, by decide, ReprK.of_reads hr rfl (fun _ hm => ?_) hz⟩
        rw [List.append_nil, List.mem_singleton] at hm
        rw [hm] at hS
        simp at hS
    | _ => cases hk
/-- all items -/
theorem itemsM (I : Inv X pins σ H s) : ∀ {ds : List D} {vs : List V} {us : List Value}, DtA X.K H vs ds → okM ds = true → Vals vs us → (∀ t ∈ PyData.shownAll (toPyA ds), t.length ≤ sizeLine) →
    (∃ as, ReadsAll s.heap us (toPyA ds) as) ∧ PyData.depthAll (toPyA ds) ≤ 58 ∧ ∃ bs, ReadAtMost s.heap (PyData.depthAll (toPyA ds)) bs ∧ ReprAllK X.prog X.w bs s.heap (PyData.depthAll (toPyA ds)) us (PyData.shownAll (toPyA ds))
  | [], _, _, .nil, _, r, _ => by
    cases r
    exact ⟨⟨_, .nil⟩, Nat.zero_le _, [], (fun _ h => nomatch h), .nil⟩
  | d :: ds, _, _, .cons h t, hk, r, hz => by
    cases r with
    | cons r1 r2 =>
      have hk : ((okR 58 d || isED d) && okM ds) = true := by simpa [okM] using hk
      rw [Bool.and_eq_true] at hk
      obtain ⟨⟨as1, q1⟩, p1, b1, m1, k1⟩ := itemM I h hk.1 r1 (hz _ (by show _ ∈ (toPy d).shown :: PyData.shownAll (toPyA ds); exact List.mem_cons_self))
      obtain ⟨⟨as2, q2⟩, p2, b2, m2, k2⟩ := itemsM I t hk.2 r2 fun y hy => hz y (by show _ ∈ (toPy d).shown :: PyData.shownAll (toPyA ds); exact List.mem_cons_of_mem _ hy)
      refine ⟨⟨_, .cons q1 q2⟩, ?_, b1 ++ b2, ?_, ?_⟩
      · show max (toPy d).depth (PyData.depthAll (toPyA ds)) ≤ 58
        exact Nat.max_le.mpr ⟨p1, p2⟩
      · intro b hm
        show ∃ d' as', Reads s.heap (.ref b) d' as' ∧ d'.depth ≤ max (toPy d).depth (PyData.depthAll (toPyA ds))
        rcases List.mem_append.mp hm with hm | hm
        · obtain ⟨d', as', r', hd'⟩ := m1 b hm
          exact ⟨d', as', r', Nat.le_trans hd' (Nat.le_max_left _ _)⟩
        · obtain ⟨d', as', r', hd'⟩ := m2 b hm
          exact ⟨d', as', r', Nat.le_trans hd' (Nat.le_max_right _ _)⟩
      · show ReprAllK X.prog X.w (b1 ++ b2) s.heap (max (toPy d).depth (PyData.depthAll (toPyA ds))) _ ((toPy d).shown :: PyData.shownAll (toPyA ds))
        exact .cons ((k1.more fun b hb => List.mem_append_left _ hb).level_le (Nat.le_max_left _ _)) (k2.more_le (fun b hb => List.mem_append_right _ hb) (Nat.le_max_right _ _))
theorem shownM_le : ∀ (ds : List D), okM ds = true → piled (PyData.shownAll (toPyA ds)) ≤ rszA ds
  | [], _ => Nat.le_refl _
  | d :: ds, h => by
    have hk : ((okR 58 d || isED d) && okM ds) = true := by simpa [okM] using h
    rw [Bool.and_eq_true] at hk
    have h3 := shownM_le ds hk.2
    have h1 : (toPy d).shown.length ≤ rsz d := by
      rcases Bool.or_eq_true _ _ ▸ hk.1 with q | q
      · exact (shown_le 58 d q).1
      · cases d with
        | dct kvs =>
          cases kvs with
          | nil => exact Nat.le_refl 2
          | cons _ _ => cases q
        | _ => cases q
    show piled ((toPy d).shown :: PyData.shownAll (toPyA ds)) ≤ rsz d + 2 + rszA ds
    rw [piled_cons]
    omega
end
def rReprM (X : Cx) : List V → Hp → VK → Prop := fun xs H Q => ∃ a ys ds, xs = [.ref a] ∧ Rd H a (.lst ys) ∧ DtA X.K H ys ds ∧ okM ds = true ∧ rsz (.lst ds) ≤ 16000000 ∧ Q (.str (reprS (.lst ds))) H
theorem call_reprM {X : Cx} (hg : X.A.guards = some []) (hu : X.A.units + 64 < cLine) : CallR X (.builtin "repr") (rReprM X) := by
  intro pins s σ H xs us Q I r h
  obtain ⟨a, ys, ds, rfl, hR, hd, hk, hz, q⟩ := h
  obtain ⟨u, rfl, ru⟩ := r.one
  cases ru
  obtain ⟨_, its, n, rv, ho⟩ := hR.ok I.hok
  have hl : (listText (PyData.shownAll (toPyA ds))).length ≤ sizeLine := by
    have h1 := listText_le (PyData.shownAll (toPyA ds))
    have h2 := shownM_le ds hk
    have h3 : 2 + rszA ds ≤ 16000000 := hz
    rw [sizeLine_eq]
    omega
  obtain ⟨⟨as, ra⟩, hdep, bs, hb, hk⟩ := itemsM I hd hk rv fun t ht => Nat.le_trans (listText_mem_le ht) hl
  have h1 : s.heap.get? a = some { cls := .type "list", data := .seq its.toArray n } := ho
  have hr : Reads s.heap (.ref a) (.list (toPyA ds)) (a :: as) := .list h1 rfl rfl (by simpa using ra)
  have hna : a ∉ bs := not_mem_of_deeper hr (by simp only [PyData.depth]; omega) hb
  have e : reprS (.lst ds) = listText (PyData.shownAll (toPyA ds)) := by unfold reprS; rfl
  have q' : ∀ h' u tk, (∀ b o, s.heap.get? b = some o → h'.get? b = some o) → EP X pins σ Q (.str (listText (PyData.shownAll (toPyA ds))) u) { s with heap := h', toks := tk } := fun h' u tk hk => ⟨.str _, H, I.kept hk, ⟨_, rfl⟩, by rw [← e]; exact q⟩
  have hT : s.TypeIs (.ref a) "list" := ⟨_, h1, rfl⟩
  refine call_repr_slot (by omega) hT PySem.F.slot_list_repr.toG ?_
  have q2 : ∀ h' u tk, (∀ b o, s.heap.get? b = some o → h'.get? b = some o) → (fun r s' => ∃ x t, r = Value.str x t ∧ EP X pins σ Q r s') (.str (listText (PyData.shownAll (toPyA ds))) u) { s with heap := h', toks := tk } := fun h' u tk hk => ⟨_, _, rfl, q' h' u tk hk⟩
  cases its with
  | nil =>
    have h4 : ReadsAll s.heap [] (toPyA ds) as := ra
    cases h4x : toPyA ds with
    | cons y yy => rw [h4x] at h4; cases h4
    | nil =>
      rw [h4x] at q2
      simp only [PyData.shownAll, listText_nil] at q2
      exact call_list_repr_empty hT h1 rfl (q2 s.heap _ _ fun _ _ e => e)
  | cons x l =>
    exact call_list_reprK h1 rfl rfl hna (by simpa using hk.length_eq) (fun i y e => hk.item i y (by simpa using e)) hg (fun b _ => Clear.nil b) (by show X.A.units + 1 + _ < cLine; omega) (fun _ _ e => e) (fun h' u tk hk => q2 h' u tk hk) hl
section
variable {X : Cx} {C : Ct} {e : Expr} {f : EF} {j : Nat} {pos p : Pos}
theorem prim_reprM : PrimN X.K (rReprM X) (fun ds => match ds with | [d] => reprM d | _ => none) .im := by
  intro G H xs ds z Q s hx hz q
  cases hx with
  | nil => cases hz
  | cons h t =>
    cases t with
    | cons h2 t2 => cases hz
    | nil =>
      rename_i d
      have hz : reprM d = some z := hz
      cases h with
      | @lst a ys es h1 h2 =>
        have hz : (if (okM es && decide (rsz (.lst es) ≤ 16000000)) = true then some (D.str (reprS (.lst es))) else none) = some z := hz
        split at hz
        · rename_i hk
          rw [Bool.and_eq_true, decide_eq_true_eq] at hk
          cases hz
          exact ⟨a, ys, es, rfl, Same.rd s h1, DtA.mono s _ h2, hk.1, hk.2, q _ G H [] (Grow.refl s) (Res.im (.str _))⟩
        · cases hz
      | _ => cases hz
theorem ve_reprM (hr : RoomG j X.A) (hm : X.mg "repr" = none) (h : VE X C .im e f) (hg : Gl X "repr" := by rfl) (he : starEach [e] X.env = (false, eval e X.env) :: starEach [] X.env := by rfl) (hpl : (backTo pos (starEach [] X.env)).any (·.1) = false := by rfl) :
    VE X C .im (.Call (.Name "repr" p) [e] [] pos) (eOp1 reprM f) := by
  refine PE.mono (pe_callB (call_reprM hr.gd hr.u64) hg hm (by decide +kernel) (pa_cons h pa_nil he) (by decide) (by decide) he hpl) fun σ H Q ⟨Hm, F, ρ, r, q⟩ => ?_
  refine ⟨Hm, F, ρ, r, q.bind.imp fun p hq v Hm1 H1 F1 g1 s1 r1 x1 => ?_⟩
  obtain ⟨z, ez, hz⟩ := hq.bind.of
  exact prim_reprM Hm1 H1 [v] [p.1] z Q r1.sub (.cons x1.of_im .nil) ez fun w G' H' f gr rs => endE hz s1 r1 gr rs
end
end VL

set_option Elab.async false
set_option linter.all false
set_option maxRecDepth 100000
set_option maxHeartbeats 4000000
/-! V28: sorted(set(list of ints)); dicts of one's own are written and read. -/
namespace VL
open PySem PySem.Spec PyProof.Rows L2
/-- the set that stands before anything is put into it -/
def set0 (w : World) : Obj := { cls := .type "set", dict := none, data := .set #[] 0 (.fresh 0 0 (!w.params.followText "set-order")) }
section
variable {P : Program} {w : World} {A : Around} {E : Value → Shared → Prop} {s : Shared}
/-- the start of set(l): an empty set, then its update from the list -/
theorem set_lst_init {l : Addr} {items : Array Value} {ns : List Int} {S : Addr} {s : Shared} (hd : A.handled = none) (hS : s.heap.get? S = some (set0 w)) (hl : s.heap.IsList l items) (hi : IntsAre items.toList ns) (hb : ns.length + 1 < scanBound) (hne : l ≠ S)
    {R : PySem.Fin → Shared → Prop} (k : ∀ h' tk c, SetR w h' S (fun j => decide (j ∈ ns)) c → c ≤ ns.length → (∀ b o, b ≠ S → s.heap.get? b = some o → h'.get? b = some o) → R (.done (.ret .none)) { s with heap := h', toks := tk }) :
    wpAny (model P w) A (Builtin.«set.__init__» ⟨[.ref S, .ref l], []⟩) R E s := by
  have hsz : items.size = ns.length := by have := hi.length; simpa using this
  obtain ⟨⟨oc, od, odat, osl⟩, go, hc, nl, hdat⟩ := id hl
  simp only at hc hdat
  subst hc hdat
  have q1 := F.sub_list_set
  have q2 := F.sub_list_frozenset
  have q3 : (Value.type "list" == Value.type "dict") = false := by decide
  unfold Builtin.«set.__init__» noKeywords Builtin.Frozenset.updateFrom
  generalize hPI : pyIter = PI
  wp_walk
  subst hPI
  refine wpAny_pyIter_list hl ?_
  refine wpAny_bind (wpAny_runValue ?_)
  have hSlt : S < s.heap.objs.size := Heap.lt_size hS
  have hllt : l < s.heap.objs.size := Heap.lt_size go
  have nI : l ≠ s.heap.objs.size := Nat.ne_of_lt hllt
  have nS : S ∉ [s.heap.objs.size, l] := by
    simp only [List.mem_cons, List.not_mem_nil, or_false, not_or]
    exact ⟨Nat.ne_of_lt hSlt, fun z => hne z.symm⟩
  have val : ∀ (i : Nat) (v : Value), items[i]? = some v → ∃ k t, ns[i]? = some k ∧ v = .int k t := fun i v hv => by
    have hlt : i < ns.length := by rw [← hsz]; exact (Array.getElem?_eq_some_iff.mp hv).1
    obtain ⟨t, e⟩ := PyProof.Rows.IntsAre.int_at hi i v (by rw [Array.getElem?_toList]; exact hv)
    exact ⟨ns[i], t, List.getElem?_eq_getElem hlt, by rw [e, List.getD_eq_getElem?_getD, List.getElem?_eq_getElem hlt]; rfl⟩
  refine set_update_ints ((Walks.list (by simp [hd]) _ l nI items).toS) S nS ns hsz hb val (items.size - 0) 0 _ (by omega) (Nat.zero_le _) ⟨⟨_, Heap.get?_push_size _ rfl, rfl, rfl⟩, (hl.push _)⟩ ⟨0, Nat.le_refl 0, setR_new_at (Heap.get?_push_of_some _ hS)⟩ fun s' c mv hc' hS' => ?_
  obtain ⟨h2, g2, d2, t2, o2⟩ := s'
  have eg : g2 = s.gens := mv.gens
  have ed : d2 = s.drawn := mv.drawn
  have eo : o2 = s.os := mv.os
  subst eg ed eo
  rw [hsz] at hc'
  refine wpAny_pure ?_
  show wpAny _ _ (ret Value.none) _ _ _
  refine wpAny_pure (k h2 t2 c hS' hc' fun b o nb e => ?_)
  have hb0 : b < s.heap.objs.size := Heap.lt_size e
  exact mv.heap b o (by simp only [List.mem_cons, List.not_mem_nil, or_false, not_or]; exact ⟨nb, Nat.ne_of_lt hb0⟩) (Heap.get?_push_of_some _ e)
set_option maxHeartbeats 8000000 in
theorem call_set_lst {l : Addr} {items : Array Value} {ns : List Int} {Q : Value → Shared → Prop} (hd : A.handled = none) (hl : s.heap.IsList l items) (hi : IntsAre items.toList ns) (hb : ns.length + 1 < scanBound)
    (k : ∀ (h' : Heap) (tk c : Nat), SetR w h' s.heap.objs.size (fun j => decide (j ∈ ns)) c → c ≤ ns.length → (∀ b o, s.heap.get? b = some o → h'.get? b = some o) → Q (.ref s.heap.objs.size) { s with heap := h', toks := tk }) :
    wpAny (model P w) A (call (.type "set") [.ref l]) Q E s := by
  obtain ⟨cc, tl, mro⟩ := F.called_set.mro
  have made := F.called_set.made
  have sub := F.called_set.sub
  refine wpAny_call (codeAny_of_tree ?_)
  show wpAny _ _ (callAny (.type "set") _) _ _ _
  refine wpAny_pure ⟨Code.quiet_builtin _ (by decide +kernel), codeAny_builtin F.entry_type_call ?_⟩
  rw [Around.under_plain (weight_type_call_type "set" [.ref l] []) rfl]
  have n1 := F.called_set.notType
  have n2 := F.called_set.canCreate
  have n3 := F.typeCall_set_1 (.ref l)
  repeat (any_goals (first | assumption | wp_step))
  refine codeAny_mono (code_set_led1 (.ref l) (E := E) (Q₁ := fun obj s₁ => obj = .ref s.heap.objs.size ∧ s₁ = { s with heap := s.heap.push (set0 w) }) ⟨rfl, rfl⟩) fun r s₁ hr => ?_
  cases r with
  | error e => exact hr
  | ok fl =>
    cases fl with
    | ret obj =>
      obtain ⟨rfl, rfl⟩ := hr
      have gS : (s.heap.push (set0 w)).get? s.heap.objs.size = some (set0 w) := Heap.get?_push_size _ rfl
      have hT : Shared.TypeIs { s with heap := s.heap.push (set0 w) } (.ref s.heap.objs.size) "set" := ⟨_, gS, rfl⟩
      have look := F.called_set.init.lookup
      have bnd := F.called_set.init.bind (.ref s.heap.objs.size)
      repeat (any_goals (first | assumption | wp_step))
      have hlt : l < s.heap.objs.size := Heap.lt_size hl.choose_spec.1
      refine codeAny_mono (codeAny_call_builtin (R := wants (fun r s₂ => r = .none ∧ ∃ h' tk c, s₂ = { s with heap := h', toks := tk } ∧ SetR w h' s.heap.objs.size (fun j => decide (j ∈ ns)) c ∧ c ≤ ns.length ∧
          (∀ b o, s.heap.get? b = some o → h'.get? b = some o)) E) F.called_set.init.plain F.entry_set_init (check_set_init_1 hT ?_)) fun r₂ s₂ hr₂ => ?_
      · exact set_lst_init (s := { s with heap := s.heap.push (set0 w) }) (by simp [hd]) gS (hl.push _) hi hb (Nat.ne_of_lt hlt) fun h' tk c h1 h2 h3 => ⟨rfl, h', tk, c, rfl, h1, h2, fun b o e => h3 b o (Nat.ne_of_lt (Heap.lt_size e)) (Heap.get?_push_of_some _ e)⟩
      · cases r₂ with
        | error e => exact hr₂
        | ok fl₂ =>
          cases fl₂ with
          | ret r =>
            obtain ⟨rfl, h', tk, c, rfl, h1, h2, h3⟩ := hr₂
            repeat (any_goals (first | assumption | wp_step))
            exact k _ _ _ h1 h2 h3
          | _ => exact hr₂.elim
    | _ => exact hr.elim
end
/-- sorted(set(xs)), xs a list of ints -/
def tSortedSet (K : PySem.W.Frag) (ta : TE) : TE := fun σ H Q => ta σ H fun x H1 => ∃ (l : Addr) (ns : List Int), x = .ref l ∧ SqL K H1 l (ns.map V.int) ∧ ns.length < 63 ∧ ∀ p, H1 p = none → Q (.ref p) (upd H1 p (.lst ((dsort ns).map V.int)))
theorem pe_sortedSet {X : Cx} {a : Expr} {ta : TE} {p p2 q pos : Pos} (hg : Gl X "sorted") (hm : X.mg "sorted" = none) (hg2 : Gl X "set") (hm2 : X.mg "set" = none) (ha : PE X a ta) (hc : X.calm = true := by rfl)
    (na : starEach [a] X.env = (false, eval a X.env) :: starEach [] X.env := by rfl) : PE X (.Call (.Name "sorted" p) [.Call (.Name "set" p2) [a] [] q] [] pos) (tSortedSet X.K ta) := by
  refine ⟨fun pins s σ H Q I h => ?_⟩
  refine Call_ (ld_blt (u := .builtin "sorted") I hg hm (by decide +kernel) ?_)
  refine PyProof.Rows.callWith_builtin1 (PyProof.Rows.args_cons ?_ rfl) rfl rfl
  refine Call_ (ld_blt (u := .type "set") I hg2 hm2 (by decide +kernel) ?_)
  refine PyProof.Rows.callWith_type1 (PyProof.Rows.args_cons (thn (ha.run pins s σ H _ I h) fun v s1 ⟨x, H1, I1, r1, q1⟩ => PyProof.Rows.args_nil ?_) na) na rfl
  obtain ⟨l, ns, rfl, hq, hl, q1⟩ := q1
  cases r1
  obtain ⟨its, r, pl, hz⟩ := I1.list hq
  refine call_set_lst (I1.ok.hd hc) pl.isList (ns := ns) (by simpa using Vals.ints r) (by unfold scanBound; omega) fun h' tk c R hcn hk => ?_
  refine PyProof.Rows.args_nil ?_
  have I2 : Inv X pins σ H1 { s1 with heap := h', toks := tk } := I1.kept hk
  refine sorted_set R (I2.ok.hd hc) (by omega) fun s' b out c2 ms k g o hb hg' hi hs hmem hlen => ?_
  have em : ms = dsort ns := up_uniq hs (dsort_up ns) fun k => by rw [hmem k, dsort_mem]; exact decide_eq_true_iff
  subst em
  have hsz : ((dsort ns).map V.int).length ≤ sizeLine := by rw [List.length_map, hlen, sizeLine_eq]; omega
  have hn : H1 b = none := I2.hok.fresh hb
  have J : Inv X pins σ (upd H1 b (.lst ((dsort ns).map V.int))) { ({ s1 with heap := h', toks := tk } : Shared) with heap := s'.heap, gens := s'.gens, drawn := s'.drawn, toks := s'.toks } :=
    I2.call (ch := []) (Un.laid k hb hn) (I2.hok.laid k hb ⟨hsz, out.toList, c2, vals_of_ints hi, hg'⟩) (by rw [g]; exact I2.bare) (fun _ z => nomatch z)
  have e : s' = { ({ s1 with heap := h', toks := tk } : Shared) with heap := s'.heap, gens := s'.gens, drawn := s'.drawn, toks := s'.toks } := by
    cases s'
    cases s1
    cases o
    rfl
  rw [e]
  exact ⟨.ref b, _, J, rfl, q1 b hn⟩
section
variable {X : Cx} {C : Ct} {a : Expr} {fa : EF} {p p2 q pos : Pos}
theorem ve_sortedSet (hm : X.mg "sorted" = none) (hm2 : X.mg "set" = none) (ha : VE X C .im a fa) (hg : Gl X "sorted" := by rfl) (hg2 : Gl X "set" := by rfl) (hc : X.calm = true := by rfl)
    (na : starEach [a] X.env = (false, eval a X.env) :: starEach [] X.env := by rfl) : VE X C (.ow .im) (.Call (.Name "sorted" p) [.Call (.Name "set" p2) [a] [] q] [] pos) (eOp1 sortedSetD fa) :=
  PE.mono (pe_sortedSet hg hm hg2 hm2 ha hc na) fun σ H Q ⟨Hm, F, ρ, r, q⟩ => by
    refine ⟨Hm, F, ρ, r, q.bind.imp fun p hq v Hm1 H1 F1 g1 s1 r1 x1 => ?_⟩
    obtain ⟨z, ez, hz⟩ := hq.bind.of
    have hx : Dt X.K H1 v p.1 := Dt.mono r1.sub _ x1.of_im
    generalize p.1 = d at ez hx
    cases hx with
    | @lst b xs ds h1 h2 =>
      have ez : ((intsD ds).bind fun ns => if ns.length < 63 then some (D.lst ((dsort ns).map .int)) else none) = some z := ez
      cases e : intsD ds with
      | none => rw [e] at ez; cases ez
      | some ns =>
        rw [e] at ez
        have ez : (if ns.length < 63 then some (D.lst ((dsort ns).map .int)) else none) = some z := ez
        split at ez
        · rename_i hl
          cases ez
          obtain ⟨e1, e2⟩ := intsV (xs := []) h2 e
          subst e1
          refine ⟨b, ns, rfl, .inl h1, hl, fun p hp => ?_⟩
          exact endE hz s1 r1 (Grow.own r1.sub hp (fun _ _ z => by cases z) fun _ z => by cases z) (Res.lst r1.sub hp (prim_sorted.dt_ints _))
        · cases ez
    | _ => cases ez
end
/-! ### d[k] = v -/
section
variable {K : PySem.W.Frag} {H : Hp}
theorem DtK.any {k : Key} : ∀ {kvs : List (Key × V)} {kds : List (Key × D)}, DtK K H kvs kds → (kvs.any fun kv => decide (kv.1 = k)) = kds.any fun kv => decide (kv.1 = k)
  | _, _, .nil => rfl
  | _, _, .cons _ t => by rw [List.any_cons, List.any_cons, DtK.any t]
theorem DtK.repl {k : Key} {v : V} {d : D} (h : Dt K H v d) : ∀ {kvs : List (Key × V)} {kds : List (Key × D)}, DtK K H kvs kds → DtK K H (kvs.map fun kv => if kv.1 = k then (kv.1, v) else kv) (kds.map fun kv => if kv.1 = k then (kv.1, d) else kv)
  | _, _, .nil => .nil
  | _, _, @DtK.cons _ _ k1 v1 vs d1 ds a t => by
    rw [List.map_cons, List.map_cons]
    by_cases e : k1 = k
    · rw [if_pos e, if_pos e]; exact .cons h (DtK.repl h t)
    · rw [if_neg e, if_neg e]; exact .cons a (DtK.repl h t)
theorem DtK.snoc {k : Key} {v : V} {d : D} (h : Dt K H v d) : ∀ {kvs : List (Key × V)} {kds : List (Key × D)}, DtK K H kvs kds → DtK K H (kvs ++ [(k, v)]) (kds ++ [(k, d)])
  | _, _, .nil => .cons h .nil
  | _, _, .cons a t => .cons a (DtK.snoc h t)
theorem DtK.put {k : Key} {v : V} {d : D} (h : Dt K H v d) {kvs : List (Key × V)} {kds : List (Key × D)} (t : DtK K H kvs kds) : DtK K H (putK kvs k v) (putD kds k d) := by
  unfold putK putD
  rw [t.any]
  split
  · exact t.repl h
  · exact t.snoc h
theorem DtK.len : ∀ {kvs : List (Key × V)} {kds : List (Key × D)}, DtK K H kvs kds → kvs.length = kds.length
  | _, _, .nil => rfl
  | _, _, .cons _ t => congrArg (· + 1) (DtK.len t)
end
/-- the own dict in slot i, its values read alone -/
theorem Rel.ownD {K : PySem.W.Frag} {C : Ct} {Hm H : Hp} {F : Fps} {σ : L2.St} {ρ : En} (r : Rel K C Hm H F σ ρ) {i : Nat} {kds : List (Key × D)} (h : ρ[i]? = some (some (.dct kds))) (hm : C.Γ[i]? = some (.ow .im)) :
    ∃ a kvs, σ[i]? = some (some (.ref a)) ∧ H a = some (.dK kvs) ∧ DtK K Hm kvs kds ∧ F i = [a] := by
  obtain ⟨v, m, h1, h2, h3⟩ := r.sl i _ h
  rw [hm] at h2
  cases h2
  obtain ⟨a, rfl, h4⟩ := h3
  rcases h4 with ⟨_, _, _, e, _⟩ | ⟨kvs, kds', g, e, ho, hall, ef⟩ | ⟨_, _, _, _, _, hk, _⟩
  · cases e
  · cases e
    obtain ⟨q1, q2⟩ := allk_im hall
    subst q2
    exact ⟨a, kvs, h1, ho, q1, ef⟩
  · exact absurd rfl hk
section
variable {X : Cx} {C : Ct} {rm : Md} {e ek : Expr} {fe fk : EF} {x : Str} {i : Nat} {pos p p2 : Pos}
theorem dset_red {D : Ends} {σ : L2.St} {H : Hp} (hm : C.Γ[i]? = some (.ow .im)) (h : tS X.K C rm (sDSet i fk fe) D σ H) : tAsg (tE X.K C .im fe) (gSub (tVar i) (tE X.K C .im fk) rSetD) D σ H := by
  obtain ⟨Hm, F, ρ, r, q⟩ := h
  refine ⟨Hm, F, ρ, r, q.bind.imp fun p hq v Hm1 H1 F1 g1 s1 r1 x1 => ?_⟩
  obtain ⟨d, ρ1⟩ := p
  have hq : fin X.K C Hm H F (match ρ1[i]? with
    | some (some (.dct _)) => fk ρ1 >>= fun q => (match q.2[i]?, keyD q.1 with
      | some (some (.dct kds)), some k => if kds.length < LINE then Rs.ok (Fl.next, q.2.set i (some (.dct (putD kds k d)))) else .bad
      | _, _ => .bad)
    | _ => .bad) _ := hq
  split at hq
  · rename_i kds0 e0
    obtain ⟨a, kvs0, h1, h2, _, _⟩ := r1.ownD e0 hm
    refine ⟨.ref a, h1, Hm1, F1, ρ1, r1, (hq.step s1).bind.imp fun p2 hq2 w Hm2 H2 F2 g2 s2 r2 x2 => ?_⟩
    obtain ⟨dk, ρ2⟩ := p2
    have hq2 : fin X.K C Hm1 H1 F1 (match ρ2[i]?, keyD dk with
      | some (some (.dct kds)), some k => if kds.length < LINE then Rs.ok (Fl.next, ρ2.set i (some (.dct (putD kds k d)))) else .bad
      | _, _ => .bad) _ := hq2
    split at hq2
    · rename_i kds k e1 ek
      split at hq2
      · rename_i hlen
        have ew := keyD_of x2.of_im ek
        subst ew
        obtain ⟨a', kvs, h3, h4, hall, hF⟩ := r2.ownD e1 hm
        rw [h1] at h3
        cases h3
        have hv : Dt X.K Hm2 v d := Dt.mono s2.sm _ x1.of_im
        refine ⟨a, _, rfl, DPut.k h4 (by rw [hall.len, line_eq]; exact hlen), ?_⟩
        have r3 := r2.rew (a := a) (o := .dK (putK kvs k v)) (g := [a]) (d := .dct (putD kds k d)) hm h1 (by rw [hF]; exact List.mem_cons_self)
          ⟨a, rfl, .inr (.inl ⟨_, _, [], rfl, upd_same, imk_all (hall.put hv), rfl⟩)⟩
          (by simp)
          (fun b hb => by rw [List.mem_singleton.mp hb]; exact r2.un i a (by rw [hF]; exact List.mem_cons_self))
          (fun b hb j hj hbj => by rw [List.mem_singleton.mp hb] at hbj; exact hj (r2.dj j i a hbj (by rw [hF]; exact List.mem_cons_self)))
          (fun b hb => .inl (by rw [hF]; exact hb)) (fun _ z => by cases z) (fun _ _ z => by cases z)
        refine hq2 Hm2 _ _ σ ((s1.trans s2).rew (by rw [hF]; exact List.mem_cons_self) ⟨_, h4⟩ fun b hb => .inl (by rw [hF]; exact hb)) r3
      · exact hq2.elim
    · exact hq2.elim
  · exact hq.elim
theorem vs_dset (hu : X.A.units + 1 < cLine) (h : VE X C .im e fe) (hk : VE X C .im ek fk) (hm : C.Γ[i]? = some (.ow .im) := by rfl) (hN : X.N[i]? = some x := by rfl) (hv : Vis X.env.scope x := by first | exact Or.inl rfl | exact Or.inr (Or.inl rfl) | exact Or.inr (Or.inr rfl))
    (hd : (x == ("__debug__" : Str)) = false := by decide) (hcd : (x == ("__classdict__" : Str)) = false := by decide)
    (ha : ∀ v, assign (.Subscript (.Name x p) ek p2) X.env v = (do
      let ov ← holding [v] (eval (.Name x p) X.env)
      let iv ← holding [v, ov] (eval ek X.env)
      standAt p2
      holding [v, ov, iv] (setItem ov iv v)
      release [v, ov, iv] []) := by intro _; rfl)
    (hs : swapsWithSole [.Subscript (.Name x p) ek p2] e pos.line X.env = pure false := by rfl) (hw : swappedStores [.Subscript (.Name x p) ek p2] e X.env = pure none := by rfl)
    (h1 : (assignEach [.Subscript (.Name x p) ek p2] X.env).map (·.2) = [assign (.Subscript (.Name x p) ek p2) X.env] := by rfl) :
    VS X C rm (.Assign [.Subscript (.Name x p) ek p2] e pos) (sDSet i fk fe) :=
  PS.mono (ps_asg h (pg_sub (pe_var hN hv hd hcd) hk (set_dict hu) ha) hs hw h1) fun _ _ _ => dset_red hm
end
section
variable {X : Cx} {C : Ct} {es : List Expr} {gs : List GF} {is : List Nat} {pos : Pos}
theorem vg_unl {k : Nat} {n : Nat} (h : VGs X C es is gs) (hc : X.calm = true := by rfl) (hl : gs.length = n := by rfl) (hn : (assignEach es X.env).length = n := by rfl) (hst : (assignEach es X.env).findIdx? (·.1) = none := by rfl) : VGt X C (.Tuple es k pos) is (gLstF gs) := by
  refine PG.mono (pg_unl hc h hn hst) fun v σ H Q ⟨Hm, F, ρ, d, r, dt, q⟩ => ?_
  cases dt with
  | @lst a xs ds h1 h2 =>
    have q : fin X.K C Hm H F (if ds.length = gs.length then gAll gs ds ρ else .bad) _ := q
    by_cases hx : ds.length = gs.length
    · rw [if_pos hx] at q
      exact ⟨a, xs, rfl, .inl (Same.rd r.sub h1), (h2.length.trans hx).trans hl, Hm, F, ρ, ds, r, h2, q⟩
    · rw [if_neg hx] at q
      exact q.elim
  | _ => exact q.elim
end
end VL

set_option Elab.async false
set_option linter.all false
set_option maxRecDepth 100000
set_option maxHeartbeats 4000000
/-! V29: own classes: their objects made, read, their fields stored while they are made. -/
namespace VL
open PySem PySem.Spec PyProof.Rows L2

/-- what ClsK asks, to be seen in the kernel -/
def clsB (K : PySem.W.Frag) (c : Str) : Bool :=
  (He.Fa.cls c).ok K && (He.eqO (PySem.W.findIn K (.ref (He.ga K c)) "__class__") (some (some (.builtin "object.__class__"))) &&
  (He.eqO (PySem.W.specialIn K (.builtin "object.__class__") "__get__") (some (some (.builtin "getset_descriptor.__get__"))) &&
  (decide (PySem.W.takesIn K (.builtin "object.__class__") = some true) && (decide (PySem.W.mroIn K (He.ga K c) (.type "object") = some true) &&
  ((["int", "bool", "str", "list", "tuple"].all fun T => decide (PySem.W.kitOne K (.ref (He.ga K c)) (.type T) = some false)) && ((objF c).all fun f => (He.Fa.noat c f).ok K))))))
theorem clsB_ok {K : PySem.W.Frag} {c : Str} (h : clsB K c = true) : ClsK K c := by
  obtain ⟨h1, h⟩ := He.ba h
  obtain ⟨h2, h⟩ := He.ba h
  obtain ⟨h3, h⟩ := He.ba h
  obtain ⟨h4, h⟩ := He.ba h
  obtain ⟨h5, h⟩ := He.ba h
  obtain ⟨h6, h7⟩ := He.ba h
  refine ⟨He.cls_ok h1, fun e => .ins e (He.cls_ok h1) (He.eqO_ok h2) (He.eqO_ok h3) (of_decide_eq_true h4) (of_decide_eq_true h5), fun T hT => of_decide_eq_true (List.all_eq_true.mp h6 T hT), fun f hf => He.noat_ok (List.all_eq_true.mp h7 f hf)⟩

theorem AllK.fld {P : Key → V → D → List Addr → Prop} {f : Str} : ∀ {fs : List (Str × V)} {kds : List (Key × D)} {g : List Addr} {d : D}, AllK P (kkM fs) kds g → fldO f kds = some d → ∃ v gv, fs.lookup f = some v ∧ P (.inr f) v d gv ∧ ∀ a ∈ gv, a ∈ g
  | [], _, _, _, h, e => by cases h; cases e
  | (x, y) :: fs, _, _, d, h, e => by
    cases h with
    | @cons _ _ _ d0 ds g1 g2 h1 h2 =>
      have e : (if (Sum.inr x : Key) = .inr f then some d0 else fldO f ds) = some d := e
      by_cases hx : x = f
      · subst hx
        rw [if_pos rfl] at e
        cases e
        exact ⟨y, g1, by rw [List.lookup_cons, beq_self_eq_true], h1, fun a ha => List.mem_append_left _ ha⟩
      · rw [if_neg (fun z => hx (Sum.inr.inj z))] at e
        obtain ⟨v, gv, h3, h4, h5⟩ := AllK.fld h2 e
        refine ⟨v, gv, ?_, h4, fun a ha => List.mem_append_right _ (h5 a ha)⟩
        rw [List.lookup_cons, beq_eq_false_iff_ne.mpr (Ne.symm hx)]
        exact h3
theorem AllK.nofld {P : Key → V → D → List Addr → Prop} {f : Str} : ∀ {fs : List (Str × V)} {kds : List (Key × D)} {g : List Addr}, AllK P (kkM fs) kds g → fldO f kds = none → fs.lookup f = none
  | [], _, _, h, e => rfl
  | (x, y) :: fs, _, _, h, e => by
    cases h with
    | @cons _ _ _ d0 ds g1 g2 h1 h2 =>
      have e : (if (Sum.inr x : Key) = .inr f then some d0 else fldO f ds) = none := e
      by_cases hx : x = f
      · subst hx
        rw [if_pos rfl] at e
        cases e
      · rw [if_neg (fun z => hx (Sum.inr.inj z))] at e
        rw [List.lookup_cons, beq_eq_false_iff_ne.mpr (Ne.symm hx)]
        exact AllK.nofld h2 e
theorem dtk_all {K : PySem.W.Frag} {H : Hp} : ∀ {vs : List (Key × V)} {ds : List (Key × D)}, DtK K H vs ds → AllK (fun _ v d g => Dt K H v d ∧ g = []) vs ds []
  | _, _, .nil => .nil
  | _, _, .cons h t => AllK.cons (f := []) (g := []) ⟨h, rfl⟩ (dtk_all t)
theorem DtK.fld {K : PySem.W.Frag} {H : Hp} {f : Str} {fs : List (Str × V)} {kds : List (Key × D)} {d : D} (h : DtK K H (kkM fs) kds) (e : fldO f kds = some d) : ∃ v, fs.lookup f = some v ∧ Dt K H v d := by
  obtain ⟨v, _, h1, h2, _⟩ := (dtk_all h).fld e
  exact ⟨v, h1, h2.1⟩
theorem DtK.nofld {K : PySem.W.Frag} {H : Hp} {f : Str} {fs : List (Str × V)} {kds : List (Key × D)} (h : DtK K H (kkM fs) kds) (e : fldO f kds = none) : fs.lookup f = none := (dtk_all h).nofld e
theorem AllK.putO {P : Key → V → D → List Addr → Prop} {f : Str} {y : V} {d : D} {gy : List Addr} (hp : P (.inr f) y d gy) : ∀ {fs : List (Str × V)} {kds : List (Key × D)} {g : List Addr}, AllK P (kkM fs) kds g →
    ∃ g', AllK P (kkM (putF f y fs)) (VL.putO f d kds) g' ∧ (∀ a ∈ g', a ∈ g ∨ a ∈ gy) ∧ (g.Nodup → gy.Nodup → (∀ a ∈ gy, a ∉ g) → g'.Nodup)
  | [], _, _, h => by
    cases h
    refine ⟨gy ++ [], .cons hp .nil, fun a ha => .inr (by simpa using ha), fun _ n _ => by simpa using n⟩
  | (x, z) :: fs, _, _, h => by
    cases h with
    | @cons _ _ _ d0 ds g1 g2 h1 h2 =>
      have e1 : putF f y ((x, z) :: fs) = if x = f then (x, y) :: fs else (x, z) :: putF f y fs := rfl
      have e2 : VL.putO f d ((Sum.inr x, d0) :: ds) = if (Sum.inr x : Key) = .inr f then (Sum.inr x, d) :: ds else (Sum.inr x, d0) :: VL.putO f d ds := rfl
      rw [e1, e2]
      by_cases hx : x = f
      · subst hx
        rw [if_pos rfl, if_pos rfl]
        refine ⟨gy ++ g2, .cons hp h2, fun a ha => ?_, fun n1 n2 hg => ?_⟩
        · rcases List.mem_append.mp ha with q | q
          · exact .inr q
          · exact .inl (List.mem_append_right _ q)
        · rw [List.nodup_append] at n1 ⊢
          exact ⟨n2, n1.2.1, fun a ha b hb e => by subst e; exact hg a ha (List.mem_append_right _ hb)⟩
      · rw [if_neg hx, if_neg (fun z => hx (Sum.inr.inj z))]
        obtain ⟨g', h3, h4, h5⟩ := AllK.putO hp h2
        refine ⟨g1 ++ g', .cons h1 h3, fun a ha => ?_, fun n1 n2 hg => ?_⟩
        · rcases List.mem_append.mp ha with q | q
          · exact .inl (List.mem_append_left _ q)
          · exact (h4 a q).imp (List.mem_append_right _) id
        · rw [List.nodup_append] at n1 ⊢
          refine ⟨n1.1, h5 n1.2.1 n2 fun a ha hb => hg a ha (List.mem_append_right _ hb), fun a ha b hb e => ?_⟩
          subst e
          rcases h4 a hb with q | q
          · exact n1.2.2 a ha a q rfl
          · exact hg a q (List.mem_append_left _ ha)
theorem AllK.lenO {P : Key → V → D → List Addr → Prop} {fs : List (Str × V)} {kds : List (Key × D)} {g : List Addr} (h : AllK P (kkM fs) kds g) : fs.length = kds.length := by
  have : ∀ {vs : List (Key × V)} {ds : List (Key × D)} {f : List Addr}, AllK P vs ds f → vs.length = ds.length := by
    intro vs ds f h
    induction h with
    | nil => rfl
    | cons _ _ ih => rw [List.length_cons, List.length_cons, ih]
  have := this h
  rwa [kkM, List.length_map] at this

/-! ### e.f -/
section
variable {X : Cx} {C : Ct} {rm : Md} {e ek : Expr} {f m x : Str} {fe fk : EF} {pos p p1 p2 : Pos} {i : Nat}
theorem ve_fld (h : VE X C .im e fe) (hb : attributeBase e f X.env (eval e X.env) = eval e X.env := by rfl) : VE X C .im (.Attribute e f pos) (eFld f fe) := by
  refine PE.mono (pe_fld h hb) fun σ H Q ⟨Hm, F, ρ, r, q⟩ => ⟨Hm, F, ρ, r, q.bind.imp fun p hq v Hm1 H1 F1 g1 s1 r1 x1 => ?_⟩
  obtain ⟨z, ez, hz⟩ := hq.bind.of
  obtain ⟨d, ρ'⟩ := p
  have x2 := x1.of_im
  cases x2 with
  | @obj a dx fs c kds o ha hk =>
    have ez : (if (objF c).contains f = true then fldO f kds else none) = some z := ez
    by_cases hc : (objF c).contains f = true
    · rw [if_pos hc] at ez
      obtain ⟨w, h1, h2⟩ := hk.fld ez
      exact ⟨a, _, dx, fs, w, rfl, r1.sub _ _ ha, o.cl, o.na f (by simpa using hc), h1, hz w Hm1 H1 F1 [] s1 r1 (Val.im h2)⟩
    · rw [if_neg hc] at ez; cases ez
  | @exc a c o ha =>
    have ez : (if (objF c).contains f = true then fldO f [] else none) = some z := ez
    rw [o.nf] at ez
    cases ez
  | @exf a dx fs c kds o ha _ _ =>
    have ez : (if (objF _).contains f = true then fldO f _ else none) = some z := ez
    rw [o.nf] at ez
    cases ez
  | _ => cases ez

/-! ### self.f = e -/
/-- the own object in slot i -/
theorem Rel.ownO {K : PySem.W.Frag} {C : Ct} {Hm H : Hp} {F : Fps} {σ : L2.St} {ρ : En} (r : Rel K C Hm H F σ ρ) {i : Nat} {k : Md} {c : Str} {kds : List (Key × D)} (h : ρ[i]? = some (some (.obj c kds))) (hm : C.Γ[i]? = some (.ow k)) :
    ∃ a dx fs g, σ[i]? = some (some (.ref a)) ∧ ClsK K c ∧ H a = some (.ins (He.ga K c) dx fs) ∧ H dx = some (.own a) ∧ AllK (fun q => fldM K Hm (ownF c q) (RdM K Hm H k)) (kkM fs) kds g ∧ F i = a :: dx :: g ∧ (a :: dx :: g).Nodup ∧ k ≠ .im := by
  obtain ⟨v, m, h1, h2, h3⟩ := r.sl i _ h
  rw [hm] at h2
  cases h2
  obtain ⟨a, rfl, h4⟩ := h3
  rcases h4 with ⟨_, _, _, e, _⟩ | ⟨_, _, _, e, _⟩ | ⟨c', dx, fs, kds', g, hk, e, ho, ha, hx, hall, ef⟩
  · cases e
  · cases e
  · cases e
    have := r.nd i
    rw [ef] at this
    exact ⟨a, dx, fs, g, h1, ho, ha, hx, hall, ef, this, hk⟩
/-- a field of it is rewritten -/
theorem Rel.reO {K : PySem.W.Frag} {C : Ct} {Hm H Hp0 : Hp} {F : Fps} {σ : L2.St} {ρ : En} (r : Rel K C Hm H F σ ρ) {i : Nat} {k : Md} {c : Str} {kds : List (Key × D)} {a dx : Addr} {fs : List (Str × V)} {g gy : List Addr} {f : Str} {y : V} {d : D}
    (hm : C.Γ[i]? = some (.ow k)) (hk : k ≠ .im) (h1 : σ[i]? = some (some (.ref a))) (ho : ClsK K c) (ha : H a = some (.ins (He.ga K c) dx fs)) (hx : H dx = some (.own a)) (hall : AllK (fun q => fldM K Hm (ownF c q) (RdM K Hm H k)) (kkM fs) kds g)
    (ef : F i = a :: dx :: g) (nd : (a :: dx :: g).Nodup) (hp : fldM K Hm (ownF c (.inr f)) (RdM K Hm H k) y d gy) (ny : gy.Nodup) (un : ∀ b ∈ gy, Hm b = none) (ap : ∀ b ∈ gy, ∀ j, b ∉ F j) (nw : ∀ b ∈ gy, Hp0 b = none) (hh : ∀ b, Hp0 b = none → C.He b = none) :
    ∃ g', Rel K C Hm (upd H a (.ins (He.ga K c) dx (putF f y fs))) (F.put i (a :: dx :: g')) σ (ρ.set i (some (.obj c (VL.putO f d kds)))) ∧ ∀ b ∈ a :: dx :: g', b ∈ F i ∨ Hp0 b = none := by
  obtain ⟨g', h2, h3, h4⟩ := hall.putO hp
  have hag : a ∉ dx :: g := (List.nodup_cons.mp nd).1
  have hdx : dx ∉ g := (List.nodup_cons.mp (List.nodup_cons.mp nd).2).1
  have ngy : ∀ b ∈ gy, b ∉ a :: dx :: g := fun b hb z => ap b hb i (by rw [ef]; exact z)
  have hag' : a ∉ g' := fun z => (h3 a z).elim (fun q => hag (List.mem_cons_of_mem _ q)) fun q => ngy a q List.mem_cons_self
  have hdx' : dx ∉ g' := fun z => (h3 dx z).elim hdx fun q => ngy dx q (List.mem_cons_of_mem _ List.mem_cons_self)
  have sub : ∀ b, b ∈ a :: dx :: g' → b ∈ F i ∨ b ∈ gy := fun b hb => by
    rw [ef]
    rcases List.mem_cons.mp hb with rfl | hb
    · exact .inl List.mem_cons_self
    · rcases List.mem_cons.mp hb with rfl | hb
      · exact .inl (List.mem_cons_of_mem _ List.mem_cons_self)
      · exact (h3 b hb).imp (fun z => List.mem_cons_of_mem _ (List.mem_cons_of_mem _ z)) id
  have hne : a ≠ dx := fun e => hag (by rw [e]; exact List.mem_cons_self)
  refine ⟨g', ?_, fun b hb => (sub b hb).imp id (nw b)⟩
  refine r.rew hm h1 (by rw [ef]; exact List.mem_cons_self)
    ⟨a, rfl, .inr (.inr ⟨c, dx, _, _, g', hk, rfl, ho, upd_same, by rw [upd_ne (Ne.symm hne)]; exact hx, h2.imp fun q v d gx hgx hh => hh.imp (Same.refl _) fun hh => hh.step (Same.refl _) fun b hb o ho => ?_, rfl⟩)⟩
    (List.nodup_cons.mpr ⟨fun z => (List.mem_cons.mp z).elim hne hag', List.nodup_cons.mpr ⟨hdx', h4 (List.nodup_cons.mp (List.nodup_cons.mp nd).2).2 ny fun b hb z => ngy b hb (List.mem_cons_of_mem _ (List.mem_cons_of_mem _ z))⟩⟩)
    (fun b hb => (sub b hb).elim (r.un i b) (un b))
    (fun b hb j hj hbj => (sub b hb).elim (fun z => hj (r.dj j i b hbj z)) fun z => ap b z j hbj)
    (fun b hb => (sub b hb).imp id fun z => hh b (nw b z)) (fun _ z => by cases z) (fun _ _ z => by cases z)
  have : b ≠ a := fun z => by subst z; exact hag' (hgx b hb)
  rw [upd_ne this]
  exact ho
theorem fset_red {D : Ends} {σ : L2.St} {H : Hp} {k κ : Md} {own : Bool} (hκ : κ = if own = true then k else .im) (hm : C.Γ[i]? = some (.ow k)) (h : tS X.K C rm (sFSet own i f fe) D σ H) : sFld X.K (tVar i) (tE X.K C κ fe) f D σ H := by
  obtain ⟨Hm, F, ρ, r, q⟩ := h
  refine ⟨Hm, F, ρ, r, q.bind.imp fun p hq v Hm1 H1 F1 g1 s1 r1 x1 => ?_⟩
  obtain ⟨d, ρ1⟩ := p
  have hq : fin X.K C Hm H F (match ρ1[i]? with
    | some (some (.obj c kds)) => if (objF c).contains f = true ∧ ownF c (.inr f) = own ∧ kds.length < 1000 then Rs.ok (Fl.next, ρ1.set i (some (.obj c (VL.putO f d kds)))) else .bad
    | _ => .bad) _ := hq
  split at hq
  · rename_i c kds e0
    obtain ⟨a, dx, fs, g, h1, ho, ha, hx, hall, ef, nd, hk⟩ := r1.ownO e0 hm
    split at hq
    · rename_i hc
      obtain ⟨c1, c2, c3⟩ := hc
      refine ⟨.ref a, h1, a, _, dx, fs, rfl, ha, ho.cl, ho.na f (by simpa using c1), by rw [hall.lenO]; exact c3, ?_⟩
      have hp : fldM X.K Hm1 (ownF c (.inr f)) (RdM X.K Hm1 H1 k) v d g1 := by
        rw [c2]
        cases own with
        | true => subst hκ; exact x1.rd
        | false => subst hκ; exact x1.rd
      obtain ⟨g', r2, hs⟩ := r1.reO (Hp0 := H) hm hk h1 ho ha hx hall ef nd hp x1.nd x1.un x1.ap x1.nw r.he
      exact hq Hm1 _ _ σ (s1.rew (by rw [ef]; exact List.mem_cons_self) ⟨_, ha⟩ hs) r2
    · exact hq.elim
  · exact hq.elim
/-- self.f = e, f own -/
theorem vs_fset {k : Md} (h : VE X C k e fe) (hm : C.Γ[i]? = some (.ow k) := by rfl) (hN : X.N[i]? = some x := by rfl) (hv : Vis X.env.scope x := by first | exact Or.inl rfl | exact Or.inr (Or.inl rfl) | exact Or.inr (Or.inr rfl))
    (hd : (x == ("__debug__" : Str)) = false := by decide) (hcd : (x == ("__classdict__" : Str)) = false := by decide) (hs : swapsWith e (some (.Attribute (.Name x p) f p1)) pos.line X.env = pure false := by rfl) :
    VS X C rm (.Assign [.Attribute (.Name x p) f p1] e pos) (sFSet true i f fe) :=
  PS.mono (ps_fld (pe_var hN hv hd hcd) h hs) fun _ _ _ => fset_red (own := true) rfl hm
/-- self.f = e, f read alone -/
theorem vs_fsetI {k : Md} (h : VE X C .im e fe) (hm : C.Γ[i]? = some (.ow k) := by rfl) (hN : X.N[i]? = some x := by rfl) (hv : Vis X.env.scope x := by first | exact Or.inl rfl | exact Or.inr (Or.inl rfl) | exact Or.inr (Or.inr rfl))
    (hd : (x == ("__debug__" : Str)) = false := by decide) (hcd : (x == ("__classdict__" : Str)) = false := by decide) (hs : swapsWith e (some (.Attribute (.Name x p) f p1)) pos.line X.env = pure false := by rfl) :
    VS X C rm (.Assign [.Attribute (.Name x p) f p1] e pos) (sFSet false i f fe) :=
  PS.mono (ps_fld (pe_var hN hv hd hcd) h hs) fun _ _ _ => fset_red (k := k) (own := false) rfl hm
end
end VL

set_option Elab.async false
set_option linter.all false
set_option maxRecDepth 100000
set_option maxHeartbeats 4000000
/-! V30: x.f[k] = e; C(..); o.m(..) -/
namespace VL
open PySem PySem.Spec PyProof.Rows L2

/-- one field apart -/
theorem AllK.part {P : Key → V → D → List Addr → Prop} {f : Str} : ∀ {fs : List (Str × V)} {kds : List (Key × D)} {g : List Addr} {d0 : D}, AllK P (kkM fs) kds g → fldO f kds = some d0 →
    ∃ v gv g1 g2, g = g1 ++ (gv ++ g2) ∧ fs.lookup f = some v ∧ P (.inr f) v d0 gv ∧
      ∀ (P' : Key → V → D → List Addr → Prop) (y : V) (d : D) (gy : List Addr), (∀ q v d g', (∀ a ∈ g', a ∈ g1 ∨ a ∈ g2) → P q v d g' → P' q v d g') → P' (.inr f) y d gy → AllK P' (kkM (putF f y fs)) (VL.putO f d kds) (g1 ++ (gy ++ g2))
  | [], _, _, _, h, e => by cases h; cases e
  | (x, z) :: fs, _, _, d0, h, e => by
    cases h with
    | @cons _ _ _ dz ds ga gb h1 h2 =>
      have e : (if (Sum.inr x : Key) = .inr f then some dz else fldO f ds) = some d0 := e
      by_cases hx : x = f
      · subst hx
        rw [if_pos rfl] at e
        cases e
        refine ⟨z, ga, [], gb, rfl, by rw [List.lookup_cons, beq_self_eq_true], h1, fun P' y d gy imp hp => ?_⟩
        have e1 : putF x y ((x, z) :: fs) = if x = x then (x, y) :: fs else (x, z) :: putF x y fs := rfl
        have e2 : VL.putO x d ((Sum.inr x, d0) :: ds) = if (Sum.inr x : Key) = .inr x then (Sum.inr x, d) :: ds else (Sum.inr x, d0) :: VL.putO x d ds := rfl
        rw [e1, e2, if_pos rfl, if_pos rfl]
        show AllK P' ((.inr x, y) :: kkM fs) ((.inr x, d) :: ds) (gy ++ gb)
        exact AllK.cons hp (h2.imp fun q v d g' hg hh => imp q v d g' (fun a ha => .inr (hg a ha)) hh)
      · rw [if_neg (fun z => hx (Sum.inr.inj z))] at e
        obtain ⟨v, gv, g1, g2, eg, h3, h4, h5⟩ := AllK.part h2 e
        refine ⟨v, gv, ga ++ g1, g2, by rw [eg, List.append_assoc], ?_, h4, fun P' y d gy imp hp => ?_⟩
        · rw [List.lookup_cons, beq_eq_false_iff_ne.mpr (Ne.symm hx)]
          exact h3
        · have e1 : putF f y ((x, z) :: fs) = if x = f then (x, y) :: fs else (x, z) :: putF f y fs := rfl
          have e2 : VL.putO f d ((Sum.inr x, dz) :: ds) = if (Sum.inr x : Key) = .inr f then (Sum.inr x, d) :: ds else (Sum.inr x, dz) :: VL.putO f d ds := rfl
          rw [e1, e2, if_neg hx, if_neg (fun z => hx (Sum.inr.inj z)), List.append_assoc]
          exact AllK.cons (imp _ _ _ _ (fun a ha => .inl (List.mem_append_left _ ha)) h1) (h5 P' y d gy (fun q v d g' hg hh => imp q v d g' (fun a ha => (hg a ha).imp (List.mem_append_right _) id) hh) hp)
theorem part_nodup {g1 gv g2 gy : List Addr} (n : (g1 ++ (gv ++ g2)).Nodup) (ny : gy.Nodup) (h : ∀ a ∈ gy, a ∈ gv ∨ (a ∉ g1 ∧ a ∉ g2)) : (g1 ++ (gy ++ g2)).Nodup := by
  rw [List.nodup_append, List.nodup_append] at n ⊢
  obtain ⟨n1, ⟨n2, n3, n4⟩, n5⟩ := n
  refine ⟨n1, ⟨ny, n3, fun a ha b hb e => ?_⟩, fun a ha b hb e => ?_⟩
  · subst e
    rcases h a ha with z | z
    · exact n4 a z a hb rfl
    · exact z.2 hb
  · subst e
    rcases List.mem_append.mp hb with q | q
    · rcases h a q with z | z
      · exact n5 a ha a (List.mem_append_left _ z) rfl
      · exact z.1 ha
    · exact n5 a ha a (List.mem_append_right _ q) rfl
theorem putF_self {f : Str} {v : V} : ∀ {fs : List (Str × V)}, fs.lookup f = some v → putF f v fs = fs
  | [], h => by cases h
  | (x, z) :: fs, h => by
    have e1 : putF f v ((x, z) :: fs) = if x = f then (x, v) :: fs else (x, z) :: putF f v fs := rfl
    rw [e1]
    by_cases hx : x = f
    · subst hx
      rw [List.lookup_cons, beq_self_eq_true] at h
      cases h
      rw [if_pos rfl]
    · rw [List.lookup_cons, beq_eq_false_iff_ne.mpr (Ne.symm hx)] at h
      rw [if_neg hx, putF_self h]
section
variable {X : Cx} {C : Ct} {rm : Md} {e ek : Expr} {f m x : Str} {fe : EF} {fk : PF} {pos p p1 p2 : Pos} {i : Nat}
theorem fix_red {D : Ends} {σ : L2.St} {H : Hp} {k : Md} (hm : C.Γ[i]? = some (.ow (.ow k))) (h : tS X.K C rm (sFIx i f fk fe) D σ H) : tAsg (tE X.K C k fe) (gSub (tFld X.K (tVar i) f) (tP X.K C fk) rSetL) D σ H := by
  obtain ⟨Hm, F, ρ, r, q⟩ := h
  refine ⟨Hm, F, ρ, r, q.bind.imp fun p hq v Hm1 H1 F1 g1 s1 r1 x1 => ?_⟩
  obtain ⟨d, ρ1⟩ := p
  have hq : fin X.K C Hm H F (match ρ1[i]? with
    | some (some (.obj c kds)) => if (objF c).contains f = true ∧ ownF c (.inr f) = true then (match fldO f kds with
      | some (.lst ds) => fk ρ1 >>= fun q => (match q with
        | .int k => (match ixD ds.length k with
          | some j => Rs.ok (Fl.next, ρ1.set i (some (.obj c (VL.putO f (.lst (ds.set j d)) kds))))
          | none => .bad)
        | _ => .bad)
      | _ => .bad) else .bad
    | _ => .bad) _ := hq
  split at hq
  · rename_i c kds e0
    obtain ⟨a, dx, fs, g, h1, ho, ha, hx, hall, ef, nd, hk⟩ := r1.ownO e0 hm
    split at hq
    · rename_i hc
      split at hq
      · rename_i ds el
        obtain ⟨w, gw, _, _, _, l1, l2, _⟩ := hall.part el
        rw [hc.2] at l2
        have l2 : RdM X.K Hm1 H1 (.ow k) w (.lst ds) gw := l2
        obtain ⟨b, rfl, l4⟩ := l2
        clear l4
        refine ⟨.ref a, h1, a, _, dx, fs, _, rfl, ha, ho.cl, ho.na f (by simpa using hc.1), l1, Hm1, F1, ρ1, r1, (hq.step s1).bind.imp fun kd hk2 wk Hm2 H2 s2 sm2 r2 x2 => ?_⟩
        cases kd with
        | int kk =>
          cases x2
          have hk2 : fin X.K C Hm1 H1 F1 (match ixD ds.length kk with
            | some j => Rs.ok (Fl.next, ρ1.set i (some (.obj c (VL.putO f (.lst (ds.set j d)) kds))))
            | none => .bad) _ := hk2
          split at hk2
          · rename_i j ej
            obtain ⟨a', dy, fs', g', h1', ho', ha', hx', hall', ef', nd', _⟩ := r2.ownO e0 hm
            rw [h1] at h1'
            cases h1'
            rw [sm2 _ _ ha] at ha'
            cases ha'
            obtain ⟨w', gv, ga, gb, eg, m1, m2, m3⟩ := hall'.part el
            rw [l1] at m1
            cases m1
            rw [hc.2] at m2
            have m2 : RdM X.K Hm2 H2 (.ow k) (.ref b) (.lst ds) gv := m2
            obtain ⟨b', eb, m4⟩ := m2
            cases eb
            rcases m4 with ⟨xs, ds', gg, ee, hb, hallb, egv⟩ | ⟨_, _, _, ee, _⟩ | ⟨_, _, _, _, _, _, ee, _⟩
            rotate_left
            · cases ee
            · cases ee
            cases ee
            have x1 := x1.step s2
            obtain ⟨f', h5, h6, h7⟩ := hallb.set (ixD_lt ej) x1.rd
            have bF : ∀ z ∈ gv, z ∈ F1 i := fun z hz => by rw [ef', eg]; exact List.mem_cons_of_mem _ (List.mem_cons_of_mem _ (List.mem_append_right _ (List.mem_append_left _ hz)))
            have bgv : b ∈ gv := by rw [egv]; exact List.mem_cons_self
            have ndg : (ga ++ (gv ++ gb)).Nodup := by rw [← eg]; exact (List.nodup_cons.mp (List.nodup_cons.mp nd').2).2
            have ndv : gv.Nodup := (List.nodup_append.mp (List.nodup_append.mp ndg).2.1).1
            have hbg : b ∉ gg := by rw [egv] at ndv; exact (List.nodup_cons.mp ndv).1
            have hbf : b ∉ f' := fun z => (h6 b z).elim hbg fun z => x1.ap b z i (bF b bgv)
            have hab : a ≠ b := fun z => (List.nodup_cons.mp nd').1 (by rw [z, eg]; exact List.mem_cons_of_mem _ (List.mem_append_right _ (List.mem_append_left _ bgv)))
            have hdb : dx ≠ b := fun z => (List.nodup_cons.mp (List.nodup_cons.mp nd').2).1 (by rw [z, eg]; exact List.mem_append_right _ (List.mem_append_left _ bgv))
            have nga : b ∉ ga := fun z => (List.nodup_append.mp ndg).2.2 b z b (List.mem_append_left _ bgv) rfl
            have ngb : b ∉ gb := fun z => (List.nodup_append.mp (List.nodup_append.mp ndg).2.1).2.2 b bgv b z rfl
            refine ⟨b, xs, kk, j, rfl, rfl, hb, by rw [hallb.length]; exact ej, ?_⟩
            have hAll := m3 (fun q => fldM X.K Hm2 (ownF c q) (RdM X.K Hm2 (upd H2 b (.lst (xs.set j v))) (.ow k))) (.ref b) (.lst (ds.set j d)) (b :: f')
              (fun q v0 d0 gx hgx hh => hh.imp (Same.refl _) fun hh => hh.step (Same.refl _) fun z hz o hzo => by
                have : z ≠ b := fun e => by subst e; exact (hgx z hz).elim nga ngb
                rw [upd_ne this]; exact hzo)
              (by
                rw [hc.2]
                refine ⟨b, rfl, .inl ⟨_, _, f', rfl, upd_same, h5.imp fun v d gx hgx hh => hh.step (Same.refl _) fun z hz o hzo => ?_, rfl⟩⟩
                have : z ≠ b := fun e => by subst e; exact hbf (hgx z hz)
                rw [upd_ne this]; exact hzo)
            rw [putF_self l1] at hAll
            have sub : ∀ z, z ∈ b :: f' → z ∈ gv ∨ z ∈ g1 := fun z hz => by
              rcases List.mem_cons.mp hz with rfl | hz
              · exact .inl bgv
              · rw [egv]; exact (h6 z hz).imp (List.mem_cons_of_mem _) id
            have ny : (b :: f').Nodup := List.nodup_cons.mpr ⟨hbf, h7 (by rw [egv] at ndv; exact (List.nodup_cons.mp ndv).2) x1.nd fun z hz hg => x1.ap z hz i (bF z (by rw [egv]; exact List.mem_cons_of_mem _ hg))⟩
            have gF : ∀ z, z ∈ a :: dx :: (ga ++ (gv ++ gb)) → z ∈ F1 i := fun z hz => by rw [ef', eg]; exact hz
            have n1 : (ga ++ ((b :: f') ++ gb)).Nodup := part_nodup ndg ny fun z hz => (sub z hz).imp id fun hz1 => ⟨fun hh => x1.ap z hz1 i (gF z (List.mem_cons_of_mem _ (List.mem_cons_of_mem _ (List.mem_append_left _ hh)))), fun hh => x1.ap z hz1 i (gF z (List.mem_cons_of_mem _ (List.mem_cons_of_mem _ (List.mem_append_right _ (List.mem_append_right _ hh)))))⟩
            have subA : ∀ z, z ∈ ga ++ ((b :: f') ++ gb) → z ∈ ga ++ (gv ++ gb) ∨ z ∈ g1 := fun z hz => by
              rcases List.mem_append.mp hz with hz | hz
              · exact .inl (List.mem_append_left _ hz)
              · rcases List.mem_append.mp hz with hz | hz
                · exact (sub z hz).imp (fun hz => List.mem_append_right _ (List.mem_append_left _ hz)) id
                · exact .inl (List.mem_append_right _ (List.mem_append_right _ hz))
            have subB : ∀ z, z ∈ a :: dx :: (ga ++ ((b :: f') ++ gb)) → z ∈ F1 i ∨ z ∈ g1 := fun z hz => by
              rcases List.mem_cons.mp hz with rfl | hz
              · exact .inl (gF z List.mem_cons_self)
              · rcases List.mem_cons.mp hz with rfl | hz
                · exact .inl (gF z (List.mem_cons_of_mem _ List.mem_cons_self))
                · exact (subA z hz).imp (fun hz => gF z (List.mem_cons_of_mem _ (List.mem_cons_of_mem _ hz))) id
            have nd2 := nd'
            rw [eg] at nd2
            have na2 : a ∉ dx :: (ga ++ ((b :: f') ++ gb)) := fun z => by
              rcases List.mem_cons.mp z with e | z
              · exact (List.nodup_cons.mp nd2).1 (by rw [e]; exact List.mem_cons_self)
              · rcases subA a z with z | z
                · exact (List.nodup_cons.mp nd2).1 (List.mem_cons_of_mem _ z)
                · exact x1.ap a z i (gF a List.mem_cons_self)
            have nb2 : dx ∉ ga ++ ((b :: f') ++ gb) := fun z => by
              rcases subA dx z with z | z
              · exact (List.nodup_cons.mp (List.nodup_cons.mp nd2).2).1 z
              · exact x1.ap dx z i (gF dx (List.mem_cons_of_mem _ List.mem_cons_self))
            have r3 := r2.rew (a := b) (o := .lst (xs.set j v)) (g := a :: dx :: (ga ++ ((b :: f') ++ gb))) (d := .obj c (VL.putO f (.lst (ds.set j d)) kds)) hm h1 (bF b bgv)
              ⟨a, rfl, .inr (.inr ⟨c, dx, fs, _, _, hk, rfl, ho, by rw [upd_ne hab]; exact sm2 _ _ ha, by rw [upd_ne hdb]; exact hx', hAll, rfl⟩)⟩
              (List.nodup_cons.mpr ⟨na2, List.nodup_cons.mpr ⟨nb2, n1⟩⟩)
              (fun z hz => (subB z hz).elim (r2.un i z) (x1.un z))
              (fun z hz j hj hbj => (subB z hz).elim (fun y => hj (r2.dj j i z hbj y)) fun y => x1.ap z y j hbj)
              (fun z hz => (subB z hz).imp id fun y => r.he z (x1.nw z y)) (fun _ z => by cases z) (fun _ _ z => by cases z)
            exact hk2 Hm2 _ _ σ ((s1.trans s2).rew (bF b bgv) ⟨_, hb⟩ fun z hz => (subB z hz).imp id fun y => x1.nw z y) r3
          · exact hk2.elim
        | _ => exact hk2.elim
      · exact hq.elim
    · exact hq.elim
  · exact hq.elim
/-- x.f[k] = e, the field an own list -/
theorem vs_fix {k : Md} (h : VE X C k e fe) (hk : VP X C ek fk) (hm : C.Γ[i]? = some (.ow (.ow k)) := by rfl) (hN : X.N[i]? = some x := by rfl) (hv : Vis X.env.scope x := by first | exact Or.inl rfl | exact Or.inr (Or.inl rfl) | exact Or.inr (Or.inr rfl))
    (hd : (x == ("__debug__" : Str)) = false := by decide) (hcd : (x == ("__classdict__" : Str)) = false := by decide)
    (hb : attributeBase (.Name x p) f X.env (eval (.Name x p) X.env) = eval (.Name x p) X.env := by rfl)
    (ha : ∀ v, assign (.Subscript (.Attribute (.Name x p) f p1) ek p2) X.env v = (do
      let ov ← holding [v] (eval (.Attribute (.Name x p) f p1) X.env)
      let iv ← holding [v, ov] (eval ek X.env)
      standAt p2
      holding [v, ov, iv] (setItem ov iv v)
      release [v, ov, iv] []) := by intro _; rfl)
    (hs : swapsWithSole [.Subscript (.Attribute (.Name x p) f p1) ek p2] e pos.line X.env = pure false := by rfl) (hw : swappedStores [.Subscript (.Attribute (.Name x p) f p1) ek p2] e X.env = pure none := by rfl)
    (h1 : (assignEach [.Subscript (.Attribute (.Name x p) f p1) ek p2] X.env).map (·.2) = [assign (.Subscript (.Attribute (.Name x p) f p1) ek p2) X.env] := by rfl) :
    VS X C rm (.Assign [.Subscript (.Attribute (.Name x p) f p1) ek p2] e pos) (sFIx i f fk fe) :=
  PS.mono (ps_asg h (pg_sub (pe_fld (pe_var hN hv hd hcd) hb) hk set_list ha) hs hw h1) fun _ _ _ => fix_red hm
end

/-! ### C(..) -/
/-- an __init__'s promise: the new object, its fields own -/
def spI (K : PySem.W.Frag) (c : Str) (n np : Nat) (body : SF) : Sp := fun vs H Q _ => ∃ x dx ws H1 Hm ds, vs = .ref x :: ws ∧ H = upd (upd H1 dx (.own x)) x (.ins (He.ga K c) dx []) ∧ H1 x = none ∧ H1 dx = none ∧ dx ≠ x ∧
  Same Hm H1 ∧ (∀ b xs, H1 b = some (.tup xs) → Hm b = some (.tup xs)) ∧ (∀ b o u, H1 b = some (.frz o u) → Hm b = some (.frz o u)) ∧ DtA K Hm ws ds ∧ ClsK K c ∧ ws.length + 1 = np ∧ match runI n c body ds with
  | .ok d => ∀ Hm' H' g, Step Hm H1 (fun _ => []) Hm' H' (fun _ => []) → Same Hm' H' → (∀ b xs, H' b = some (.tup xs) → Hm' b = some (.tup xs)) → (∀ b o u, H' b = some (.frz o u) → Hm' b = some (.frz o u)) →
      RdM K Hm' H' (.ow (.ow .im)) (.ref x) d g → g.Nodup → (∀ a ∈ g, Hm' a = none) → (∀ a ∈ g, H1 a = none) → Q .non H'
  | _ => False
def modesI : Nat → List Md → Bool
  | 0, _ => true
  | n + 1, .im :: Γ => modesI n Γ
  | _, _ => false
theorem modesI_at : ∀ {n : Nat} {Γ : List Md} {i : Nat}, modesI n Γ = true → i < n → Γ[i]? = some .im
  | 0, _, _, _, h => by omega
  | n + 1, .im :: Γ, 0, _, _ => rfl
  | n + 1, .im :: Γ, i + 1, h, hi => by
    have := modesI_at (n := n) (Γ := Γ) (i := i) h (by omega)
    simpa using this
  | n + 1, [], _, h, _ => by simp [modesI] at h
  | n + 1, .ow _ :: Γ, _, h, _ => by simp [modesI] at h
theorem start_cons {N : List Str} {v : V} {vs : List V} (h : vs.length + 1 ≤ N.length) : L2.start N (v :: vs) = some v :: (vs.map some ++ List.replicate (N.length - (vs.length + 1)) none) := rfl
theorem body_redI {K : PySem.W.Frag} {c : Str} {N : List Str} {np : Nat} {Γ : List Md} {body : SF} {vs : List V} {H : Hp} {Q : VK} {E : XK} (hl : np ≤ N.length) (hΓ : (Md.ow (.ow .im) :: Γ).length = N.length) (hm : modesI (np - 1) Γ = true)
    (h : spI K c N.length np body vs H Q E) : ∃ H1, tS K ⟨.ow (.ow .im) :: Γ, [0], L2.start N vs, H1, fun x _ _ H' => EW0 x E H'⟩ .im body { nx := fun _ H' => Q .non H', rt := Q } (L2.start N vs) H := by
  obtain ⟨x, dx, ws, H1, Hm, ds, rfl, rfl, nx, ndx, ne, sub, tp, fz, ha, ho, hn, h⟩ := h
  have hlen := ha.length
  have hH : ∀ b o, H1 b = some o → upd (upd H1 dx (.own x)) x (.ins (He.ga K c) dx []) b = some o := fun b o e => by
    rw [upd_ne (ne_of_none e nx), upd_ne (ne_of_none e ndx)]; exact e
  have hH' : ∀ b o, upd (upd H1 dx (.own x)) x (.ins (He.ga K c) dx []) b = some o → b = x ∨ b = dx ∨ H1 b = some o := fun b o e => by
    by_cases e1 : b = x
    · exact .inl e1
    · rw [upd_ne e1] at e
      by_cases e2 : b = dx
      · exact .inr (.inl e2)
      · rw [upd_ne e2] at e; exact .inr (.inr e)
  have hx : upd (upd H1 dx (.own x)) x (.ins (He.ga K c) dx []) x = some (.ins (He.ga K c) dx []) := upd_same
  have hdx : upd (upd H1 dx (.own x)) x (.ins (He.ga K c) dx []) dx = some (.own x) := by rw [upd_ne ne, upd_same]
  have hnone : ∀ b, upd (upd H1 dx (.own x)) x (.ins (He.ga K c) dx []) b = none → H1 b = none := fun b e => by
    cases q : H1 b with
    | none => rfl
    | some o => rw [hH b o q] at e; cases e
  refine ⟨H1, Hm, fun i => if i = 0 then [x, dx] else [], some (.obj c []) :: (ds.map some ++ List.replicate (N.length - (ds.length + 1)) none), ?_, ?_⟩
  · refine ⟨?_, ?_, fun i d e => ?_, fun i => ?_, fun i j a hi hj => ?_, fun i a hi => ?_, fun b o e => hH b o (sub b o e), fun i a hi => ?_, fun b xs e => ?_, fun b o u e => ?_, hnone, fun i a hi => ?_, fun i hi => ?_⟩
    · rw [start_cons (by omega)]
      simp only [List.length_cons, List.length_append, List.length_map, List.length_replicate] at hΓ ⊢
      omega
    · simp only [List.length_cons, List.length_append, List.length_map, List.length_replicate] at hΓ ⊢
      omega
    · cases i with
      | zero =>
        simp at e
        subst e
        exact ⟨.ref x, _, by rw [start_cons (by omega)]; rfl, rfl, x, rfl, .inr (.inr ⟨c, dx, [], [], [], (by simp), rfl, ho, hx, hdx, .nil, rfl⟩)⟩
      | succ i =>
        have e : (ds.map some ++ List.replicate (N.length - (ds.length + 1)) none)[i]? = some (some d) := by simpa using e
        have e := start_get e
        obtain ⟨v, h1, h2⟩ := ha.get e
        have hi : i < ds.length := (List.getElem?_eq_some_iff.mp e).1
        refine ⟨v, .im, ?_, ?_, h2, rfl⟩
        · rw [start_cons (by omega)]
          have := start_put (n := N.length - (ws.length + 1)) h1
          simpa using this
        · have := modesI_at (i := i) hm (by omega)
          simpa using this
    · by_cases hi : i = 0
      · rw [if_pos hi]; simp [Ne.symm ne]
      · rw [if_neg hi]; exact List.nodup_nil
    · by_cases h1 : i = 0
      · by_cases h2 : j = 0
        · rw [h1, h2]
        · rw [if_neg h2] at hj; cases hj
      · rw [if_neg h1] at hi; cases hi
    · by_cases h1 : i = 0
      · rw [if_pos h1] at hi
        rcases List.mem_cons.mp hi with rfl | hi
        · exact Same.none sub nx
        · rw [List.mem_singleton.mp hi]; exact Same.none sub ndx
      · rw [if_neg h1] at hi; cases hi
    · by_cases h1 : i = 0
      · rw [if_pos h1] at hi
        rcases List.mem_cons.mp hi with rfl | hi
        · exact ⟨_, hx⟩
        · rw [List.mem_singleton.mp hi]; exact ⟨_, hdx⟩
      · rw [if_neg h1] at hi; cases hi
    · rcases hH' b _ e with rfl | rfl | e'
      · rw [hx] at e; cases e
      · rw [hdx] at e; cases e
      · exact tp _ _ e'
    · rcases hH' b _ e with rfl | rfl | e'
      · rw [hx] at e; cases e
      · rw [hdx] at e; cases e
      · exact fz _ _ _ e'
    · by_cases h1 : i = 0
      · exact .inl (by rw [h1]; exact List.mem_singleton.mpr rfl)
      · rw [if_neg h1] at hi; cases hi
    · rw [List.mem_singleton.mp hi]
      exact ⟨rfl, _, rfl⟩
  · unfold runI at h
    cases eb : body (some (.obj c []) :: (ds.map some ++ List.replicate (N.length - (ds.length + 1)) none)) with
    | bad => rw [eb] at h; exact h.elim
    | err y ρ => rw [eb] at h; exact h.elim
    | ok p =>
      obtain ⟨fl, ρ'⟩ := p
      rw [eb] at h
      cases fl with
      | next =>
        intro Hm' H' F' σ' s' r'
        cases ρ' with
        | nil => exact h.elim
        | cons y ρ' =>
          cases y with
          | none => exact h.elim
          | some d =>
            obtain ⟨v, m, h1, h2, h3⟩ := r'.sl 0 d rfl
            have h4 := (r'.fx 0 (List.mem_singleton.mpr rfl)).1
            rw [h1] at h4
            have h4 : some (some v) = (L2.start N (.ref x :: ws))[0]? := h4
            rw [start_cons (by omega)] at h4
            cases h4
            cases h2
            have nn : ∀ i, ∀ b ∈ (if i = 0 then [x, dx] else [] : List Addr), H1 b = none := fun i b hb => by
              by_cases h1 : i = 0
              · rw [if_pos h1] at hb
                rcases List.mem_cons.mp hb with rfl | hb
                · exact nx
                · rw [List.mem_singleton.mp hb]; exact ndx
              · rw [if_neg h1] at hb; cases hb
            exact h Hm' H' (F' 0) ⟨s'.sm, fun b o e _ => s'.kp b o (hH b o e) fun i hi => (by rw [nn i b hi] at e; cases e), fun b o e => (s'.nw b o e).imp id fun z => .inr (z.elim (fun ⟨j, hj⟩ => nn j b hj) (hnone b)), fun _ _ z => (by cases z), fun b e => hnone b (s'.dm b e)⟩ r'.sub r'.tp r'.fz h3 (r'.nd 0) (r'.un 0)
              fun a ha => (s'.fn 0 a ha).elim (fun ⟨j, hj⟩ => nn j a hj) (hnone a)
      | brk => exact h.elim
      | cont => exact h.elim
      | ret d => exact h.elim
section
variable {P : Program} {w : World} {K : PySem.W.Frag} {mg : Str → Option Value} {base : Heap}
theorem fn_okI {nm q c : Str} {st : Stmt} {f : Addr} {fd : FuncData} {N ps : List Str} {k : Nat} {Γ : List Md} {body : SF} (F : FunD K nm q (defArgs st) (defBody st) (defScope st) [] [] f fd) (S : FnScope N ps (defScope st)) (hΓ : (Md.ow (.ow .im) :: Γ).length = N.length) (hm : modesI (ps.length - 1) Γ = true)
    (hb : ∀ (cdv : Value) (A : Around) (outer : List PySem.Env) (s : Shared) (H H1 : Hp) (vs : List V) (E : XK), RoomG k (A.deeper (envOfC q (defScope st) s.heap.objs.size f cdv)) →
      VB (cxOf CX0 P w K mg base N q (defScope st) f cdv A outer s H E).nox ⟨.ow (.ow .im) :: Γ, [0], L2.start N vs, H1, fun x _ _ H' => EW0 x E H'⟩ .im (defBody st) body) :
    FnG P w K mg base (k + 1) f fd ps (spI K c N.length ps.length body) := by
  have hpl : ps.length ≤ N.length := by have := congrArg List.length S.pre; rw [List.length_take] at this; omega
  obtain ⟨oc, od, dV, kV, doc, pm, an, cdv, ct, osl, rfl, lk, hcd, _, _⟩ := F.ex
  refine fn_g lk hcd S (fun vs H Q E h => ?_) (fun A outer s H vs Q E hr h => ?_)
  · obtain ⟨x, dx, ws, H1, Hm, ds, rfl, _, _, _, _, _, _, _, _, _, hn, _⟩ := h
    rw [List.length_cons]; exact hn
  · obtain ⟨H1, h⟩ := body_redI hpl hΓ hm h
    exact ⟨_, PSs.nox (hb cdv A outer s H H1 vs E hr), h⟩
/-- a method of all arguments read alone -/
theorem fn_okM {nm q : Str} {st : Stmt} {f : Addr} {fd : FuncData} {N ps : List Str} {k : Nat} {ms : List Pm} {rm : Md} {Γ : List Md} {body : SF} (F : FunD K nm q (defArgs st) (defBody st) (defScope st) [] [] f fd) (S : FnScope N ps (defScope st)) (hms : ms.length = ps.length) (hΓ : Γ.length = N.length) (hm : modesOk ms Γ = true)
    (hn : rm = .im ∨ ∀ ρ ρ', body ρ ≠ .ok (.next, ρ'))
    (hb : ∀ (cdv : Value) (A : Around) (outer : List PySem.Env) (s : Shared) (H : Hp) (vs : List V) (E : XK), RoomG k (A.deeper (envOfC q (defScope st) s.heap.objs.size f cdv)) →
      VB (cxOf CX0 P w K mg base N q (defScope st) f cdv A outer s H E).nox ⟨Γ, refIx ms, L2.start N vs, H, fun x _ _ H' => EW0 x E H'⟩ rm (defBody st) body) :
    FnG P w K mg base (k + 1) f fd ps (spV EW0 K ms rm (runF N.length ms body)) := by
  have hpl : ps.length ≤ N.length := by have := congrArg List.length S.pre; rw [List.length_take] at this; omega
  obtain ⟨oc, od, dV, kV, doc, pm, an, cdv, ct, osl, rfl, lk, hcd, _, _⟩ := F.ex
  refine fn_g lk hcd S (fun vs H Q E h => ?_) (fun A outer s H vs Q E hr h => ⟨_, PSs.nox (hb cdv A outer s H vs E hr), body_red (by omega) hΓ hm hn h⟩)
  obtain ⟨Hm, ds, as, _, _, _, h, _⟩ := h
  rw [h.lenV, hms]
/-- a class whose objects may be made -/
def Mi (P : Program) (w : World) (K : PySem.W.Frag) (mg : Str → Option Value) (base : Heap) (k : Nat) (c : Str) (n np : Nat) (body : SF) : Prop :=
  ∃ (fa : Addr) (fd : FuncData) (ps : List Str), FnG P w K mg base k fa fd ps (spI K c n np body) ∧ Mk K (He.ga K c) fa ∧ mg c = some (.ref (He.ga K c)) ∧ Binds K fd ps [] ∧ ClsK K c
/-- a method of a class -/
def Mt (P : Program) (w : World) (K : PySem.W.Frag) (mg : Str → Option Value) (base : Heap) (k : Nat) (c m : Str) (ms : List Pm) (rm : Md) (f : FF) : Prop :=
  ∃ (fa : Addr) (fd : FuncData) (ps : List Str), FnG P w K mg base k fa fd ps (spV EW0 K ms rm f) ∧ Meth K (He.ga K c) m fa ∧ Binds K fd ps []
end
theorem RoomG.make {k : Nat} {A : Around} (r : RoomG (k + 1) A) (C : Addr) (us : List Value) (kw : List (Str × Value)) : RoomG k (A.under (.builtin "type.__call__" ⟨.ref C :: us, kw⟩)) := ⟨r.rm.make C us kw, r.gd⟩
section
variable {X : Cx} {C : Ct} {k j : Nat} {f : Addr} {fd : FuncData} {ps : List Str} {sp : Sp} {x m c : Str} {p pos apos : Pos} {e o : Expr} {es : List Expr} {t : TA} {ta : TE} {Cl : Addr}
theorem run_makeG {pins : List (Addr × Obj)} {σ : L2.St} {H : Hp} {s : Shared} {Q : VK} {us : List Value} {vs : List V} (M : Mk X.K Cl f) (F : FnG X.prog X.w X.K X.mg X.base k f fd ps sp) (hr : RoomG (k + 1) X.A) (hb : Binds X.K fd ps [])
    (I : Inv X pins σ H s) (r : Vals vs us)
    (h : ∀ x dx, H x = none → H dx = none → dx ≠ x → sp (.ref x :: vs) (upd (upd H dx (.own x)) x (.ins Cl dx [])) (fun v H2 => v = .non ∧ Q (.ref x) H2) E0) :
    wpAny (model X.prog X.w) X.A (call (.ref Cl) us) (EP X pins σ Q) X.xe s := by
  have hq := h (s.heap.objs.size + 1) s.heap.objs.size (I.hok.fresh (Nat.le_succ _)) (I.hok.fresh (Nat.le_refl _)) (Nat.ne_of_lt (Nat.lt_succ_self _))
  have I2 := Inv.made (C := Cl) I
  have r2 : Vals (V.ref (s.heap.objs.size + 1) :: vs) (Value.ref (s.heap.objs.size + 1) :: us) := .cons rfl r
  have hl : ((Value.ref (s.heap.objs.size + 1) :: us) ++ []).length = ps.length := by
    have e := r2.length
    rw [F.ar _ _ _ _ hq] at e
    rw [List.append_nil]
    exact e.symm
  have hbs := hb _ (Value.ref (s.heap.objs.size + 1) :: us) I2.kIn hl
  rw [List.append_nil] at hbs
  refine wpAny_call (make_map (f := f) I.kIn M.makes M.init (beq_iff_eq.mp M.fn) (codeAny_mono (F.go _ X.stack _ _ ⟨Value.ref (s.heap.objs.size + 1) :: us, []⟩ (Value.ref (s.heap.objs.size + 1) :: us) _ _ E0 (hr.make Cl us [])
    (I2.env0.make Cl us []) hbs r2 hq) fun r s' hq' => ?_))
  cases r with
  | error e => exact pass0 pins σ _ _ e s' I2 hq'
  | ok fl =>
    cases fl with
    | ret u =>
      obtain ⟨v, H', I3, rv, ev, q3⟩ := I2.after hq'
      subst ev
      exact ⟨rv, ⟨V.ref (s.heap.objs.size + 1), H', I3, rfl, q3⟩⟩
    | next => exact False.elim hq'
    | brk => exact False.elim hq'
    | cont => exact False.elim hq'
theorem pe_makeG (M : Mk X.K Cl f) (F : FnG X.prog X.w X.K X.mg X.base k f fd ps sp) (hr : RoomG (k + 1) X.A) (hg : Gl X x) (hm : X.mg x = some (.ref Cl)) (hb : Binds X.K fd ps [])
    (ha : PA X (e :: es) t) (hdb : (x == ("__debug__" : Str)) = false := by decide) (he : starEach (e :: es) X.env = (false, eval e X.env) :: starEach es X.env := by rfl) (hpl : (backTo pos (starEach es X.env)).any (·.1) = false := by rfl) :
    PE X (.Call (.Name x p) (e :: es) [] pos) (fun σ H Q => t σ H fun vs H1 => ∀ y dy, H1 y = none → H1 dy = none → dy ≠ y → sp (.ref y :: vs) (upd (upd H1 dy (.own y)) y (.ins Cl dy [])) (fun v H2 => v = .non ∧ Q (.ref y) H2) E0) := by
  refine ⟨fun pins s σ H Q I h => ?_⟩
  refine wpAny_Call_Name_kw (ld_glob I hg hm ?_ hdb)
  refine PySem.W.callWith_K (h₀ := X.base) I.ok.mod.kin M.kp (thn (ha.run pos pins s σ H _ I h) fun us s1 ⟨vs, H1, I1, r, q⟩ => ⟨I1.kIn, ?_⟩) he hpl
  exact run_makeG M F hr hb I1 r q
/-- C(..) -/
theorem ve_make {n np nf : Nat} {fs : List EF} {body : SF} (M : Mi X.prog X.w X.K X.mg X.base k c nf np body) (hr : RoomG j X.A) (hk : k + 1 ≤ j) (ha : VA X C (e :: es) n (eArgs fs)) (hn : n + 1 = np := by rfl)
    (hg : Gl X c := by rfl) (hdb : (c == ("__debug__" : Str)) = false := by decide) (he : starEach (e :: es) X.env = (false, eval e X.env) :: starEach es X.env := by rfl) (hpl : (backTo pos (starEach es X.env)).any (·.1) = false := by rfl) :
    VE X C (.ow (.ow .im)) (.Call (.Name c p) (e :: es) [] pos) (eMake (runI nf c body) fs) := by
  obtain ⟨fa, fd, ps, F, M, hm, b, ho⟩ := M
  refine PE.mono (pe_makeG M F (hr.mono hk) hg hm b ha hdb he hpl) fun σ H Q ⟨Hm, F, ρ, r, q⟩ => ⟨Hm, F, ρ, r, q.bind.imp fun p hq vs Hm1 H1 F1 s1 r1 x1 hl => ?_⟩
  intro y dy hy hdy hne
  obtain ⟨ds, ρ1⟩ := p
  refine ⟨y, dy, vs, H1, Hm1, ds, rfl, rfl, hy, hdy, hne, r1.sub, r1.tp, r1.fz, x1, ho, by rw [hl]; exact hn, ?_⟩
  have hq : fin X.K C Hm H F (match runI nf c body ds with
    | .ok d => Rs.ok (d, ρ1)
    | _ => .bad) _ := hq
  cases eb : runI nf c body ds with
  | bad => rw [eb] at hq; exact hq.elim
  | err x ρ => rw [eb] at hq; exact hq.elim
  | ok d =>
    rw [eb] at hq
    intro Hm' H' g st sub tp fz rd nd un nw
    obtain ⟨r2, s2⟩ := back_rel (is := []) (as := []) (rs := []) r1 .nil List.nodup_nil (fun _ z => by cases z) st sub tp fz .nil (fun _ _ z => by cases z)
    refine ⟨rfl, hq (.ref y) Hm' H' F1 g (s1.trans s2) r2 ⟨rd, nd, un, fun a ha i hi => ?_, fun a ha => s1.dm a (nw a ha)⟩⟩
    obtain ⟨o, ho⟩ := r1.bd i a hi
    rw [nw a ha] at ho; cases ho

/-! ### o.m(..), o read alone -/
theorem pe_methG {pl : Sem Bool} (he : PE X o ta) (c : Cls X.K Cl) (hm : Meth X.K Cl m f) (F : FnG X.prog X.w X.K X.mg X.base k f fd ps sp) (hr : RoomG k X.A) (hb : Binds X.K fd ps []) (ha : PA X (e :: es) t)
    (hst : starEach (e :: es) X.env = (false, eval e X.env) :: starEach es X.env := by rfl) (hpl : (backTo pos (starEach es X.env)).any (·.1) = false := by rfl)
    (ht : eval (.Call (.Attribute o m apos) (e :: es) [] pos) X.env = (do
      let ov ← eval o X.env
      standAt apos.atName
      let (f, first) ← holding [ov] (getMethod ov m pl)
      callWith pos f first (backTo pos (starEach (e :: es) X.env)) (backToKw pos (keywordEach [] X.env))) := by rfl) :
    PE X (.Call (.Attribute o m apos) (e :: es) [] pos) (fun σ H Q => ta σ H fun x H1 => ∃ a dx fs, x = .ref a ∧ H1 a = some (.ins Cl dx fs) ∧ fs.lookup m = none ∧ t σ H1 fun vs H2 => sp (.ref a :: vs) H2 Q E0) := by
  refine ⟨fun pins s σ H Q I h => ?_⟩
  refine PySem.W.methodCall_KW (pl := pl) (thn (he.run pins s σ H _ I h) fun u s1 ⟨x, H1, I1, rx, a, dx, fs, ex, ea, l, q⟩ => ?_) ht
  subst ex
  obtain rfl : u = Value.ref a := rx
  refine getmeth_ok I1 ea c hm l ?_
  refine PySem.W.callWith_K (first := [.ref a]) (h₀ := X.base) I.ok.mod.kin hm.kp (thn (ha.run pos pins s1 σ H1 _ I1 q) fun us s2 ⟨vs, H2, I2, r, q2⟩ => ⟨I2.kIn, ?_⟩) hst hpl
  exact run_g (us := .ref a :: us) (vs := .ref a :: vs) F hr hb I2 (.cons rfl r) q2
theorem pe_methG0 {pl : Sem Bool} (he : PE X o ta) (c : Cls X.K Cl) (hm : Meth X.K Cl m f) (F : FnG X.prog X.w X.K X.mg X.base k f fd ps sp) (hr : RoomG k X.A) (hb : Binds X.K fd ps [])
    (ht : eval (.Call (.Attribute o m apos) [] [] pos) X.env = (do
      let ov ← eval o X.env
      standAt apos.atName
      let (f, first) ← holding [ov] (getMethod ov m pl)
      callWith pos f first (backTo pos (starEach [] X.env)) (backToKw pos (keywordEach [] X.env))) := by rfl) :
    PE X (.Call (.Attribute o m apos) [] [] pos) (fun σ H Q => ta σ H fun x H1 => ∃ a dx fs, x = .ref a ∧ H1 a = some (.ins Cl dx fs) ∧ fs.lookup m = none ∧ sp [.ref a] H1 Q E0) := by
  refine ⟨fun pins s σ H Q I h => ?_⟩
  refine PySem.W.methodCall_KW (pl := pl) (thn (he.run pins s σ H _ I h) fun u s1 ⟨x, H1, I1, rx, a, dx, fs, ex, ea, l, q⟩ => ?_) ht
  subst ex
  obtain rfl : u = Value.ref a := rx
  refine getmeth_ok I1 ea c hm l ?_
  exact PySem.W.callWith_K0 (first := [.ref a]) I1.kIn hm.kp (run_g (us := [.ref a]) (vs := [.ref a]) F hr hb I1 (.cons rfl .nil) q)
/-- the call's promise, from the wish behind it -/
theorem meth_sp {rm : Md} {ff : FF} {ms : List Pm} {n : Nat} {Hma Ha Hm0 H0 Hm H : Hp} {Fa F0 F : Fps} {σ : L2.St} {ρ : En} {Q : VK} {vs : List V} {ds : List D} (r : Rel X.K C Hm H F σ ρ) (s : Step Hm0 H0 F0 Hm H F) (h : DtA X.K Hm vs ds) (hl : vs.length = n) (hms : ms = List.replicate n .im)
    (q : fin X.K C Hma Ha Fa (match ff ds with | .ok r => Rs.ok (r.1, ρ) | _ => .bad) (OkE X.K C rm Hm0 H0 F0 σ Q)) : spV EW0 X.K ms rm ff vs H Q E0 := by
  refine ⟨Hm, ds, [], r.sub, r.tp, r.fz, by rw [hms, ← hl]; exact args_im h, ?_⟩
  cases eb : ff ds with
  | bad => rw [eb] at q; exact q.elim
  | err x ρ => rw [eb] at q; exact q.elim
  | ok z =>
    rw [eb] at q
    intro v Hm' H' g bk xv
    obtain ⟨r2, s2⟩ := back_rel (is := []) (as := []) (rs := z.2) r .nil List.nodup_nil (fun _ z => by cases z) bk.st bk.sub bk.tp bk.fz bk.rf (fun _ _ z => by cases z)
    refine q v Hm' H' F g (s.trans s2) r2 ⟨xv.rd, xv.nd, xv.un, fun a ha i hi => ?_, fun a ha => s.dm a (xv.nw a ha)⟩
    obtain ⟨o, ho⟩ := r.bd i a hi
    rw [xv.nw a ha] at ho; cases ho
theorem ve_meth {n : Nat} {fs : List EF} {fo : EF} {rm : Md} {ff : FF} {ms : List Pm} {pl : Sem Bool} (M : Mt X.prog X.w X.K X.mg X.base k c m ms rm ff) (ho : VE X C .im o fo) (hr : RoomG j X.A) (hk : k ≤ j) (ha : VA X C (e :: es) n (eArgs fs)) (hms : ms = List.replicate (n + 1) .im := by rfl)
    (hcl : ClsK X.K c)
    (hst : starEach (e :: es) X.env = (false, eval e X.env) :: starEach es X.env := by rfl) (hpl : (backTo pos (starEach es X.env)).any (·.1) = false := by rfl)
    (ht : eval (.Call (.Attribute o m apos) (e :: es) [] pos) X.env = (do
      let ov ← eval o X.env
      standAt apos.atName
      let (f, first) ← holding [ov] (getMethod ov m pl)
      callWith pos f first (backTo pos (starEach (e :: es) X.env)) (backToKw pos (keywordEach [] X.env))) := by rfl) :
    VE X C rm (.Call (.Attribute o m apos) (e :: es) [] pos) (eMeth c m ff fo fs) := by
  obtain ⟨fa, fd, ps, F, M, b⟩ := M
  refine PE.mono (pe_methG (pl := pl) ho hcl.cl M F (hr.mono hk) b ha hst hpl ht) fun σ H Q ⟨Hm, F, ρ, r, q⟩ => ⟨Hm, F, ρ, r, q.bind.imp fun p hq v Hm1 H1 F1 g1 s1 r1 x1 => ?_⟩
  obtain ⟨d, ρ1⟩ := p
  have x2 := x1.of_im
  cases x2 with
  | @obj a dx fs' c' kds oc hA hk =>
    have hz : fin X.K C Hm H F (if c' = c ∧ fldO m kds = none then (eArgs fs ρ1 >>= fun q => match ff (.obj c' kds :: q.1) with
      | .ok r => Rs.ok (r.1, q.2)
      | _ => .bad) else .bad) _ := hq
    by_cases hc : c' = c ∧ fldO m kds = none
    · rw [if_pos hc] at hz
      obtain ⟨rfl, hc⟩ := hc
      refine ⟨a, dx, fs', rfl, r1.sub _ _ hA, hk.nofld hc, Hm1, F1, ρ1, r1, (hz.step s1).bind.imp fun p2 hq2 vs Hm2 H2 F2 s2 r2 x2 hl => ?_⟩
      exact meth_sp (n := n + 1) r2 (s1.trans s2) (.cons (Dt.mono s2.sm _ (.obj oc hA hk)) x2) (by rw [List.length_cons, hl]) hms hq2
    · rw [if_neg hc] at hz
      exact hz.elim
  | @exc a c' o ha =>
    have hz : fin X.K C Hm H F (if c' = c ∧ fldO m [] = none then (eArgs fs ρ1 >>= fun q => match ff (.obj c' [] :: q.1) with
      | .ok r => Rs.ok (r.1, q.2)
      | _ => .bad) else .bad) _ := hq
    by_cases hc : c' = c ∧ fldO m [] = none
    · obtain ⟨rfl, _⟩ := hc
      exact (o.no hcl).elim
    · rw [if_neg hc] at hz
      exact hz.elim
  | @exf a dx fs' c' kds o ha _ _ =>
    have hz : fin X.K C Hm H F (if c' = c ∧ fldO m kds = none then (eArgs fs ρ1 >>= fun q => match ff (.obj c' kds :: q.1) with
      | .ok r => Rs.ok (r.1, q.2)
      | _ => .bad) else .bad) _ := hq
    by_cases hc : c' = c ∧ fldO m kds = none
    · obtain ⟨rfl, _⟩ := hc
      exact (o.no hcl).elim
    · rw [if_neg hc] at hz
      exact hz.elim
  | _ => exact hq.elim
theorem ve_meth0 {fo : EF} {rm : Md} {ff : FF} {ms : List Pm} {pl : Sem Bool} (M : Mt X.prog X.w X.K X.mg X.base k c m ms rm ff) (ho : VE X C .im o fo) (hr : RoomG j X.A) (hk : k ≤ j) (hcl : ClsK X.K c) (hms : ms = List.replicate 1 .im := by rfl)
    (ht : eval (.Call (.Attribute o m apos) [] [] pos) X.env = (do
      let ov ← eval o X.env
      standAt apos.atName
      let (f, first) ← holding [ov] (getMethod ov m pl)
      callWith pos f first (backTo pos (starEach [] X.env)) (backToKw pos (keywordEach [] X.env))) := by rfl) :
    VE X C rm (.Call (.Attribute o m apos) [] [] pos) (eMeth c m ff fo []) := by
  obtain ⟨fa, fd, ps, F, M, b⟩ := M
  refine PE.mono (pe_methG0 (pl := pl) ho hcl.cl M F (hr.mono hk) b ht) fun σ H Q ⟨Hm, F, ρ, r, q⟩ => ⟨Hm, F, ρ, r, q.bind.imp fun p hq v Hm1 H1 F1 g1 s1 r1 x1 => ?_⟩
  obtain ⟨d, ρ1⟩ := p
  have x2 := x1.of_im
  cases x2 with
  | @obj a dx fs' c' kds oc hA hk =>
    have hz : fin X.K C Hm H F (if c' = c ∧ fldO m kds = none then (eArgs [] ρ1 >>= fun q => match ff (.obj c' kds :: q.1) with
      | .ok r => Rs.ok (r.1, q.2)
      | _ => .bad) else .bad) _ := hq
    by_cases hc : c' = c ∧ fldO m kds = none
    · rw [if_pos hc] at hz
      obtain ⟨rfl, hc⟩ := hc
      refine ⟨a, dx, fs', rfl, r1.sub _ _ hA, hk.nofld hc, ?_⟩
      exact meth_sp (n := 1) r1 s1 (.cons (.obj oc hA hk) .nil) rfl hms hz
    · rw [if_neg hc] at hz
      exact hz.elim
  | @exc a c' o ha =>
    have hz : fin X.K C Hm H F (if c' = c ∧ fldO m [] = none then (eArgs [] ρ1 >>= fun q => match ff (.obj c' [] :: q.1) with
      | .ok r => Rs.ok (r.1, q.2)
      | _ => .bad) else .bad) _ := hq
    by_cases hc : c' = c ∧ fldO m [] = none
    · obtain ⟨rfl, _⟩ := hc
      exact (o.no hcl).elim
    · rw [if_neg hc] at hz
      exact hz.elim
  | @exf a dx fs' c' kds o ha _ _ =>
    have hz : fin X.K C Hm H F (if c' = c ∧ fldO m kds = none then (eArgs [] ρ1 >>= fun q => match ff (.obj c' kds :: q.1) with
      | .ok r => Rs.ok (r.1, q.2)
      | _ => .bad) else .bad) _ := hq
    by_cases hc : c' = c ∧ fldO m kds = none
    · obtain ⟨rfl, _⟩ := hc
      exact (o.no hcl).elim
    · rw [if_neg hc] at hz
      exact hz.elim
  | _ => exact hq.elim
end
end VL

set_option Elab.async false
set_option linter.all false
set_option maxRecDepth 100000
set_option maxHeartbeats 4000000
/-! V31: displays with stars. -/
namespace VL
open PySem PySem.Spec PyProof.Rows L2
def tX (K : PySem.W.Frag) (C : Ct) (f : XF) : TA := fun σ H Q => ∃ Hm F ρ, Rel K C Hm H F σ ρ ∧ fin K C Hm H F (f ρ) fun p => ∀ vs Hm' H' F', Step Hm H F Hm' H' F' → Rel K C Hm' H' F' σ p.2 → DtA K Hm' vs p.1 → Q vs H'
abbrev VX (X : Cx) (C : Ct) (es : List Expr) (f : XF) : Prop := PA X es (tX X.K C f)
section
variable {X : Cx} {C : Ct} {e : Expr} {es : List Expr} {f : EF} {g : XF} {pos p : Pos}
theorem vx_nil : VX X C [] xNil := PA.mono pa_nil fun σ H Q ⟨Hm, F, ρ, r, q⟩ => q [] Hm H F .refl r .nil
theorem vx_cons (h1 : VE X C .im e f) (h2 : VX X C es g) (hs : starEach (e :: es) X.env = (false, eval e X.env) :: starEach es X.env := by rfl) : VX X C (e :: es) (xCons f g) := by
  refine PA.mono (pa_cons h1 h2 hs) fun σ H Q ⟨Hm, F, ρ, r, q⟩ => ?_
  refine ⟨Hm, F, ρ, r, q.bind.imp fun p hq v Hm1 H1 F1 g1 s1 r1 x1 => ?_⟩
  refine ⟨Hm1, F1, p.2, r1, (hq.step s1).bind.imp fun p2 hq2 vs Hm2 H2 F2 s2 r2 x2 => ?_⟩
  exact hq2 (v :: vs) Hm2 H2 F2 (s1.trans s2) r2 (.cons (Dt.mono s2.sm _ x1.of_im) x2)
theorem items_dt {K : PySem.W.Frag} {H : Hp} {v : V} {d : D} {ds : List D} (h : Dt K H v d) (e : itemsD d = some ds) : ∃ a xs, v = .ref a ∧ (SqT K H a xs ∨ SqL K H a xs) ∧ DtA K H xs ds := by
  cases h with
  | lst a b => cases e; exact ⟨_, _, rfl, .inr (.inl a), b⟩
  | tup a b => cases e; exact ⟨_, _, rfl, .inl a, b⟩
  | _ => cases e
theorem sql_mono {K : PySem.W.Frag} {H H' : Hp} {a : Addr} {xs : List V} (e : Same H H') (h : SqL K H a xs) : SqL K H' a xs := by
  rcases h with h | h
  · exact .inl (Same.rd e h)
  · exact .inr h
theorem vx_star (h1 : VE X C .im e f) (h2 : VX X C es g) (hs : starEach (.Starred e p :: es) X.env = (true, eval e X.env) :: starEach es X.env := by rfl) : VX X C (.Starred e p :: es) (xStar f g) := by
  refine PA.mono (StX.pa_star h1 h2 hs) fun σ H Q ⟨Hm, F, ρ, r, q⟩ => ?_
  refine ⟨Hm, F, ρ, r, q.bind.imp fun p hq v Hm1 H1 F1 g1 s1 r1 x1 => ?_⟩
  obtain ⟨ds, eds, hq⟩ := hq.bind.of
  obtain ⟨a, xs, rfl, hs, hx⟩ := items_dt x1.of_im eds
  refine ⟨a, xs, rfl, hs.imp (fun z => Same.sqt r1.sub z) fun z => sql_mono r1.sub z, Hm1, F1, p.2, r1, (hq.step s1).bind.imp fun p2 hq2 vs Hm2 H2 F2 s2 r2 x2 => ?_⟩
  exact hq2 (xs ++ vs) Hm2 H2 F2 (s1.trans s2) r2 (DtA.append (DtA.mono s2.sm _ hx) x2)
theorem ve_lstX (h : VX X C es g) : VE X C (.ow .im) (.List es pos) (eLstX g) := by
  refine PE.mono (pe_lst h) fun σ H Q ⟨Hm, F, ρ, r, q⟩ => ⟨Hm, F, ρ, r, q.bind.imp fun p hq vs Hm1 H1 F1 s1 r1 x1 => ?_⟩
  by_cases hl : p.1.length ≤ LINE
  · have hq : fin X.K C Hm H F (if p.1.length ≤ LINE then Rs.ok (D.lst p.1, p.2) else Rs.bad) _ := hq
    rw [if_pos hl] at hq
    exact ⟨by rw [x1.length]; exact hl, fun a ha => endE hq s1 r1 (Grow.own (o := .lst vs) r1.sub ha (fun _ _ z => by cases z) fun _ z => by cases z) (Res.lst r1.sub ha x1)⟩
  · have hq : fin X.K C Hm H F (if p.1.length ≤ LINE then Rs.ok (D.lst p.1, p.2) else Rs.bad) _ := hq
    rw [if_neg hl] at hq
    exact hq.elim
end
end VL
namespace VL
open PySem PySem.Spec PyProof.Rows L2
/-- a def within a class -/
def memS (st : Stmt) (j : Nat) : Stmt := match st with
  | .ClassDef _ _ _ body _ _ _ _ _ _ _ => body.getD j (.Pass ⟨0, 0, 0, 0⟩)
  | s => s
def MiTop (K : PySem.W.Frag) (mg : Str → Option Value) (c q : Str) (st : Stmt) : Prop :=
  ∃ (fa : Addr) (fd : FuncData), FunD K "__init__" q (defArgs st) (defBody st) (defScope st) [] [] fa fd ∧ Mk K (He.ga K c) fa ∧ mg c = some (.ref (He.ga K c)) ∧ ClsK K c
def MtTop (K : PySem.W.Frag) (c m q : Str) (st : Stmt) : Prop :=
  ∃ (fa : Addr) (fd : FuncData), FunD K m q (defArgs st) (defBody st) (defScope st) [] [] fa fd ∧ Meth K (He.ga K c) m fa
end VL

set_option Elab.async false
set_option linter.all false
set_option maxRecDepth 100000
set_option maxHeartbeats 4000000
/-! V32: an item of a list that nobody else has. -/
namespace VL
open PySem PySem.Spec PyProof.Rows L2
theorem atI_of {xs : List V} {i : Int} {j : Nat} {v : V} (h : ixD xs.length i = some j) (hv : xs[j]? = some v) : atI xs i = some v := by
  unfold atI
  rw [show ixN xs.length i = some j from h]
  exact hv
section
variable {X : Cx} {C : Ct} {a b : Expr} {fa fb : EF} {pos : Pos} {k : Md}
theorem ixO_red {σ : L2.St} {H : Hp} {Q : VK} (h : tE X.K C k (eOp2 ixGet fa fb) σ H Q) : tOp (rIxL X.K) (tE X.K C (.ow k) fa) (tE X.K C .im fb) σ H Q := by
  obtain ⟨Hm, F, ρ, r, q⟩ := h
  refine ⟨Hm, F, ρ, r, q.bind.imp fun p hq v Hm1 H1 F1 g1 s1 r1 x1 => ?_⟩
  refine ⟨Hm1, F1, p.2, r1, (hq.step s1).bind.imp fun p2 hq2 w Hm2 H2 F2 g2 s2 r2 x2 => ?_⟩
  obtain ⟨z, ez, hz⟩ := (hq2.step s2).bind.of
  obtain ⟨d, ρ1⟩ := p
  obtain ⟨dk, ρ2⟩ := p2
  have x3 := x2.of_im
  have y1 := x1.step s2
  obtain ⟨p, rfl, h4⟩ := y1.rd
  rcases h4 with ⟨xs, ds, g, rfl, ho, hall, rfl⟩ | ⟨kvs, kds, g, rfl, _⟩ | ⟨c, dx, fs, kds, g, _, rfl, _⟩
  · cases dk with
    | int i =>
      cases x3
      have ez : (ixD ds.length i).bind (fun j => ds[j]?) = some z := ez
      obtain ⟨j, e1, e2⟩ := Option.bind_eq_some_iff.mp ez
      obtain ⟨u, f1, fx, f2, k1, k2, k3, _⟩ := hall.at e2
      refine ⟨p, xs, i, u, rfl, rfl, .of ho, atI_of (by rw [hall.length]; exact e1) k1, ?_⟩
      have sub : ∀ a ∈ fx, a ∈ p :: g := fun a ha => List.mem_cons_of_mem _ (by rw [k3]; exact List.mem_append_right _ (List.mem_append_left _ ha))
      have nd : fx.Nodup := by
        have := (List.nodup_cons.mp y1.nd).2
        rw [k3] at this
        exact (List.nodup_append.mp (List.nodup_append.mp this).2.1).1
      exact hz u Hm2 H2 F2 fx (s1.trans s2) r2 ⟨k2, nd, fun a ha => y1.un a (sub a ha), fun a ha => y1.ap a (sub a ha), fun a ha => y1.nw a (sub a ha)⟩
    | _ => cases ez
  · cases dk <;> cases ez
  · cases dk <;> cases ez
/-- e[i], e a list of one's own that is thrown away -/
theorem ve_ixO (ha : VE X C (.ow k) a fa) (hb : VE X C .im b fb) (hs : PlainIx b := by exact fun _ _ => rfl) : VE X C k (.Subscript a b pos) (eOp2 ixGet fa fb) := PE.mono (pe_ix ix_list ha hb hs) fun _ _ _ => ixO_red
end
/-! ### x.pop(), its value -/
section
variable {X : Cx} {C : Ct} {x : Str} {i : Nat} {p p1 p2 : Pos}
theorem popE_red {σ : L2.St} {H : Hp} {Q : VK} (hm : C.Γ[i]? = some (.ow .im)) (h : tE X.K C .im (ePop i) σ H Q) : tBM0 X.K "list" rPop (tVar i) σ H Q := by
  obtain ⟨Hm, F, ρ, r, q⟩ := h
  unfold ePop at q
  split at q
  · rename_i ds e0
    split at q
    · rename_i d ed
      obtain ⟨a, xs, g, h1, h2, hall, hF, hag⟩ := r.own e0 hm
      have hds : ds ≠ [] := fun z => by rw [z] at ed; cases ed
      obtain ⟨d0, ds0, rfl⟩ : ∃ d0 ds0, ds = d0 :: ds0 := by
        cases ds with
        | nil => exact absurd rfl hds
        | cons a b => exact ⟨a, b, rfl⟩
      obtain ⟨g', q1, q2, q3⟩ := hall.init
      have nd : g.Nodup := by have := r.nd i; rw [hF] at this; exact (List.nodup_cons.mp this).2
      obtain ⟨r2, s2⟩ := r.put_items .refl hm h1 h2 hF hag q1 q2 (q3 nd)
      have hl : xs.length = ds0.length + 1 := hall.length
      rw [List.getLast?_eq_getElem?] at ed
      obtain ⟨w, h3, h4⟩ := (all_im hall).1.get ed
      have h3 : xs[xs.length - 1]? = some w := by
        rw [show xs.length - 1 = (d0 :: ds0).length - 1 by rw [List.length_cons]; omega]
        exact h3
      exact ⟨.ref a, h1, .inl ⟨rfl, xs, .of h2⟩, a, xs, w, rfl, rfl, h2, h3, q w Hm _ _ [] s2 r2 (Val.im (Dt.mono s2.sm _ h4))⟩
    · exact q.elim
  · exact q.elim
theorem ve_pop (hm : C.Γ[i]? = some (.ow .im) := by rfl) (hN : X.N[i]? = some x := by rfl) (hv : Vis X.env.scope x := by first | exact Or.inl rfl | exact Or.inr (Or.inl rfl) | exact Or.inr (Or.inr rfl))
    (hd : (x == ("__debug__" : Str)) = false := by decide) (hcd : (x == ("__classdict__" : Str)) = false := by decide)
    (hbase : attributeBase (.Name x p) "pop" X.env (eval (.Name x p) X.env) = eval (.Name x p) X.env := by rfl) (hline : (p1.endLine == p2.line) = true := by rfl) :
    VE X C .im (.Call (.Attribute (.Name x p) "pop" p1) [] [] p2) (ePop i) :=
  PE.mono (pe_bm0 PySem.F.plainAttrs_list PySem.F.slot_list_pop PySem.F.type_list_pop mt_pop (pe_var hN hv hd hcd) hbase hline) fun _ _ _ => popE_red hm
end
end VL

set_option Elab.async false
set_option linter.all false
set_option maxRecDepth 100000
set_option maxHeartbeats 4000000
/-! V33: a dict displayed with one pair; k in d, k not in d. -/
namespace VL
open PySem PySem.Spec PyProof.Rows L2
section
variable {K : PySem.W.Frag} {C : Ct} {Hm0 H0 Hm H : Hp} {F0 F : Fps} {σ : L2.St} {ρ : En} {p : Addr} {o : HO}
theorem Rel.tmpO (r : Rel K C Hm H F σ ρ) (hp : ∀ i, p ∉ F i) (hm : Hm p = none) (ht : ∀ xs, o ≠ .tup xs) (hf : ∀ ob u, o ≠ .frz ob u) : Rel K C Hm (upd H p o) F σ ρ where
  ls := r.ls
  lr := r.lr
  sl := fun i d h => by
    obtain ⟨v, m, h1, h2, h3⟩ := r.sl i d h
    refine ⟨v, m, h1, h2, h3.step (Same.refl _) fun a ha o ho => ?_⟩
    have : a ≠ p := fun z => by subst z; exact hp i ha
    rw [upd_ne this]
    exact ho
  nd := r.nd
  dj := r.dj
  un := r.un
  sub := fun b o e => by
    have : b ≠ p := fun z => by subst z; rw [hm] at e; cases e
    rw [upd_ne this]
    exact r.sub b o e
  bd := fun i a ha => by
    obtain ⟨o, ho⟩ := r.bd i a ha
    have : a ≠ p := fun z => by subst z; exact hp i ha
    exact ⟨o, by rw [upd_ne this]; exact ho⟩
  tp := fun b xs e => by
    by_cases z : b = p
    · subst z; rw [upd_same] at e; cases e; exact absurd rfl (ht _)
    · rw [upd_ne z] at e; exact r.tp b xs e
  fz := fun b ob u e => by
    by_cases z : b = p
    · subst z; rw [upd_same] at e; cases e; exact absurd rfl (hf _ _)
    · rw [upd_ne z] at e; exact r.fz b ob u e
  he := fun b e => by
    by_cases z : b = p
    · subst z; rw [upd_same] at e; cases e
    · rw [upd_ne z] at e; exact r.he b e
  ow := r.ow
  fx := r.fx
theorem Step.tmpO (s : Step Hm0 H0 F0 Hm H F) (hp : H0 p = none) : Step Hm0 H0 F0 Hm (upd H p o) F where
  sm := s.sm
  kp := fun b o e hf => by rw [upd_ne (ne_of_none e hp)]; exact s.kp b o e hf
  nw := s.nw
  fn := s.fn
  dm := fun b e => by
    by_cases z : b = p
    · subst z; rw [upd_same] at e; cases e
    · rw [upd_ne z] at e; exact s.dm b e
end
section
variable {X : Cx} {C : Ct} {a b ek ev : Expr} {fa fb fk fv : EF} {pos : Pos}
theorem dct1_red {σ : L2.St} {H : Hp} {Q : VK} (h : tE X.K C (.ow .im) (eDct1 fk fv) σ H Q) : tDisp [(tE X.K C .im fk, tE X.K C .im fv)] σ H Q := by
  obtain ⟨Hm, F, ρ, r, q⟩ := h
  intro p hp
  have pF : ∀ i, p ∉ F i := fun i z => by
    obtain ⟨o, ho⟩ := r.bd i p z
    rw [hp] at ho; cases ho
  have pm := Same.none r.sub hp
  have r0 := r.tmpO (o := .dK []) pF pm (fun _ z => by cases z) (fun _ _ z => by cases z)
  have s0 : Step Hm H F Hm (upd H p (.dK [])) F := Step.refl.tmpO hp
  refine ⟨Hm, F, ρ, r0, (q.step s0).bind.imp fun p1 hq v Hm1 H1 F1 g1 s1 r1 x1 => ?_⟩
  refine ⟨Hm1, F1, p1.2, r1, (hq.step s1).bind.imp fun p2 hq2 w Hm2 H2 F2 g2 s2 r2 x2 => ?_⟩
  have s12 := s1.trans s2
  have hpp : H2 p = some (.dK []) := s12.kp p _ upd_same pF
  have hq2 : fin X.K C Hm1 H1 F1 (match keyD p1.1 with
    | some k => Rs.ok (.dct [(k, p2.1)], p2.2)
    | none => .bad) (OkE X.K C (.ow .im) Hm H F σ Q) := hq2
  cases ek : keyD p1.1 with
  | none => rw [ek] at hq2; exact hq2.elim
  | some k =>
    rw [ek] at hq2
    have ev := keyD_of x1.of_im ek
    subst ev
    refine ⟨hpp, [(k, w)], rfl, (by show 1 ≤ 15; decide), ?_⟩
    have pF2 : ∀ i, p ∉ F2 i := fun i z => by
      rcases s12.fn i p z with ⟨j, hj⟩ | hj
      · exact pF j hj
      · rw [upd_same] at hj; cases hj
    have pm2 : Hm2 p = none := by
      cases e : Hm2 p with
      | none => rfl
      | some o =>
        rcases s12.nw p o e with z | ⟨j, z⟩ | z
        · rw [pm] at z; cases z
        · exact absurd z (pF j)
        · rw [upd_same] at z; cases z
    have r3 := r2.tmpO (o := .dK [(k, w)]) pF2 pm2 (fun _ z => by cases z) (fun _ _ z => by cases z)
    have s3 : Step Hm H F Hm2 (upd H2 p (.dK [(k, w)])) F2 := (s0.trans s12).tmpO hp
    exact hq2 (.ref p) Hm2 _ F2 [p] s3 r3 ⟨⟨p, rfl, .inr (.inl ⟨_, _, [], rfl, upd_same, imk_all (.cons x2.of_im .nil), rfl⟩)⟩, (by simp), (fun a ha => by rw [List.mem_singleton.mp ha]; exact pm2), (fun a ha => by rw [List.mem_singleton.mp ha]; exact pF2), fun a ha => by rw [List.mem_singleton.mp ha]; exact hp⟩
/-- {k: v} -/
theorem ve_dct1 (hk : VE X C .im ek fk) (hv : VE X C .im ev fv) : VE X C (.ow .im) (.Dict [some ek] [ev] pos) (eDct1 fk fv) :=
  PE.mono (pe_disp (pps_cons hk hv pps_nil) rfl rfl (by simp) (by show 1 ≤ 15; decide)) fun _ _ _ => dct1_red
theorem dNotIn_red {σ : L2.St} {H : Hp} {Q : VK} (h : tE X.K C .im (eOp2 dNotIn fa fb) σ H Q) : tDNotIn (tE X.K C .im fa) (tE X.K C .im fb) σ H Q := by
  obtain ⟨Hm, F, ρ, r, q⟩ := h
  refine ⟨Hm, F, ρ, r, q.bind.imp fun p hq v Hm1 H1 F1 g1 s1 r1 x1 => ?_⟩
  refine ⟨Hm1, F1, p.2, r1, (hq.step s1).bind.imp fun p2 hq2 w Hm2 H2 F2 g2 s2 r2 x2 => ?_⟩
  obtain ⟨z, ez, hz⟩ := (hq2.step s2).bind.of
  obtain ⟨d, ρ1⟩ := p
  obtain ⟨e, ρ2⟩ := p2
  have x3 := x2.of_im
  cases x3 with
  | @dct a kvs kds h1 h2 =>
    have ez : ((keyD d).map fun k => D.bl (!(valD kds k).isSome)) = some z := ez
    obtain ⟨k, hk, rfl⟩ := Option.map_eq_some_iff.mp ez
    have ey := keyD_of x1.of_im hk
    subst ey
    have e2 := (DtK.get (k := k) h2).2
    rw [e2] at hz
    exact ⟨a, valV kvs k, rfl, .inl ⟨_, k, Same.rd r2.sub h1, rfl, rfl⟩, hz (.bl _) Hm2 H2 F2 [] (s1.trans s2) r2 (Val.im (.bl _))⟩
  | _ => cases ez
/-- k not in d -/
theorem ve_dnotin (hu : X.A.units + 1 < cLine) (ha : VE X C .im a fa) (hb : VE X C .im b fb) (hm : behindInMarks .NotIn b = false := by rfl) : VE X C .im (.Compare a [.NotIn] [b] pos) (eOp2 dNotIn fa fb) := PE.mono (pe_cmp (pc_dnotin hu ha hb) hm) fun _ _ _ => dNotIn_red
theorem vt_dnotin (hu : X.A.units + 1 < cLine) (ha : VE X C .im a fa) (hb : VE X C .im b fb) (hm : behindInMarks .NotIn b = false := by rfl) : VT X C (.Compare a [.NotIn] [b] pos) (tVal (eOp2 dNotIn fa fb)) := PT.mono (pt_cmp (pc_dnotin hu ha hb) hm) fun _ _ _ => redT fun _ => dNotIn_red
end
end VL

set_option Elab.async false
set_option linter.all false
set_option maxRecDepth 100000
set_option maxHeartbeats 4000000
/-! V34: defs with a star parameter; enumerate over a tuple; a try whose body raises nothing. -/
namespace VL
open PySem PySem.Spec PyProof.Rows L2
/-! ### def f(a, .., *v) -/
section
variable {P : Program} {w : World} {K : PySem.W.Frag} {mg : Str → Option Value} {base : Heap}
structure FnS (P : Program) (w : World) (K : PySem.W.Frag) (mg : Str → Option Value) (base : Heap) (k : Nat) (f : Addr) (np : Nat) (sp : Sp) : Prop where
  go : ∀ (A : Around) (outer : List PySem.Env) (s : Shared) (H : Hp) (us : List Value) (vs : List V) (Q : VK) (E : XK), RoomG k A → Env0 P w K mg base A outer s H → Vals vs us →
    (∃ ws rest, vs = ws ++ rest ∧ ws.length = np ∧ rest.length ≤ sizeLine ∧ ∀ p, H p = none → sp (ws ++ [V.ref p]) (upd H p (.tup rest)) Q E) →
    codeAny (model P w) A (.call (.ref f) ⟨us, []⟩) (CR CX0 outer P w H s Q E) s
theorem FnS.mono {j k : Nat} {f : Addr} {np : Nat} {sp : Sp} (F : FnS P w K mg base j f np sp) (h : j ≤ k) : FnS P w K mg base k f np sp :=
  ⟨fun A o s H us vs Q E hr => F.go A o s H us vs Q E (hr.mono h)⟩
theorem fn_starG {f : Addr} {name qual pv : Str} {params : Arguments} {body : List Stmt} {scope : Scope} {dV kV doc pm cdv ct oc : Value} {an od : Option Addr}
    {osl : Array (Option Value)} {N ps : List Str} {sp : Sp} {k : Nat} (lk : K.lookup f = some ⟨oc, od, .func (PySem.W.fnOf name qual params body scope dV kV doc pm an cdv ct), osl⟩) (hcd : PySem.W.codeIn K cdv qual = true) (S : FnScope N (ps ++ [pv]) scope)
    (hb : ∀ us rest : List Value, us.length = ps.length → bindArgs (PySem.W.fnOf name qual params body scope dV kV doc pm an cdv ct) ⟨us ++ rest, []⟩ = (newTuple rest >>= fun t => pure (ps.zip us ++ [(pv, t)])))
    (hbody : ∀ (A : Around) (outer : List PySem.Env) (s : Shared) (H : Hp) (vs : List V) (Q : VK) (E : XK), RoomG k (A.deeper (envOfC qual scope s.heap.objs.size f cdv)) → sp vs H Q E →
      ∃ t, PSs (cxOf CX0 P w K mg base N qual scope f cdv A outer s H E) body t ∧ t { nx := fun _ H' => Q .non H', rt := Q } (L2.start N vs) H) :
    FnS P w K mg base (k + 1) f ps.length sp := by
  refine ⟨fun A outer s H us vs Q E hr e0 r hsp => ?_⟩
  obtain ⟨ws, rest, ev, hl, hz, hq⟩ := hsp
  subst ev
  obtain ⟨u1, u2, eu, r1, r2⟩ := StX.vals_split r
  subst eu
  have hn : H s.heap.objs.size = Option.none := e0.hok.fresh (Nat.le_refl _)
  have hl1 : u1.length = ps.length := by rw [← r1.length]; exact hl
  have hl2 : u2.length ≤ sizeLine := by rw [← r2.length]; exact hz
  refine StX.run_bnd lk hcd S hr.rm e0 (G := fun xs H2 => ∃ p, H p = Option.none ∧ xs = ws ++ [V.ref p] ∧ H2 = upd H p (.tup rest)) (fun A' Ex Q' h => ?_) fun s2 H2 xs ⟨p, hp, ex, eH⟩ hr' => ?_
  · rw [hb u1 u2 hl1]
    refine wpAny_bind (wpAny_newTuple (wpAny_pure ?_) hl2)
    have new : ObjOk P w (upd H s.heap.objs.size (.tup rest)) (s.heap.push ({ cls := .type "tuple", data := .seq u2.toArray } : Obj)) s.heap.objs.size (.tup rest) := ⟨hz, u2, r2, ⟨_, Heap.get?_push_size _ rfl, rfl, _, rfl⟩⟩
    have un   := StX.un_laid (fs := frs outer) (s := s) (o := ({ cls := .type "tuple", data := .seq u2.toArray } : Obj)) (u := .tup rest) hn
    have z := h _ _ (ws ++ [V.ref s.heap.objs.size]) (u1 ++ [Value.ref s.heap.objs.size]) (StX.env0_laid e0 new) un rfl (fun e s' z => z) (r1.append (.cons rfl .nil))
      (by rw [List.length_append, List.length_append, hl] <;> rfl) ⟨_, hn, rfl, rfl⟩
    rw [List.zip_append hl1.symm] at z
    exact z
  · subst ex eH
    exact hbody A outer s2 _ _ Q E ⟨hr', hr.gd⟩ (hq p hp)
/-- a def with a star parameter -/
def Cs (P : Program) (w : World) (K : PySem.W.Frag) (mg : Str → Option Value) (base : Heap) (k : Nat) (x : Str) (np : Nat) (rm : Md) (f : FF) : Prop :=
  ∃ (fa : Addr), FnS P w K mg base k fa np (spV EW0 K (List.replicate (np + 1) .im) rm f) ∧ mg x = some (.ref fa) ∧ PySem.W.keepIn K (.ref fa) = true
theorem fn_okS {x pv : Str} {st : Stmt} {f : Addr} {fd : FuncData} {N ps : List Str} {k : Nat} {rm : Md} {Γ : List Md} {body : SF} (F : FnT K x st f fd) (S : FnScope N (ps ++ [pv]) (defScope st)) (hΓ : Γ.length = N.length) (hm : modesOk (List.replicate (ps.length + 1) .im) Γ = true)
    (hn : rm = .im ∨ ∀ ρ ρ', body ρ ≠ .ok (.next, ρ'))
    (hbd : ∀ (kV doc pm : Value) (an : Option Addr) (cdv ct : Value) (us rest : List Value), us.length = ps.length → bindArgs (PySem.W.fnOf x x (defArgs st) (defBody st) (defScope st) .none kV doc pm an cdv ct) ⟨us ++ rest, []⟩ = (newTuple rest >>= fun t => pure (ps.zip us ++ [(pv, t)])))
    (hb : ∀ (cdv : Value) (A : Around) (outer : List PySem.Env) (s : Shared) (H : Hp) (vs : List V) (E : XK), RoomG k (A.deeper (envOfC x (defScope st) s.heap.objs.size f cdv)) →
      VB (cxOf CX0 P w K mg base N x (defScope st) f cdv A outer s H E).nox ⟨Γ, refIx (List.replicate (ps.length + 1) .im), L2.start N vs, H, fun x _ _ H' => EW0 x E H'⟩ rm (defBody st) body) :
    FnS P w K mg base (k + 1) f ps.length (spV EW0 K (List.replicate (ps.length + 1) .im) rm (runF N.length (List.replicate (ps.length + 1) .im) body)) := by
  have hpl : (ps ++ [pv]).length ≤ N.length := by have := congrArg List.length S.pre; rw [List.length_take] at this; omega
  rw [List.length_append, List.length_singleton] at hpl
  obtain ⟨oc, od, dV, kV, doc, pm, an, cdv, ct, osl, rfl, lk, hcd, hD, _⟩ := F.ex
  rcases hD with ⟨_, rfl⟩ | ⟨e, _⟩
  · exact fn_starG lk hcd S (hbd kV doc pm an cdv ct) (fun A outer s H vs Q E hr h => ⟨_, PSs.nox (hb cdv A outer s H vs E hr), body_red (by rw [List.length_replicate]; exact hpl) hΓ hm hn h⟩)
  · exact absurd rfl e
end
section
variable {X : Cx} {C : Ct} {k j n np : Nat} {x : Str} {p pos tpos : Pos} {e a : Expr} {es : List Expr} {t : TA} {rm : Md} {f : FF} {fs : List EF}
theorem run_s {f : Addr} {sp : Sp} {pins : List (Addr × Obj)} {σ : L2.St} {H : Hp} {s : Shared} {Q : VK} {us : List Value} {vs : List V} (F : FnS X.prog X.w X.K X.mg X.base k f np sp) (hr : RoomG k X.A)
    (I : Inv X pins σ H s) (r : Vals vs us) (h : ∃ ws rest, vs = ws ++ rest ∧ ws.length = np ∧ rest.length ≤ sizeLine ∧ ∀ p, H p = none → sp (ws ++ [V.ref p]) (upd H p (.tup rest)) Q E0) : wpAny (model X.prog X.w) X.A (call (.ref f) us) (EP X pins σ Q) X.xe s := by
  refine wpAny_call (codeAny_mono (F.go X.A X.stack s H us vs Q E0 hr I.env0 r h) fun r s' hq => ?_)
  cases r with
  | error e => exact pass0 pins σ H s e s' I hq
  | ok fl =>
    cases fl with
    | ret u => exact I.after hq
    | _ => exact False.elim hq
theorem pe_callSt {f : Addr} {sp : Sp} (F : FnS X.prog X.w X.K X.mg X.base k f np sp) (hr : RoomG k X.A) (hg : Gl X x) (hm : X.mg x = some (.ref f)) (hk : PySem.W.keepIn X.K (.ref f) = true)
    (ha : PA X (e :: es) t) (hdb : (x == ("__debug__" : Str)) = false := by decide) (he : starEach (e :: es) X.env = (false, eval e X.env) :: starEach es X.env := by rfl) (hpl : (backTo pos (starEach es X.env)).any (·.1) = false := by rfl) :
    PE X (.Call (.Name x p) (e :: es) [] pos) (fun σ H Q => t σ H fun vs H1 => ∃ ws rest, vs = ws ++ rest ∧ ws.length = np ∧ rest.length ≤ sizeLine ∧ ∀ p, H1 p = none → sp (ws ++ [V.ref p]) (upd H1 p (.tup rest)) Q E0) :=
  ⟨fun pins s σ H Q I h => wpAny_Call_Name_kw (ld_glob I hg hm (PySem.W.callWith_K (h₀ := X.base) I.ok.mod.kin hk
    (thn (ha.run pos pins s σ H _ I h) fun us s1 ⟨vs, H1, I1, r, q⟩ => ⟨I1.kIn, run_s F hr I1 r q⟩) he hpl) hdb)⟩
theorem dt_split {K : PySem.W.Frag} {H : Hp} : ∀ {vs : List V} {ds : List D} (n : Nat), DtA K H vs ds → DtA K H (vs.take n) (ds.take n) ∧ DtA K H (vs.drop n) (ds.drop n)
  | _, _, 0, x => ⟨.nil, x⟩
  | _, _, _ + 1, .nil => ⟨.nil, .nil⟩
  | _, _, n + 1, .cons h t => ⟨.cons h (dt_split n t).1, (dt_split n t).2⟩
theorem dt_snoc {K : PySem.W.Frag} {H : Hp} {v : V} {d : D} : ∀ {vs : List V} {ds : List D}, DtA K H vs ds → Dt K H v d → DtA K H (vs ++ [v]) (ds ++ [d])
  | _, _, .nil, h => .cons h .nil
  | _, _, .cons a t, h => .cons a (dt_snoc t h)
/-- f(e, ..), f with a star parameter -/
theorem ve_callS (c : Cs X.prog X.w X.K X.mg X.base k x np rm f) (hr : RoomG j X.A) (hk : k ≤ j) (ha : VA X C (e :: es) n (eArgs fs)) (hnp : np ≤ n := by decide) (hn : n ≤ 1000 := by decide)
    (hg : Gl X x := by rfl) (hdb : (x == ("__debug__" : Str)) = false := by decide) (he : starEach (e :: es) X.env = (false, eval e X.env) :: starEach es X.env := by rfl) (hpl : (backTo pos (starEach es X.env)).any (·.1) = false := by rfl) :
    VE X C rm (.Call (.Name x p) (e :: es) [] pos) (eCallS np f fs) := by
  obtain ⟨fa, F, hm, kp⟩ := c
  refine PE.mono (pe_callSt F (hr.mono hk) hg hm kp ha hdb he hpl) fun σ H Q ⟨Hm, F, ρ, r, q⟩ => ⟨Hm, F, ρ, r, q.bind.imp fun p hq vs Hm1 H1 F1 s1 r1 x1 hl => ?_⟩
  obtain ⟨ds, ρ1⟩ := p
  refine ⟨vs.take np, vs.drop np, (List.take_append_drop np vs).symm, by rw [List.length_take]; omega, Nat.le_of_lt (small1000 (by rw [List.length_drop]; omega)), fun y hy => ?_⟩
  have g := Grow.one (o := .tup (vs.drop np)) r1.sub hy fun _ _ z => by cases z
  obtain ⟨r2, s2⟩ := r1.grow g
  obtain ⟨x2, x3⟩ := dt_split np x1
  have x4 := dt_snoc (DtA.mono g.g _ x2) (Dt.tup (.of upd_same) (DtA.mono g.g _ x3))
  have e1 : (vs.take np ++ [V.ref y]).length = np + 1 := by rw [List.length_append, List.length_take, List.length_singleton]; omega
  have x5 := args_im (H := upd H1 y (.tup (vs.drop np))) x4
  rw [e1] at x5
  refine ⟨_, _, [], r2.sub, r2.tp, r2.fz, x5, ?_⟩
  have hq : fin X.K C Hm H F (match f (ds.take np ++ [.tup (ds.drop np)]) with
    | .ok r => Rs.ok (r.1, ρ1)
    | _ => .bad) _ := hq
  cases ef : f (ds.take np ++ [.tup (ds.drop np)]) with
  | bad => rw [ef] at hq; exact hq.elim
  | err x ρ => rw [ef] at hq; exact hq.elim
  | ok r =>
    rw [ef] at hq
    intro v Hm' H' g' bk xv
    obtain ⟨r3, s3⟩ := back_rel (is := []) r2 .nil List.nodup_nil (fun _ z => by cases z) bk.st bk.sub bk.tp bk.fz bk.rf (fun _ _ z => by cases z)
    refine hq v Hm' H' F1 g' ((s1.trans s2).trans s3) r3 ⟨xv.rd, xv.nd, xv.un, fun a ha i hi => ?_, fun a ha => s1.dm a (s2.dm a (xv.nw a ha))⟩
    obtain ⟨o, ho⟩ := r2.bd i a hi
    rw [xv.nw a ha] at ho; cases ho
end
/-! ### enumerate -/
section
theorem meets_enumT {v : Value} {o : Obj} {H : Heap → Prop} (B : Begins v o H) :
    Meets (Builtin.«enumerate.__new__» ⟨[.type "enumerate", v], []⟩) (fun _ R s => H s.heap ∧
      R (.ok (.ret (.ref (s.heap.push o).objs.size))) { s with heap := (s.heap.push o).push { cls := .type "enumerate", data := .fields #[.none, .bool false, .ref s.heap.objs.size, rawInt 0, .none, .none] } }) :=
  .of_wp fun prog w A R s h => by
    obtain ⟨hp, g, d, tk, os⟩ := s; obtain ⟨h1, h⟩ := h
    have hsub := sub_enumerate
    have q1 : ∀ {A' : Around} {E : Value → Shared → Prop} {Q : Value → Shared → Prop}, Q (.ref hp.objs.size) ⟨hp.push o, g, d, tk, os⟩ → wpAny (model prog w) A' (pyIter v) Q E ⟨hp, g, d, tk, os⟩ :=
      fun q => B.iter prog w _ _ ⟨hp, g, d, tk, os⟩ _ h1 q
    wp_walk using q1
    refine wpAny_stack_any fun st => wpAny_pure ?_
    split
    · rename_i c _ _ _ _ _
      cases (c == Value.type "enumerate")
      · wp_walk using q1
        exact ⟨_, rfl, h⟩
      · wp_walk using q1
        exact ⟨_, rfl, h⟩
    · wp_walk using q1
      exact ⟨_, rfl, h⟩
theorem call_enumT {prog : Program} {w : World} {A : Around} {E : Value → Shared → Prop} {s : Shared} {v : Value} {o : Obj} {H : Heap → Prop} {Q : Value → Shared → Prop} (B : Begins v o H) (h1 : H s.heap)
    (h : ∀ h', IsEnum h' (s.heap.objs.size + 1) s.heap.objs.size 0 .none → h'.get? s.heap.objs.size = some o → h'.objs.size = s.heap.objs.size + 2 →
      (∀ b o, s.heap.get? b = some o → h'.get? b = some o) → Q (.ref (s.heap.objs.size + 1)) { s with heap := h' }) :
    wpAny (model prog w) A (call (.type "enumerate") [v]) Q E s := by
  refine callType_new F.called_enumerate (by decide) (F.typeCall_enumerate_1 _) (F.newCall_enumerate_1 _) (fun obj => F.args_object_init_2 obj _) F.entry_enumerate_new
    (meets_enumT B) ⟨h1, ?_⟩
  have hz : (s.heap.push o).objs.size = s.heap.objs.size + 1 := Heap.size_push ..
  show _ ∧ _
  rw [hz]
  have he : IsEnum ((s.heap.push o).push { cls := .type "enumerate", data := .fields #[.none, .bool false, .ref s.heap.objs.size, rawInt 0, .none, .none] }) (s.heap.objs.size + 1) s.heap.objs.size 0 .none := by
    have := Heap.get?_push_size (s.heap.push o) (o := { cls := .type "enumerate", data := .fields #[.none, .bool false, .ref s.heap.objs.size, rawInt 0, .none, .none] }) rfl
    rw [hz] at this; exact this
  refine ⟨⟨_, he, rfl⟩, h _ he (Heap.get?_push_of_some _ (Heap.get?_push_size _ B.free)) (by rw [Heap.size_push, hz]) fun b o x => Heap.get?_push_of_some _ (Heap.get?_push_of_some _ x)⟩
/-- the tuple at a, each item in a new pair -/
def IteT (K : PySem.W.Frag) (a : Addr) : It :=
  ⟨fun i H => ∃ (xs : List V) (x : V), SqT K H a xs ∧ xs[i]? = some x, fun i H v H' => ∃ T x, v = .ref T ∧ H T = none ∧ H' = upd H T (.tup [.int (i : Nat), x]) ∧ ∀ xs, SqT K H a xs → xs[i]? = some x, fun i H => ∃ xs : List V, SqT K H a xs ∧ xs.length ≤ i⟩
theorem turn_enumT {P : Program} {w : World} {K : PySem.W.Frag} {elts : List Expr} {kk : Nat} {tpos : Pos} (a e it : Addr) :
    Turn P w K (.Tuple elts kk tpos) (IteT K a) [e, it] e (fun i h => (∃ old, IsEnum h e it ((i : Nat) : Int) old) ∧ h.IsTupleIter it a i ∧ e ≠ it) where
  mem := by simp
  obj := fun i h st b hb => by
    obtain ⟨⟨old, he⟩, ⟨o, ho, hc, hd⟩, _⟩ := st
    have e' : b = e ∨ b = it := by simpa using hb
    rcases e' with z | z
    · rw [z]; exact ⟨_, he, fun v q => nomatch q⟩
    · rw [z]; exact ⟨o, ho, fun v q => by rw [hd] at q; cases q⟩
  keep := fun i h h' st k => let ⟨⟨old, he⟩, hi, hne⟩ := st; ⟨⟨old, k e (by simp) _ he⟩, hi.at fun o q => k it (by simp) o q, hne⟩
  item := by
    intro X hP hw hK hc i pins s σ H E I hf st hg
    subst hP hw hK
    obtain ⟨⟨old, he⟩, hit, hne⟩ := st
    obtain ⟨xs, x, hq, hx⟩ := hg
    obtain ⟨its, rv, p, hz⟩ := I.tuple hq
    obtain ⟨u, hu, ru⟩ := rv.get hx
    have pt : s.heap.IsTuple a its.toArray := p
    have hel : e < s.heap.objs.size := Heap.lt_size he
    have hil : it < s.heap.objs.size := by obtain ⟨_, q, _⟩ := hit; exact Heap.lt_size q
    have hai : a ≠ it := fun z => by
      obtain ⟨o1, q1, q2, q3⟩ := id hit
      obtain ⟨o2, p1, p2, p3⟩ := id pt
      rw [z, q1] at p1; cases p1
      rw [q2] at p2
      injection p2 with p4
      exact absurd p4 (by decide)
    have hae : a ≠ e := fun z => by
      obtain ⟨o2, p1, p2, p3⟩ := id pt
      rw [z, he] at p1; cases p1
      injection p2 with p4
      exact absurd p4 (by decide)
    refine wpAny_pyNext_enum_itemD (Draws.tuple (A := X.A.in1) (show X.A.in1.handled = none from I.ok.hd hc) it a hai its.toArray) he ⟨hit, pt⟩ (i := i) (by
      have := (List.getElem?_eq_some_iff.mp hu).1
      simpa using this) hne (by simp [hne, Ne.symm hae]) fun x' h' tk hP ho hit' hT hsz hk => ?_
    have hP : its.toArray[i]? = some x' := hP
    obtain rfl : x' = u := by
      have : its[i]? = some x' := by simpa using hP
      rw [hu] at this; cases this; rfl
    refine ⟨_, rfl, wpAny_letOwnedTupleGo_enum (s := { s with heap := h', toks := tk + 1 }) ho fun h'' he' sb => ?_⟩
    have hT2 : h''.get? s.heap.objs.size = some { cls := .type "tuple", data := .seq #[.int i tk, x'] } := (sb.2 _ (Nat.ne_of_gt hel)).trans hT
    have new : ObjOk X.prog X.w (upd H s.heap.objs.size (.tup [.int (i : Nat), x])) h'' s.heap.objs.size (.tup [.int (i : Nat), x]) :=
      ⟨by show 2 ≤ sizeLine; decide, [.int i tk, x'], .cons ⟨_, rfl⟩ (.cons ru .nil), ⟨_, hT2, rfl, _, rfl⟩⟩
    have I1 : Inv X pins σ (upd H s.heap.objs.size (.tup [.int (i : Nat), x])) { s with heap := h'', toks := tk + 1 } :=
      I.turnedNew (ch := [e, it]) (fun b ob hb q => (sb.2 b (fun z => hb (by simp [z]))).trans (hk b ob (fun z => hb (by simp [z])) (fun z => hb (by simp [z])) q)) hf (Nat.le_refl _) new
    refine ⟨.ref s.heap.objs.size, _, I1, rfl, ⟨_, x, rfl, I.hok.fresh (Nat.le_refl _), rfl, fun ys hy => by rw [I.tuple_inj hy hq]; exact hx⟩, ⟨⟨x', ?_⟩, hit'.1.at fun o q => (sb.2 it (Ne.symm hne)).trans q, hne⟩, fun b hb => ?_⟩
    · have e1 : ((i + 1 : Nat) : Int) = (i : Int) + 1 := by omega
      rw [e1]; exact he'
    · have hb' : b < s.heap.objs.size := by
        have e' : b = e ∨ b = it := by simpa using hb
        rcases e' with z | z
        · rw [z]; exact hel
        · rw [z]; exact hil
      rw [upd_ne (Nat.ne_of_lt hb')]
      exact (hf b hb).1
  done := by
    intro X hP hw hK hc i pins s σ H E I hf st hg
    subst hP hw hK
    obtain ⟨⟨old, he⟩, hit, hne⟩ := st
    obtain ⟨xs, hq, hx⟩ := hg
    obtain ⟨its, rv, p, hz⟩ := I.tuple hq
    have pt : s.heap.IsTuple a its.toArray := p
    obtain ⟨f0, f1, f2, f3, f4, f5⟩ := hf it (by simp)
    have hl := rv.length
    have hT : s.TypeIs (.ref e) "enumerate" := ⟨_, he, rfl⟩
    unfold pyNext
    refine wpAny_bind (wpAny_attempt (wpAny_callSpecial?_slot (name := Str.ofString "__next__") hT F.slot_enumerate_next
      (wpAny_call_entry F.slot_enumerate_next hT F.entry_enumerate_next ?_ (F.args_enumerate_next_1 _))))
    show wpAny _ _ (field (.ref e) 2 >>= _) _ _ _
    refine wpAny_bind (wpAny_field he rfl (x := .ref it) rfl ?_)
    refine wpAny_bind (wpAny_nextOf_tuple_end (show X.A.in1.handled = none from I.ok.hd hc) hit pt (by simp; omega) fun h' x he' hx' => ?_)
    obtain ⟨o, ho, hc'⟩ := hx'
    refine wpAny_bind (wpAny_isInstance (T := "StopIteration") (b := true) ⟨o, ho, hc'⟩ isSubtype_stop ?_)
    exact wpAny_pure ⟨rfl, I.turned (t' := s.toks) (fun b o hb q => he' b o hb q) f0 f1 f3 f4 f5⟩
  self := fun A i s Q E st h => let ⟨⟨_, he⟩, _⟩ := st; wpAny_pyIter_enum he h
def iEnumB (K : PySem.W.Frag) (ta : TA) : TI := fun σ H R => ta σ H fun vs H1 => ∃ a xs, vs = [.ref a] ∧ ((SqL K H1 a xs ∧ R (Ite K a) H1) ∨ (SqT K H1 a xs ∧ R (IteT K a) H1))
theorem pi_enumB {X : Cx} {e : Expr} {ta : TA} {p pos tpos : Pos} {elts : List Expr} {kk : Nat} (hg : Gl X "enumerate") (hm : X.mg "enumerate" = none) (ha : PA X [e] ta) (hs : starEach [e] X.env = [(false, eval e X.env)] := by rfl) :
    PI X (.Tuple elts kk tpos) (.Call (.Name "enumerate" p) [e] [] pos) (iEnumB X.K ta) := by
  refine ⟨fun pins s σ H R I h => ?_⟩
  refine Call_ (ld_blt I hg hm boot_enumerate (PyProof.Rows.callWith_type1 (thn (ha.run pos pins s σ H _ I h) fun us s1 ⟨vs, H1, I1, r1, q1⟩ => ?_) hs rfl))
  obtain ⟨a, xs, ex, q⟩ := q1
  subst ex
  cases r1 with
  | cons r rr =>
    cases rr
    cases r
    have fp : ∀ b ∈ [s1.heap.objs.size + 1, s1.heap.objs.size], s1.heap.objs.size ≤ b := fun b hb => by
      have e' : b = s1.heap.objs.size + 1 ∨ b = s1.heap.objs.size := by simpa using hb
      rcases e' with z | z
      · rw [z]; exact Nat.le_add_right _ _
      · rw [z]; exact Nat.le_refl _
    rcases q with ⟨hq, q⟩ | ⟨hq, q⟩
    · obtain ⟨its, rv, p', hz⟩ := I1.list hq
      refine call_enumerate_list p'.isList fun h' he hit hsz hk => wpAny_pyIter_enum he ?_
      have I2 : Inv X pins σ H1 { s1 with heap := h' } := I1.kept (t' := s1.toks) hk
      exact ⟨s1.heap.objs.size + 1, [s1.heap.objs.size + 1, s1.heap.objs.size], _, _, H1, rfl, I2, turn_enum a (s1.heap.objs.size + 1) s1.heap.objs.size, ⟨⟨.none, he⟩, hit, Nat.succ_ne_self _⟩, fun b hb => I1.fpOk (fp b hb) (I1.hok.fresh (fp b hb)), q⟩
    · obtain ⟨its, rv, p', hz⟩ := I1.tuple hq
      refine call_enumT (begins_tuple a its.toArray) p' fun h' he hit hsz hk => wpAny_pyIter_enum he ?_
      have I2 : Inv X pins σ H1 { s1 with heap := h' } := I1.kept (t' := s1.toks) hk
      exact ⟨s1.heap.objs.size + 1, [s1.heap.objs.size + 1, s1.heap.objs.size], _, _, H1, rfl, I2, turn_enumT a (s1.heap.objs.size + 1) s1.heap.objs.size, ⟨⟨.none, he⟩, ⟨_, hit, rfl, rfl⟩, Nat.succ_ne_self _⟩, fun b hb => I1.fpOk (fp b hb) (I1.hok.fresh (fp b hb)), q⟩
theorem iter_enumT {K : PySem.W.Frag} {Hm : Hp} {a : Addr} {xs : List V} {ds : List D} (h : SqT K Hm a xs) (hd : DtA K Hm xs ds) : Iter K Hm (IteT K a) (enumD 0 ds) where
  go := fun i d Hm2 H2 s1 s2 e => by
    obtain ⟨e', he, rfl⟩ := enumD_get e
    obtain ⟨v, hv, dv⟩ := hd.get he
    have hl := Same.sqt (s1.trans s2) h
    refine ⟨⟨xs, v, hl, hv⟩, fun x H3 hy => ?_⟩
    obtain ⟨T, y, rfl, hT, rfl, hf⟩ := hy
    have := hf xs hl
    rw [hv] at this
    cases this
    have g := Grow.one (o := .tup [.int (i : Nat), v]) s2 hT fun _ _ z => by cases z
    refine ⟨_, g, .tup (.of upd_same) (.cons ?_ (.cons (Dt.mono (s1.trans g.g) _ dv) .nil))⟩
    rw [Nat.zero_add]
    exact .int _
  stop := fun Hm2 H2 s1 s2 => ⟨xs, Same.sqt (s1.trans s2) h, by rw [enumD_len, hd.length]; exact Nat.le_refl _⟩
end
section
variable {X : Cx} {C : Ct} {tpos p pos : Pos} {a : Expr} {rm : Md} {fs : List EF}
theorem vi_enumT {elts : List Expr} {kk : Nat} (hm : X.mg "enumerate" = none) (h : VA X C [a] 1 (eArgs fs)) (hg : Gl X "enumerate" := by rfl) (hs : starEach [a] X.env = [(false, eval a X.env)] := by rfl) : VI X C (.Tuple elts kk tpos) (.Call (.Name "enumerate" p) [a] [] pos) (iEnumT fs) := by
  refine PI.mono (pi_enumB hg hm h hs) fun σ H R ⟨Hm, F, ρ, r, q⟩ => ⟨Hm, F, ρ, r, q.bind.imp fun p hq vs Hm1 H1 F1 s1 r1 x1 hn => ?_⟩
  obtain ⟨ds, ρ'⟩ := p
  cases x1 with
  | nil => exact hq.elim
  | cons h1 h2 =>
    cases h2 with
    | cons => exact absurd hn (by simp)
    | nil =>
      cases h1 with
      | lst h3 h4 => exact ⟨_, _, rfl, .inl ⟨r1.sub.seq (.inl h3), hq _ Hm1 H1 F1 s1 r1 (iter_enum (.inl h3) h4)⟩⟩
      | tup h3 h4 => exact ⟨_, _, rfl, .inr ⟨Same.sqt r1.sub h3, hq _ Hm1 H1 F1 s1 r1 (iter_enumT h3 h4)⟩⟩
      | _ => exact hq.elim
/-! ### try: a body that raises nothing -/
theorem vs_try {body : List Stmt} {h₀ : ExceptHandler} {hs : List ExceptHandler} {g : SF} (h : VB X.nox C rm body g) : VS X C rm (.Try body (h₀ :: hs) [] [] pos) g := ps_try_thru0 h
end
end VL

set_option Elab.async false
set_option linter.all false
set_option maxRecDepth 100000
set_option maxHeartbeats 4000000
/-! V35: an own list's item read where it stands; dict(d); dict comprehensions. -/
namespace VL
open PySem PySem.Spec PyProof.Rows L2
section
variable {X : Cx} {C : Ct} {b : Expr} {fb : EF} {x : PySem.Str} {i : Nat} {p p2 pos : Pos}
theorem ve_ixN (hb : VE X C .im b fb) (hs : PlainIx b := by exact fun _ _ => rfl) (hm : C.Γ[i]? = some (.ow .im) := by rfl) (hN : X.N[i]? = some x := by rfl) (hv : Vis X.env.scope x := by first | exact Or.inl rfl | exact Or.inr (Or.inl rfl) | exact Or.inr (Or.inr rfl))
    (hd : (x == ("__debug__" : Str)) = false := by decide) (hcd : (x == ("__classdict__" : Str)) = false := by decide) : VE X C .im (.Subscript (.Name x p) b pos) (eIxN i fb) := by
  refine PE.mono (pe_ix ix_list (pe_var hN hv hd hcd) hb hs) fun σ H Q ⟨Hm, F, ρ, r, q⟩ => ?_
  unfold eIxN at q
  split at q
  rotate_left
  · exact q.elim
  rename_i ds0 e0
  obtain ⟨a, xs0, g0, h1, _⟩ := r.own e0 hm
  refine ⟨.ref a, h1, Hm, F, ρ, r, q.bind.imp fun pr hq w Hm2 H2 F2 g2 s2 r2 x2 => ?_⟩
  obtain ⟨d, ρ2⟩ := pr
  have hq : fin X.K C Hm H F (match ρ2[i]? with
    | some (some (.lst ds)) => Rs.of (ixGet (.lst ds) d) >>= fun z => Rs.ok (z, ρ2)
    | _ => .bad) _ := hq
  split at hq
  rotate_left
  · exact hq.elim
  rename_i ds e2
  obtain ⟨a', xs, g, h3, h4, hall, _, _⟩ := r2.own e2 hm
  rw [h1] at h3
  cases h3
  obtain ⟨z, ez, hz⟩ := hq.bind.of
  have x3 := x2.of_im
  have dx := (all_im hall).1
  cases d with
  | int k =>
    cases x3
    have ez : (ixD ds.length k).bind (fun j => ds[j]?) = some z := ez
    obtain ⟨j, e1, e2⟩ := Option.bind_eq_some_iff.mp ez
    obtain ⟨u, k1, k2⟩ := dx.get e2
    exact ⟨a, xs, k, u, rfl, rfl, .of h4, atI_of (by rw [dx.length]; exact e1) k1, hz u Hm2 H2 F2 [] s2 r2 (Val.im k2)⟩
  | _ => cases ez
theorem prim_dict {K : PySem.W.Frag} : PrimN K (fun xs H Q => ∃ (a : Addr) (kvs : List (Key × V)), xs = [.ref a] ∧ Rd H a (.dK kvs) ∧ ∀ p, H p = none → Q (.ref p) (upd H p (.dK kvs))) dictD (.ow .im) := by
  intro G H xs ds z Q s h hz q
  cases h with
  | nil => cases hz
  | @cons v vs d ds h1 h2 =>
    cases h2 with
    | cons => cases d <;> cases hz
    | nil =>
      cases h1 with
      | dct h3 h4 =>
        cases hz
        refine ⟨_, _, rfl, Same.rd s h3, fun p hp => q (.ref p) _ _ [p] (Grow.own s hp (fun _ _ z => by cases z) fun _ z => by cases z) ?_⟩
        exact ⟨⟨p, rfl, .inr (.inl ⟨_, _, [], rfl, upd_same, imk_all h4, rfl⟩)⟩, by simp, fun a ha => by rw [List.mem_singleton.mp ha]; exact Same.none s hp, fun a ha => by rw [List.mem_singleton.mp ha]; exact hp⟩
      | _ => cases hz
end
/-! ### {k: v for ..} -/
theorem dcomp_red {X : Cx} {C : Ct} {own : List Nat} {src : IF} {g : GF} {t : TF} {ek ev : EF} {σ : L2.St} {H : Hp} {Q : VK} (hR : ∀ i ∈ C.R, i ∉ own) (hm : ∀ i ∈ own, C.Γ[i]? = some .im)
    (h : tE X.K C (.ow .im) (eDComp own src g t ek ev) σ H Q) : tDc (tI X.K C src) (tGt X.K C own g) (tT X.K C t) (tE X.K C .im ek) (tE X.K C .im ev) own σ H Q := by
  obtain ⟨Hm, F, ρ, r, q⟩ := h
  refine ⟨Hm, F, ρ, r, q.bind.imp fun p hq J Hm1 H1 F1 s1 r1 it D hD => ?_⟩
  obtain ⟨ds, ρ1⟩ := p
  have hq : fin X.K C Hm H F (if ds.length ≤ LINE then dcompN own g t ek ev ds ρ1 [] >>= fun q => Rs.ok (.dct q.1, backE ρ1 q.2 own) else Rs.bad) (OkE X.K C (.ow .im) Hm H F σ Q) := hq
  have hlen : ds.length ≤ LINE := by
    by_cases hlen : ds.length ≤ LINE
    · exact hlen
    · rw [if_neg hlen] at hq; exact hq.elim
  rw [if_pos hlen] at hq
  have hq := hq.bind
  have hD0 : H D = none := s1.dm D hD
  have hDF : ∀ i, D ∉ F1 i := fun i hi => by obtain ⟨o, ho⟩ := r1.bd i D hi; rw [hD] at ho; cases ho
  have hDm : Hm1 D = none := Same.none r1.sub hD
  refine ⟨fun i m H' => ∃ Hm' F' ρ' acc kvs, Step Hm1 H1 F1 Hm' H' F' ∧ Rel X.K C Hm' H' F' (wipe σ own) (wipeE ρ' own) ∧ ρ'.length = C.Γ.length ∧ i + m = ds.length ∧ acc.length ≤ i ∧ H' D = some (.dK kvs) ∧ DtK X.K Hm' kvs acc ∧ (∀ i, D ∉ F' i) ∧ Hm' D = none ∧
      fin X.K C Hm1 H1 F1 (dcompN own g t ek ev (ds.drop i) ρ' acc) fun q => OkE X.K C (.ow .im) Hm H F σ Q (.dct q.1, backE ρ1 q.2 own),
    ⟨ds.length, Hm1, F1, ρ1, [], [], ?_, ?_, r1.lr, by omega, Nat.le_refl _, upd_same, .nil, hDF, hDm, ?_⟩, ?_⟩
  · exact (Step.refl).tmpO hD
  · exact (r1.wipe hR).tmpO hDF hDm (fun _ z => by cases z) (fun _ _ z => by cases z)
  · exact hq.step s1
  rintro i m H2 ⟨Hm2, F2, ρ2, acc, kvs, s2, r2, l2, hl, ha, hk2, dk2, nF2, nm2, q2⟩
  by_cases hlt : i < ds.length
  · right
    rw [List.drop_eq_getElem_cons hlt] at q2
    have q2 := q2.bind
    obtain ⟨hgo, hy⟩ := it.go i _ Hm2 H2 s2.sm r2.sub (List.getElem?_eq_getElem hlt)
    refine ⟨hgo, fun H' => ∃ Hm' F' ρ' acc kvs, Step Hm1 H1 F1 Hm' H' F' ∧ Rel X.K C Hm' H' F' (wipe σ own) (wipeE ρ' own) ∧ ρ'.length = C.Γ.length ∧ acc.length ≤ i + 1 ∧ H' D = some (.dK kvs) ∧ DtK X.K Hm' kvs acc ∧ (∀ i, D ∉ F' i) ∧ Hm' D = none ∧
      fin X.K C Hm1 H1 F1 (dcompN own g t ek ev (ds.drop (i + 1)) ρ' acc) fun q => OkE X.K C (.ow .im) Hm H F σ Q (.dct q.1, backE ρ1 q.2 own), ?_, fun x H3 hx => ?_⟩
    · rintro H' ⟨Hm', F', ρ', acc', kvs', h1, h2, h3, h4, h5, h6, h7, h8, h9⟩
      exact ⟨m - 1, by omega, Hm', F', ρ', acc', kvs', h1, h2, h3, by omega, h4, h5, h6, h7, h8, h9⟩
    -- the new dict through a step
    have keep : ∀ {Ha Hb : Hp} {Fa : Fps} {Hc Hd : Hp} {Fc : Fps} {kv : List (Key × V)} {kd : List (Key × VL.D)}, Step Ha Hb Fa Hc Hd Fc → Hb D = some (.dK kv) → DtK X.K Ha kv kd → (∀ i, D ∉ Fa i) → Ha D = none → Hd D = some (.dK kv) ∧ DtK X.K Hc kv kd ∧ (∀ i, D ∉ Fc i) ∧ Hc D = none := fun {Ha Hb Fa Hc Hd Fc kv kd} s h1 h2 h3 h4 => by
      refine ⟨s.kp D _ h1 h3, DtK.mono s.sm kd h2, fun i z => ?_, ?_⟩
      · rcases s.fn i D z with ⟨j, hj⟩ | hj
        · exact h3 j hj
        · rw [h1] at hj; cases hj
      · cases e : Hc D with
        | none => rfl
        | some o =>
          rcases s.nw D o e with z | ⟨j, z⟩ | z
          · rw [h4] at z; cases z
          · exact absurd z (h3 j)
          · rw [h1] at z; cases z
    obtain ⟨Hm3, g3, d3⟩ := hy x H3 hx
    obtain ⟨r3, s3⟩ := r2.grow g3
    obtain ⟨a3, b3, c3, e3⟩ := keep s3 hk2 dk2 nF2 nm2
    refine ⟨Hm3, F2, _, _, r3, d3, (q2.step (s2.trans s3)).imp fun ρ4 hq4 Hm4 H4 F4 σ4 s4 r4 k4 l4 => ⟨wipe_eq k4 l4, ?_⟩⟩
    obtain ⟨a4, b4, c4, e4⟩ := keep s4 a3 b3 c3 e3
    refine ⟨Hm4, F4, ρ4, r4, (hq4.bind.step (s2.trans (s3.trans s4))).imp fun p5 hq5 Hm5 H5 F5 s5 r5 => ?_⟩
    obtain ⟨b, ρ5⟩ := p5
    obtain ⟨a5, b5, c5, e5⟩ := keep s5 a4 b4 c4 e4
    have rw5 : Rel X.K C Hm5 H5 F5 (wipe σ own) (wipeE ρ5 own) := by
      have := r5.wipe hR
      rw [wipe_eq k4 l4] at this
      exact this
    cases b with
    | false =>
      refine iteF ⟨Hm5, F5, ρ5, acc, kvs, s2.trans (s3.trans (s4.trans s5)), rw5, r5.lr, by omega, a5, b5, c5, e5, ?_⟩
      exact hq5
    | true =>
      refine iteT ?_
      have hq5 : fin X.K C Hm1 H1 F1 (ek ρ5 >>= fun q => ev q.2 >>= fun u => (match keyD q.1 with
        | some k => dcompN own g t ek ev (ds.drop (i + 1)) u.2 (putD acc k u.1)
        | none => .bad)) _ := hq5
      have st5 := s2.trans (s3.trans (s4.trans s5))
      refine ⟨Hm5, F5, ρ5, r5, (hq5.bind.step st5).imp fun p6 hq6 y Hm6 H6 F6 g6 s6 r6 x6 => ?_⟩
      obtain ⟨a6, b6, c6, e6⟩ := keep s6 a5 b5 c5 e5
      refine ⟨Hm6, F6, p6.2, r6, (hq6.bind.step (st5.trans s6)).imp fun p7 hq7 z Hm7 H7 F7 g7 s7 r7 x7 => ?_⟩
      obtain ⟨a7, b7, c7, e7⟩ := keep s7 a6 b6 c6 e6
      have hq7 : fin X.K C Hm1 H1 F1 (match keyD p6.1 with
        | some k => dcompN own g t ek ev (ds.drop (i + 1)) p7.2 (putD acc k p7.1)
        | none => .bad) _ := hq7
      cases ekk : keyD p6.1 with
      | none => rw [ekk] at hq7; exact hq7.elim
      | some k =>
        rw [ekk] at hq7
        have evk := keyD_of x6.of_im ekk
        subst evk
        have hll : kvs.length ≤ i := by rw [b7.len]; exact ha
        have st7 := st5.trans (s6.trans s7)
        refine ⟨kvs, k, rfl, a7, ?_, Hm7, F7, p7.2, putD acc k p7.1, putK kvs k z, st7.tmpO hD, ?_, r7.lr, ?_, upd_same, b7.put x7.of_im, c7, e7, ?_⟩
        · rw [sizeLine_eq]
          exact Nat.lt_of_le_of_lt hll (Nat.lt_of_lt_of_le hlt hlen)
        · have := (r7.wipe hR).tmpO (o := .dK (putK kvs k z)) c7 e7 (fun _ z => by cases z) (fun _ _ z => by cases z)
          rw [wipe_eq k4 l4] at this
          exact this
        · have := length_putK kvs k z
          rw [← (b7.put x7.of_im).len]
          omega
        · exact hq7
  · left
    have e : i = ds.length := by omega
    subst e
    rw [List.drop_length] at q2
    refine ⟨it.stop Hm2 H2 s2.sm r2.sub, ?_⟩
    have q2 : OkE X.K C (.ow .im) Hm H F σ Q (.dct acc, backE ρ1 ρ2 own) := q2
    have r3 := r2.unwipe (ρ0 := ρ1) r1 s2.sm hm (fun j hj => wipe_get hj)
    rw [back_wipe] at r3
    refine q2 (.ref D) Hm2 H2 _ [D] ((s1.trans s2).less fun i b hb => ?_) r3 ⟨⟨D, rfl, .inr (.inl ⟨_, _, [], rfl, hk2, imk_all dk2, rfl⟩)⟩, by simp, fun a ha => ?_, fun a ha i hi => ?_, fun a ha => ?_⟩
    · have hb : b ∈ (if i ∈ own then [] else F2 i) := hb
      split at hb
      · cases hb
      · exact hb
    · rw [List.mem_singleton.mp ha]; exact nm2
    · rw [List.mem_singleton.mp ha] at hi
      have hi : D ∈ (if i ∈ own then [] else F2 i) := hi
      split at hi
      · cases hi
      · exact nF2 i hi
    · rw [List.mem_singleton.mp ha]; exact hD0
section
variable {X : Cx} {C : Ct} {own : List (Str × Nat)} {src : IF} {g : GF} {t : TF} {ek ev : EF} {kx vx tg iter : Expr} {ifs : List Expr} {scope : Scope} {pos : Pos}
theorem ve_dcomp (hi : VI X C tg iter src) (ok : BlkOk X.N X.env.scope scope own)
    (hg : ∀ (s : Shared) (H : Hp) (C' : Addr) (cl : List (Str × Addr)) (fp : List Addr), PG (X.blk s H scope (compEnvC scope cl C' X.env) fp) tg (tGt X.K C (own.map (·.2)) g))
    (ht : ∀ (s : Shared) (H : Hp) (C' : Addr) (cl : List (Str × Addr)) (fp : List Addr), PTs (X.blk s H scope (compEnvC scope cl C' X.env) fp) ifs (tT X.K C t))
    (hk : ∀ (s : Shared) (H : Hp) (C' : Addr) (cl : List (Str × Addr)) (fp : List Addr), PE (X.blk s H scope (compEnvC scope cl C' X.env) fp) kx (tE X.K C .im ek))
    (he : ∀ (s : Shared) (H : Hp) (C' : Addr) (cl : List (Str × Addr)) (fp : List Addr), PE (X.blk s H scope (compEnvC scope cl C' X.env) fp) vx (tE X.K C .im ev))
    (hR : ∀ i ∈ C.R, i ∉ own.map (·.2) := by exact ownR_of rfl) (hm : ∀ i ∈ own.map (·.2), C.Γ[i]? = some .im := by exact ownIm_of rfl) (hc : X.calm = true := by rfl) (hN : X.N.Nodup := by first | assumption | decide) (hs : ∀ x, foldedSetIterable iter X.env x = pure x := by intro _; rfl) :
    VE X C (.ow .im) (.DictComp kx vx [⟨tg, iter, ifs, 0⟩] scope pos) (eDComp (own.map (·.2)) src g t ek ev) :=
  PE.mono (pe_dc hc hN hi ok hg ht hk he hs) fun _ _ _ => dcomp_red hR hm
end
end VL

set_option Elab.async false
set_option linter.all false
set_option maxRecDepth 100000
set_option maxHeartbeats 4000000
/-! V36: dicts walked: locked meanwhile. -/
namespace VL
open PySem PySem.Spec PyProof.Rows L2
/-- what is read in the one heap is read in the other one -/
structure Sw (H H' : Hp) : Prop where
  l : ∀ a xs, Rd H a (.lst xs) → Rd H' a (.lst xs)
  t : ∀ a xs, Rd H a (.tup xs) → Rd H' a (.tup xs)
  k : ∀ a kvs, Rd H a (.dK kvs) → Rd H' a (.dK kvs)
  i : ∀ a c dx fs, H a = some (.ins c dx fs) → H' a = some (.ins c dx fs)
  x : ∀ a φ, H a = some (.ext φ) → H' a = some (.ext φ)
section
variable {K : PySem.W.Frag} {H H' Hm Hm' : Hp}
mutual
theorem Dt.sw (e : Sw H H') : ∀ (d : VL.D) {v : V}, Dt K H v d → Dt K H' v d
  | .non, _, h => by cases h; exact .non
  | .bl b, _, h => by cases h; exact .bl b
  | .int i, _, h => by cases h; exact .int i
  | .str x, _, h => by cases h; exact .str x
  | .lst ds, _, h => by cases h with | lst a b => exact .lst (e.l _ _ a) (DtA.sw e ds b)
  | .tup ds, _, h => by cases h with | tup a b => exact .tup (a.elim (fun z => .inl (e.t _ _ z)) .inr) (DtA.sw e ds b)
  | .dct ds, _, h => by cases h with | dct a b => exact .dct (e.k _ _ a) (DtK.sw e ds b)
  | .obj c ds, _, h => by
    cases h with
    | obj o a b => exact .obj o (e.i _ _ _ _ a) (DtK.sw e ds b)
    | exc o a => exact .exc o (e.x _ _ a)
    | exf o a a2 b => exact .exf o (e.x _ _ a) (e.x _ _ a2) (DtK.sw e ds b)
theorem DtA.sw (e : Sw H H') : ∀ (ds : List VL.D) {vs : List V}, DtA K H vs ds → DtA K H' vs ds
  | [], _, h => by cases h; exact .nil
  | d :: ds, _, h => by cases h with | cons a b => exact .cons (Dt.sw e d a) (DtA.sw e ds b)
theorem DtK.sw (e : Sw H H') : ∀ (ds : List (Key × VL.D)) {vs : List (Key × V)}, DtK K H vs ds → DtK K H' vs ds
  | [], _, h => by cases h; exact .nil
  | (k, d) :: ds, _, h => by cases h with | cons a b => exact .cons (Dt.sw e d a) (DtK.sw e ds b)
end
theorem fldM.sw (e : Sw Hm Hm') {b : Bool} {R R' : V → VL.D → List Addr → Prop} {v : V} {d : VL.D} {f : List Addr} (k : R v d f → R' v d f) (h : fldM K Hm b R v d f) : fldM K Hm' b R' v d f := by
  cases b with
  | true => exact k h
  | false => exact ⟨Dt.sw e _ h.1, h.2⟩
theorem RdM.sw (e : Sw Hm Hm') : ∀ {m : Md} {v : V} {d : VL.D} {f : List Addr}, RdM K Hm H m v d f → (∀ a ∈ f, ∀ o, H a = some o → H' a = some o) → RdM K Hm' H' m v d f
  | .im, _, _, _, ⟨h, e'⟩, _ => ⟨Dt.sw e _ h, e'⟩
  | .ow k, v, d, f, ⟨b, hv, h⟩, k' => by
    rcases h with ⟨xs, ds, g, hd, hb, hall, rfl⟩ | ⟨kvs, kds, g, hd, hb, hall, rfl⟩ | ⟨c, dx, fs, kds, g, hk, hd, ho, hb, hx, hall, rfl⟩
    · exact ⟨b, hv, .inl ⟨xs, ds, g, hd, k' b List.mem_cons_self _ hb, hall.imp fun v d g' hg hp => RdM.sw e hp fun a ha => k' a (List.mem_cons_of_mem _ (hg a ha)), rfl⟩⟩
    · exact ⟨b, hv, .inr (.inl ⟨kvs, kds, g, hd, k' b List.mem_cons_self _ hb, hall.imp fun _ v d g' hg hp => RdM.sw e hp fun a ha => k' a (List.mem_cons_of_mem _ (hg a ha)), rfl⟩)⟩
    · exact ⟨b, hv, .inr (.inr ⟨c, dx, fs, kds, g, hk, hd, ho, k' b List.mem_cons_self _ hb, k' dx (List.mem_cons_of_mem _ List.mem_cons_self) _ hx, hall.imp fun _ v d g' hg hp => hp.sw e fun hp => RdM.sw e hp fun a ha => k' a (List.mem_cons_of_mem _ (List.mem_cons_of_mem _ (hg a ha))), rfl⟩)⟩
end
section
variable {d : Addr} {kvs : List (Key × V)} {od : Obj}
theorem sw_lock {Hm : Hp} (h : Hm d = some (.dK kvs)) : Sw Hm (upd Hm d (.frz od (.dK kvs))) where
  l := fun a xs x => by
    have ne : a ≠ d := fun z => by subst z; rcases x with x | ⟨o, x⟩ <;> rw [h] at x <;> cases x
    rcases x with x | ⟨o, x⟩
    · exact .inl (by rw [upd_ne ne]; exact x)
    · exact .inr ⟨o, by rw [upd_ne ne]; exact x⟩
  t := fun a xs x => by
    have ne : a ≠ d := fun z => by subst z; rcases x with x | ⟨o, x⟩ <;> rw [h] at x <;> cases x
    rcases x with x | ⟨o, x⟩
    · exact .inl (by rw [upd_ne ne]; exact x)
    · exact .inr ⟨o, by rw [upd_ne ne]; exact x⟩
  k := fun a xs x => by
    by_cases z : a = d
    · subst z
      rcases x with x | ⟨o, x⟩ <;> rw [h] at x <;> cases x
      exact .inr ⟨od, upd_same⟩
    · rcases x with x | ⟨o, x⟩
      · exact .inl (by rw [upd_ne z]; exact x)
      · exact .inr ⟨o, by rw [upd_ne z]; exact x⟩
  i := fun a c dx fs x => by
    have ne : a ≠ d := fun z => by subst z; rw [h] at x; cases x
    rw [upd_ne ne]; exact x
  x := fun a φ x => by
    have ne : a ≠ d := fun z => by subst z; rw [h] at x; cases x
    rw [upd_ne ne]; exact x
theorem sw_unlock {Hm : Hp} (h : Hm d = some (.frz od (.dK kvs))) : Sw Hm (upd Hm d (.dK kvs)) where
  l := fun a xs x => by
    have ne : a ≠ d := fun z => by subst z; rcases x with x | ⟨o, x⟩ <;> rw [h] at x <;> cases x
    rcases x with x | ⟨o, x⟩
    · exact .inl (by rw [upd_ne ne]; exact x)
    · exact .inr ⟨o, by rw [upd_ne ne]; exact x⟩
  t := fun a xs x => by
    have ne : a ≠ d := fun z => by subst z; rcases x with x | ⟨o, x⟩ <;> rw [h] at x <;> cases x
    rcases x with x | ⟨o, x⟩
    · exact .inl (by rw [upd_ne ne]; exact x)
    · exact .inr ⟨o, by rw [upd_ne ne]; exact x⟩
  k := fun a xs x => by
    by_cases z : a = d
    · subst z
      rcases x with x | ⟨o, x⟩ <;> rw [h] at x <;> cases x
      exact .inl upd_same
    · rcases x with x | ⟨o, x⟩
      · exact .inl (by rw [upd_ne z]; exact x)
      · exact .inr ⟨o, by rw [upd_ne z]; exact x⟩
  i := fun a c dx fs x => by
    have ne : a ≠ d := fun z => by subst z; rw [h] at x; cases x
    rw [upd_ne ne]; exact x
  x := fun a φ x => by
    have ne : a ≠ d := fun z => by subst z; rw [h] at x; cases x
    rw [upd_ne ne]; exact x
end
section
variable {K : PySem.W.Frag} {C : Ct} {Hm H Hm' H' : Hp} {F F' : Fps} {σ : L2.St} {ρ : En} {d : Addr} {w0 w1 : HO}
theorem Rel.put (r : Rel K C Hm H F σ ρ) (sw : Sw Hm (upd Hm d w1)) (hF : ∀ i, d ∉ F i) (hw : ∀ xs, w1 ≠ .tup xs) : Rel K C (upd Hm d w1) (upd H d w1) F σ ρ where
  ls := r.ls
  lr := r.lr
  sl := fun i x h => by
    obtain ⟨v, m, h1, h2, h3⟩ := r.sl i x h
    refine ⟨v, m, h1, h2, h3.sw sw fun a ha o ho => ?_⟩
    rw [upd_ne fun z => by subst z; exact hF i ha]
    exact ho
  nd := r.nd
  dj := r.dj
  un := fun i a ha => by rw [upd_ne fun z => by subst z; exact hF i ha]; exact r.un i a ha
  sub := fun b o e => by
    by_cases z : b = d
    · subst z; rw [upd_same] at e ⊢; exact e
    · rw [upd_ne z] at e ⊢; exact r.sub b o e
  bd := fun i a ha => by
    obtain ⟨o, ho⟩ := r.bd i a ha
    exact ⟨o, by rw [upd_ne fun z => by subst z; exact hF i ha]; exact ho⟩
  tp := fun b xs e => by
    by_cases z : b = d
    · subst z; rw [upd_same] at e; cases e; exact absurd rfl (hw _)
    · rw [upd_ne z] at e ⊢; exact r.tp b xs e
  fz := fun b o u e => by
    by_cases z : b = d
    · subst z; rw [upd_same] at e ⊢; exact e
    · rw [upd_ne z] at e ⊢; exact r.fz b o u e
  he := fun b e => by
    by_cases z : b = d
    · subst z; rw [upd_same] at e; cases e
    · rw [upd_ne z] at e; exact r.he b e
  ow := r.ow
  fx := r.fx
theorem Step.unput (s : Step (upd Hm d w1) (upd H d w1) F Hm' H' F') (h1 : Hm d = some w0) (h2 : H d = some w0) : Step Hm H F (upd Hm' d w0) (upd H' d w0) F' where
  sm := fun b o e => by
    by_cases z : b = d
    · subst z; rw [upd_same, ← h1]; exact e
    · rw [upd_ne z]; exact s.sm b o (by rw [upd_ne z]; exact e)
  kp := fun b o e hf => by
    by_cases z : b = d
    · subst z; rw [upd_same, ← h2]; exact e
    · rw [upd_ne z]; exact s.kp b o (by rw [upd_ne z]; exact e) hf
  nw := fun b o e => by
    by_cases z : b = d
    · subst z; rw [upd_same] at e; exact .inl (h1.trans e)
    · rw [upd_ne z] at e
      have := s.nw b o e
      rw [upd_ne z, upd_ne z] at this
      exact this
  fn := fun i b e => by
    rcases s.fn i b e with x | x
    · exact .inl x
    · by_cases z : b = d
      · subst z; rw [upd_same] at x; cases x
      · rw [upd_ne z] at x; exact .inr x
  dm := fun b e => by
    by_cases z : b = d
    · subst z; rw [upd_same] at e; cases e
    · rw [upd_ne z] at e
      have := s.dm b e
      rwa [upd_ne z] at this
end
section
variable {K : PySem.W.Frag} {C : Ct} {Hm H : Hp} {F : Fps} {σ : L2.St} {ρ : En} {d : Addr} {kvs : List (Key × V)} {od : Obj} {rm κ : Md}
/-- what a locked step leaves -/
theorem lock_out {Hm' H' : Hp} {F' : Fps} {σ' : L2.St} {ρ' : En} (r : Rel K C Hm H F σ ρ) (h1 : Hm d = some (.dK kvs)) (s : Step (upd Hm d (.frz od (.dK kvs))) (upd H d (.frz od (.dK kvs))) F Hm' H' F') (r' : Rel K C Hm' H' F' σ' ρ') :
    Hm' d = some (.frz od (.dK kvs)) ∧ H' d = some (.frz od (.dK kvs)) ∧ (∀ i, d ∉ F' i) ∧ Step Hm H F (upd Hm' d (.dK kvs)) (upd H' d (.dK kvs)) F' ∧ Rel K C (upd Hm' d (.dK kvs)) (upd H' d (.dK kvs)) F' σ' ρ' := by
  have a : Hm' d = some (.frz od (.dK kvs)) := s.sm d _ upd_same
  have hF' : ∀ i, d ∉ F' i := fun i z => by rw [r'.un i d z] at a; cases a
  exact ⟨a, r'.sub d _ a, hF', s.unput h1 (r.sub d _ h1), r'.put (sw_unlock a) hF' fun _ z => by cases z⟩
theorem lock_in (r : Rel K C Hm H F σ ρ) (h1 : Hm d = some (.dK kvs)) : Rel K C (upd Hm d (.frz od (.dK kvs))) (upd H d (.frz od (.dK kvs))) F σ ρ :=
  r.put (sw_lock h1) (fun i z => by rw [r.un i d z] at h1; cases h1) fun _ z => by cases z
theorem val_unlock {H0 : Hp} {Hm' H' : Hp} {F' : Fps} {v : V} {x : VL.D} {g : List Addr} (h : Hm' d = some (.frz od (.dK kvs))) (y : Val K H0 Hm' H' F' rm v x g) : Val K H0 (upd Hm' d (.dK kvs)) (upd H' d (.dK kvs)) F' rm v x g := by
  have ne : ∀ a ∈ g, a ≠ d := fun a ha z => by subst z; rw [y.un a ha] at h; cases h
  exact ⟨y.rd.sw (sw_unlock h) fun a ha o ho => by rw [upd_ne (ne a ha)]; exact ho, y.nd, fun a ha => by rw [upd_ne (ne a ha)]; exact y.un a ha, y.ap, y.nw⟩
theorem okE_lock {Q : VK} {p : VL.D × En} (r : Rel K C Hm H F σ ρ) (h1 : Hm d = some (.dK kvs)) (q : OkE K C κ Hm H F σ Q p) :
    OkE K C κ (upd Hm d (.frz od (.dK kvs))) (upd H d (.frz od (.dK kvs))) F σ (fun v H' => H' d = some (.frz od (.dK kvs)) ∧ Q v (upd H' d (.dK kvs))) p := by
  intro v Hm' H' F' g s r' y
  obtain ⟨a, b, c, s2, r2⟩ := lock_out r h1 s r'
  have z := val_unlock a y
  refine ⟨b, q v _ _ F' g s2 r2 ⟨z.rd, z.nd, z.un, z.ap, fun b hb => ?_⟩⟩
  have e := z.nw b hb
  by_cases hd : b = d
  · subst hd; rw [upd_same] at e; cases e
  · rwa [upd_ne hd] at e
theorem okS_lock {D : Ends} {p : Fl × En} (r : Rel K C Hm H F σ ρ) (h1 : Hm d = some (.dK kvs)) (q : OkS K C rm Hm H F D p) :
    OkS K C rm (upd Hm d (.frz od (.dK kvs))) (upd H d (.frz od (.dK kvs))) F ⟨fun σ' H' => H' d = some (.frz od (.dK kvs)) ∧ D.nx σ' (upd H' d (.dK kvs)), fun v H' => H' d = some (.frz od (.dK kvs)) ∧ D.rt v (upd H' d (.dK kvs)), fun σ' H' => H' d = some (.frz od (.dK kvs)) ∧ D.bk σ' (upd H' d (.dK kvs)), fun σ' H' => H' d = some (.frz od (.dK kvs)) ∧ D.ct σ' (upd H' d (.dK kvs))⟩ p := by
  obtain ⟨fl, ρ'⟩ := p
  cases fl with
  | next =>
    intro Hm' H' F' σ' s r'
    obtain ⟨a, b, c, s2, r2⟩ := lock_out r h1 s r'
    exact ⟨b, q _ _ F' σ' s2 r2⟩
  | brk =>
    intro Hm' H' F' σ' s r'
    obtain ⟨a, b, c, s2, r2⟩ := lock_out r h1 s r'
    exact ⟨b, q _ _ F' σ' s2 r2⟩
  | cont =>
    intro Hm' H' F' σ' s r'
    obtain ⟨a, b, c, s2, r2⟩ := lock_out r h1 s r'
    exact ⟨b, q _ _ F' σ' s2 r2⟩
  | ret x =>
    intro v Hm' H' F' σ' g s r' y
    obtain ⟨a, b, c, s2, r2⟩ := lock_out r h1 s r'
    exact ⟨b, q v _ _ F' σ' g s2 r2 (val_unlock a y)⟩
theorem key_dt {Hx : Hp} : ∀ k : Key, Dt K Hx (kV k) (keyOf k)
  | .inl n => .int n
  | .inr x => .str x
theorem iter_keysD {kds : List (Key × VL.D)} (h : Hm d = some (.frz od (.dK kvs))) (dk : kvs.map (·.1) = kds.map (·.1)) : Iter K Hm (Itk d od kvs) (keysD kds) := by
  have hl : kvs.length = kds.length := by have := congrArg List.length dk; simpa using this
  refine ⟨fun i x Hm2 H2 s1 s2 e => ?_, fun Hm2 H2 s1 s2 => ?_⟩
  · unfold keysD at e
    rw [List.getElem?_map] at e
    obtain ⟨kd, e1, rfl⟩ := Option.map_eq_some_iff.mp e
    have hi : i < kds.length := (List.getElem?_eq_some_iff.mp e1).1
    refine ⟨⟨s2 _ _ (s1 _ _ h), by omega⟩, fun y H3 hy => ?_⟩
    obtain ⟨rfl, k, v, hk, rfl⟩ := hy
    have : (kvs.map (·.1))[i]? = (kds.map (·.1))[i]? := by rw [dk]
    rw [List.getElem?_map, List.getElem?_map, hk, e1] at this
    have : k = kd.1 := by simpa using this
    subst this
    exact ⟨Hm2, Grow.refl s2, key_dt _⟩
  · refine ⟨s2 _ _ (s1 _ _ h), ?_⟩
    unfold keysD
    rw [List.length_map]
    omega
theorem DtK.keys {Hx : Hp} : ∀ {kv : List (Key × V)} {kd : List (Key × VL.D)}, DtK K Hx kv kd → kv.map (·.1) = kd.map (·.1)
  | _, _, .nil => rfl
  | _, _, .cons _ t => by rw [List.map_cons, List.map_cons, DtK.keys t]
end
theorem PE.or {X : Cx} {e : Expr} {t t' : TE} (h : PE X e t) (h' : PE X e t') : PE X e (fun σ H Q => t σ H Q ∨ t' σ H Q) := ⟨fun pins s σ H Q I q => q.elim (h.run pins s σ H Q I) (h'.run pins s σ H Q I)⟩
theorem PS.or {X : Cx} {e : Stmt} {t t' : TS} (h : PS X e t) (h' : PS X e t') : PS X e (fun D σ H => t D σ H ∨ t' D σ H) := ⟨fun pins s σ H D I q => q.elim (h.run pins s σ H D I) (h'.run pins s σ H D I)⟩
section
variable {X : Cx} {C : Ct} {κ rm : Md} {own : List (Str × Nat)} {g : GF} {t : TF} {ef ek ev : EF} {elt kx vx tg : Expr} {ifs : List Expr} {scope : Scope} {pos p : Pos} {x : PySem.Str} {i : Nat}
/-- the slot's dict, in the stable heap -/
theorem Rel.dctIm {K : PySem.W.Frag} {Hm H : Hp} {F : Fps} {σ : L2.St} {ρ : En} (r : Rel K C Hm H F σ ρ) {kds : List (Key × VL.D)} (h : ρ[i]? = some (some (.dct kds))) (hm : C.Γ[i]? = some .im) :
    ∃ a kvs, σ[i]? = some (some (.ref a)) ∧ kvs.map (·.1) = kds.map (·.1) ∧ (Hm a = some (.dK kvs) ∨ ∃ o, Hm a = some (.frz o (.dK kvs))) := by
  obtain ⟨v, h1, h2⟩ := r.atIm h hm
  cases h2 with
  | dct a b => exact ⟨_, _, h1, b.keys, a⟩
theorem ve_compD (ok : BlkOk X.N X.env.scope scope own)
    (hg : ∀ (s : Shared) (H : Hp) (C' : Addr) (cl : List (Str × Addr)) (fp : List Addr), PG (X.blk s H scope (compEnvC scope cl C' X.env) fp) tg (tGt X.K C (own.map (·.2)) g))
    (ht : ∀ (s : Shared) (H : Hp) (C' : Addr) (cl : List (Str × Addr)) (fp : List Addr), PTs (X.blk s H scope (compEnvC scope cl C' X.env) fp) ifs (tT X.K C t))
    (he : ∀ (s : Shared) (H : Hp) (C' : Addr) (cl : List (Str × Addr)) (fp : List Addr), PE (X.blk s H scope (compEnvC scope cl C' X.env) fp) elt (tE X.K C κ ef))
    (hi : C.Γ[i]? = some .im := by rfl) (hNx : X.N[i]? = some x := by rfl) (hv : Vis X.env.scope x := by first | exact Or.inl rfl | exact Or.inr (Or.inl rfl) | exact Or.inr (Or.inr rfl))
    (hd : (x == ("__debug__" : Str)) = false := by decide) (hcd : (x == ("__classdict__" : Str)) = false := by decide)
    (hR : ∀ i ∈ C.R, i ∉ own.map (·.2) := by exact ownR_of rfl) (hm : ∀ i ∈ own.map (·.2), C.Γ[i]? = some .im := by exact ownIm_of rfl) (hc : X.calm = true := by rfl) (hN : X.N.Nodup := by first | assumption | decide) (hs : ∀ y, foldedSetIterable (.Name x p) X.env y = pure y := by intro _; rfl) :
    VE X C (.ow κ) (.ListComp elt [⟨tg, .Name x p, ifs, 0⟩] scope pos) (eCompD i (own.map (·.2)) g t ef) := by
  have base := pe_lc (pos := pos) hc hN (pi_keys (tg := tg) (pe_var (pos := p) hNx hv hd hcd)) ok hg ht he hs
  refine PE.mono (PE.or (pe_lock base) base) fun σ H Q ⟨Hm, F, ρ, r, q⟩ => ?_
  unfold eCompD at q
  split at q
  rotate_left
  · exact q.elim
  rename_i kds e0
  obtain ⟨a, kvs, h1, hk, hh⟩ := r.dctIm e0 hi
  have step : ∀ {Hm H : Hp} {o : Obj} {Q : VK}, Hm a = some (.frz o (.dK kvs)) → H a = some (.frz o (.dK kvs)) → tE X.K C (.ow κ) (eComp (own.map (·.2)) (fun ρ => .ok (keysD kds, ρ)) g t ef) σ H Q → tLc (iKeys (tVar i)) (tGt X.K C (own.map (·.2)) g) (tT X.K C t) (tE X.K C κ ef) (own.map (·.2)) σ H Q := fun {Hm H o Q} _ h3 h4 => by
    obtain ⟨Hm0, F0, ρ0, r0, q0⟩ := comp_red hR hm h4
    exact ⟨.ref a, h1, a, o, rfl, .inl ⟨kvs, h3, q0 (Itk a o kvs) Hm0 H F0 .refl r0 (iter_keysD (r0.fz a o _ h3) hk)⟩⟩
  cases ec : eComp (own.map (·.2)) (fun ρ => .ok (keysD kds, ρ)) g t ef ρ with
  | bad => rw [ec] at q; exact q.elim
  | err x ρ => rw [ec] at q; exact q.elim
  | ok pr =>
    rw [ec] at q
    have q : OkE X.K C (.ow κ) Hm H F σ Q pr := q
    rcases hh with hh | ⟨o, hh⟩
    · refine .inl ⟨a, .dK kvs, r.sub a _ hh, True.intro, fun od => ?_⟩
      refine step (Hm := upd Hm a (.frz od (.dK kvs))) upd_same upd_same ⟨upd Hm a (.frz od (.dK kvs)), F, ρ, lock_in r hh, ?_⟩
      rw [ec]
      exact okE_lock r hh q
    · refine .inr (step hh (r.sub a _ hh) ⟨Hm, F, ρ, r, ?_⟩)
      rw [ec]
      exact q
theorem ve_dcompD (ok : BlkOk X.N X.env.scope scope own)
    (hg : ∀ (s : Shared) (H : Hp) (C' : Addr) (cl : List (Str × Addr)) (fp : List Addr), PG (X.blk s H scope (compEnvC scope cl C' X.env) fp) tg (tGt X.K C (own.map (·.2)) g))
    (ht : ∀ (s : Shared) (H : Hp) (C' : Addr) (cl : List (Str × Addr)) (fp : List Addr), PTs (X.blk s H scope (compEnvC scope cl C' X.env) fp) ifs (tT X.K C t))
    (hkx : ∀ (s : Shared) (H : Hp) (C' : Addr) (cl : List (Str × Addr)) (fp : List Addr), PE (X.blk s H scope (compEnvC scope cl C' X.env) fp) kx (tE X.K C .im ek))
    (he : ∀ (s : Shared) (H : Hp) (C' : Addr) (cl : List (Str × Addr)) (fp : List Addr), PE (X.blk s H scope (compEnvC scope cl C' X.env) fp) vx (tE X.K C .im ev))
    (hi : C.Γ[i]? = some .im := by rfl) (hNx : X.N[i]? = some x := by rfl) (hv : Vis X.env.scope x := by first | exact Or.inl rfl | exact Or.inr (Or.inl rfl) | exact Or.inr (Or.inr rfl))
    (hd : (x == ("__debug__" : Str)) = false := by decide) (hcd : (x == ("__classdict__" : Str)) = false := by decide)
    (hR : ∀ i ∈ C.R, i ∉ own.map (·.2) := by exact ownR_of rfl) (hm : ∀ i ∈ own.map (·.2), C.Γ[i]? = some .im := by exact ownIm_of rfl) (hc : X.calm = true := by rfl) (hN : X.N.Nodup := by first | assumption | decide) (hs : ∀ y, foldedSetIterable (.Name x p) X.env y = pure y := by intro _; rfl) :
    VE X C (.ow .im) (.DictComp kx vx [⟨tg, .Name x p, ifs, 0⟩] scope pos) (eDCompD i (own.map (·.2)) g t ek ev) := by
  have base := pe_dc (pos := pos) hc hN (pi_keys (tg := tg) (pe_var (pos := p) hNx hv hd hcd)) ok hg ht hkx he hs
  refine PE.mono (PE.or (pe_lock base) base) fun σ H Q ⟨Hm, F, ρ, r, q⟩ => ?_
  unfold eDCompD at q
  split at q
  rotate_left
  · exact q.elim
  rename_i kds e0
  obtain ⟨a, kvs, h1, hk, hh⟩ := r.dctIm e0 hi
  have step : ∀ {Hm H : Hp} {o : Obj} {Q : VK}, Hm a = some (.frz o (.dK kvs)) → H a = some (.frz o (.dK kvs)) → tE X.K C (.ow .im) (eDComp (own.map (·.2)) (fun ρ => .ok (keysD kds, ρ)) g t ek ev) σ H Q → tDc (iKeys (tVar i)) (tGt X.K C (own.map (·.2)) g) (tT X.K C t) (tE X.K C .im ek) (tE X.K C .im ev) (own.map (·.2)) σ H Q := fun {Hm H o Q} _ h3 h4 => by
    obtain ⟨Hm0, F0, ρ0, r0, q0⟩ := dcomp_red hR hm h4
    exact ⟨.ref a, h1, a, o, rfl, .inl ⟨kvs, h3, q0 (Itk a o kvs) Hm0 H F0 .refl r0 (iter_keysD (r0.fz a o _ h3) hk)⟩⟩
  cases ec : eDComp (own.map (·.2)) (fun ρ => .ok (keysD kds, ρ)) g t ek ev ρ with
  | bad => rw [ec] at q; exact q.elim
  | err x ρ => rw [ec] at q; exact q.elim
  | ok pr =>
    rw [ec] at q
    have q : OkE X.K C (.ow .im) Hm H F σ Q pr := q
    rcases hh with hh | ⟨o, hh⟩
    · refine .inl ⟨a, .dK kvs, r.sub a _ hh, True.intro, fun od => ?_⟩
      refine step (Hm := upd Hm a (.frz od (.dK kvs))) upd_same upd_same ⟨upd Hm a (.frz od (.dK kvs)), F, ρ, lock_in r hh, ?_⟩
      rw [ec]
      exact okE_lock r hh q
    · refine .inr (step hh (r.sub a _ hh) ⟨Hm, F, ρ, r, ?_⟩)
      rw [ec]
      exact q
/-- a for over given items -/
theorem for_core {K : PySem.W.Frag} {is : List Nat} {b : SF} {J : It} {ds : List VL.D} {Hm H : Hp} {F : Fps} {σ : L2.St} {ρ : En} {D : Ends} (r1 : Rel K C Hm H F σ ρ) (it : Iter K Hm J ds) (hq : fin K C Hm H F (loop g b ds ρ) (OkS K C rm Hm H F D)) :
    ∃ W : Nat → Nat → L2.St → Hp → Prop, (∃ m, W 0 m σ H) ∧ ∀ i m σ H, W i m σ H →
      (J.stop i H ∧ D.nx σ H) ∨ (J.go i H ∧ ∃ N : L2.St → Hp → Prop, (∀ σ' H', N σ' H' → ∃ m', m' < m ∧ W (i + 1) m' σ' H') ∧ ∀ x H', J.yld i H x H' → tGt K C is g x σ H' fun σ2 H2 => tS K C rm b { D with nx := N, ct := N, bk := D.nx } σ2 H2) := by
  refine ⟨fun i m σ' H' => ∃ Hm' F' ρ', Step Hm H F Hm' H' F' ∧ Rel K C Hm' H' F' σ' ρ' ∧ i + m = ds.length ∧ fin K C Hm' H' F' (loop g b (ds.drop i) ρ') (OkS K C rm Hm H F D),
    ⟨ds.length, Hm, F, ρ, .refl, r1, by omega, hq⟩, ?_⟩
  rintro i m σ2 H2 ⟨Hm2, F2, ρ2, s2, r2, hl, q2⟩
  by_cases hlt : i < ds.length
  · rw [List.drop_eq_getElem_cons hlt] at q2
    have q2 := q2.bind
    obtain ⟨hgo, hy⟩ := it.go i _ Hm2 H2 s2.sm r2.sub (List.getElem?_eq_getElem hlt)
    refine .inr ⟨hgo, fun σ' H' => ∃ Hm' F' ρ', Step Hm H F Hm' H' F' ∧ Rel K C Hm' H' F' σ' ρ' ∧ fin K C Hm' H' F' (loop g b (ds.drop (i + 1)) ρ') (OkS K C rm Hm H F D), ?_, fun x H3 hx => ?_⟩
    · rintro σ' H' ⟨Hm', F', ρ', h1, h2, h3⟩
      exact ⟨m - 1, by omega, Hm', F', ρ', h1, h2, by omega, h3⟩
    · obtain ⟨Hm3, g3, d3⟩ := hy x H3 hx
      obtain ⟨r3, s3⟩ := r2.grow g3
      have s03 := s2.trans s3
      refine ⟨Hm3, F2, ρ2, _, r3, d3, (q2.step s3).imp fun ρ4 hq4 Hm4 H4 F4 σ4 s4 r4 _ _ => ?_⟩
      refine ⟨Hm4, F4, ρ4, r4, (hq4.step (s3.trans s4)).bind.imp fun p5 hq5 => ?_⟩
      obtain ⟨fl, ρ5⟩ := p5
      cases fl with
      | next => exact fun Hm6 H6 F6 σ6 s6 r6 => ⟨Hm6, F6, ρ5, (s2.trans s3).trans (s4.trans s6), r6, fin.step hq5 s6⟩
      | cont => exact fun Hm6 H6 F6 σ6 s6 r6 => ⟨Hm6, F6, ρ5, (s2.trans s3).trans (s4.trans s6), r6, fin.step hq5 s6⟩
      | brk => exact fun Hm6 H6 F6 σ6 s6 r6 => hq5 Hm6 H6 F6 σ6 ((s03.trans s4).trans s6) r6
      | ret v => exact fun v Hm6 H6 F6 σ6 g6 s6 r6 x6 => hq5 v Hm6 H6 F6 σ6 g6 ((s03.trans s4).trans s6) r6 x6
  · have e : i = ds.length := by omega
    subst e
    rw [List.drop_length] at q2
    exact .inl ⟨it.stop Hm2 H2 s2.sm r2.sub, q2 Hm2 H2 F2 σ2 s2 r2⟩
/-- for k in d, d a slot -/
theorem vs_forD {is : List Nat} {b : SF} {body : List Stmt} (hg : VGt X C tg is g) (hb : VB X C rm body b) (hi : C.Γ[i]? = some .im := by rfl) (hNx : X.N[i]? = some x := by rfl) (hv : Vis X.env.scope x := by first | exact Or.inl rfl | exact Or.inr (Or.inl rfl) | exact Or.inr (Or.inr rfl))
    (hd : (x == ("__debug__" : Str)) = false := by decide) (hcd : (x == ("__classdict__" : Str)) = false := by decide)
    (hp : PassesOwn (model X.prog X.w) X.A X.env X.xe := by exact PassesOwn.never) (hc : X.calm = true := by rfl) (hs : ∀ y, foldedSetIterable (.Name x p) X.env y = pure y := by intro _; rfl) :
    VS X C rm (.For tg (.Name x p) body [] pos) (sForD i g b) := by
  have base := ps_for (pos := pos) hp hc (pi_keys (tg := tg) (pe_var (pos := p) hNx hv hd hcd)) hg hb hs
  refine PS.mono (PS.or (ps_lock base) base) fun D σ H ⟨Hm, F, ρ, r, q⟩ => ?_
  unfold sForD at q
  split at q
  rotate_left
  · exact q.elim
  rename_i kds e0
  obtain ⟨a, kvs, h1, hk, hh⟩ := r.dctIm e0 hi
  cases ec : loop g b (keysD kds) ρ with
  | bad => rw [ec] at q; exact q.elim
  | err x ρ => rw [ec] at q; exact q.elim
  | ok pr =>
    rw [ec] at q
    have q : OkS X.K C rm Hm H F D pr := q
    rcases hh with hh | ⟨o, hh⟩
    · refine .inl ⟨a, .dK kvs, r.sub a _ hh, True.intro, fun od => ?_⟩
      refine ⟨.ref a, h1, a, od, rfl, .inl ⟨kvs, upd_same, for_core (lock_in r hh) (iter_keysD upd_same hk) ?_⟩⟩
      rw [ec]
      exact okS_lock r hh q
    · refine .inr ⟨.ref a, h1, a, o, rfl, .inl ⟨kvs, r.sub a _ hh, for_core r (iter_keysD hh hk) ?_⟩⟩
      rw [ec]
      exact q
end
end VL

set_option Elab.async false
set_option linter.all false
set_option maxRecDepth 100000
set_option maxHeartbeats 4000000
/-! V37: sorted, of a list of pairs with different first numbers. -/
namespace VL
open PySem PySem.Spec PyProof.Rows L2
def secV (isB : Bool) (n : Int) : V := if isB = true then .bl (decide (n ≠ 0)) else .int n
def secE (isB : Bool) (n : Int) : PyData := if isB = true then .bool (decide (n ≠ 0)) else .int n
def encP (isB : Bool) (z : V × Int × Int) : PyData := .tuple [.int z.2.1, secE isB z.2.2]
theorem secE_alike {isB : Bool} {n m : Int} : PySem.W.alike (secE isB n) (secE isB m) = true := by
  unfold secE
  cases isB <;> simp [PySem.W.alike]
theorem encP_alike {isB : Bool} {a b : V × Int × Int} : PySem.W.alike (encP isB a) (encP isB b) = true := by
  unfold encP
  simp [PySem.W.alike, PySem.W.alikeAll, secE_alike]
theorem lt_first {isB : Bool} {a b : V × Int × Int} (h : a.2.1 ≠ b.2.1) : PySem.W.dataLt (encP isB a) (encP isB b) = decide (a.2.1 < b.2.1) := by
  unfold encP
  rw [PySem.W.dataLt_pair (by simp [PySem.W.alike]) secE_alike]
  have : PyData.eqv (.int a.2.1) (.int b.2.1) = false := by
    simp [PyData.eqv, h]
  rw [this, if_neg Bool.false_ne_true, PySem.W.dataLt_int]
theorem lt_self {isB : Bool} {a : V × Int × Int} : PySem.W.dataLt (encP isB a) (encP isB a) = false := lex_irrefl _
theorem le_first {isB : Bool} {a b : V × Int × Int} (h : a.2.1 = b.2.1 → a = b) : PySem.W.dataLe false (encP isB) a b = decide (a.2.1 ≤ b.2.1) := by
  show (!PySem.W.dataLt (encP isB b) (encP isB a)) = _
  by_cases e : a.2.1 = b.2.1
  · rw [h e, lt_self]
    simp
  · rw [lt_first (Ne.symm e)]
    by_cases z : b.2.1 < a.2.1
    · have : ¬ a.2.1 ≤ b.2.1 := by omega
      simp [z, this]
    · have : a.2.1 ≤ b.2.1 := by omega
      simp [z, this]
theorem sort_first {isB : Bool} {zs : List (V × Int × Int)} (h : (zs.map (·.2.1)).Nodup) : zs.mergeSort (PySem.W.dataLe false (encP isB)) = zs.mergeSort fun x y => decide (x.2.1 ≤ y.2.1) := by
  have inj : ∀ a ∈ zs, ∀ b ∈ zs, a.2.1 = b.2.1 → a = b := fun a ha b hb e => by
    obtain ⟨i, hi, ei⟩ := List.mem_iff_getElem.mp ha
    obtain ⟨j, hj, ej⟩ := List.mem_iff_getElem.mp hb
    have := (List.getElem_inj (i := i) (j := j) (h₀ := by rw [List.length_map]; exact hi) (h₁ := by rw [List.length_map]; exact hj) h).mp (by rw [List.getElem_map, List.getElem_map, ei, ej]; exact e)
    subst this
    exact ei.symm.trans ej
  have := List.map_mergeSort (r := PySem.W.dataLe false (encP isB)) (s := fun x y : V × Int × Int => decide (x.2.1 ≤ y.2.1)) (f := id) (l := zs) fun a ha b hb => le_first (inj a ha b hb)
  simpa using this
def rSortedP (K : PySem.W.Frag) : List V → Hp → VK → Prop := fun vs H Q => ∃ (a : Addr) (zs : List (V × Int × Int)) (isB : Bool), vs = [V.ref a] ∧ SqL K H a (zs.map (·.1)) ∧ (∀ z ∈ zs, ∃ t, z.1 = V.ref t ∧ SqT K H t [V.int z.2.1, secV isB z.2.2]) ∧
  (zs.map (·.2.1)).Nodup ∧ zs.length ≤ 1000 ∧ ∀ p, H p = none → Q (.ref p) (upd H p (.lst ((zs.mergeSort fun x y => decide (x.2.1 ≤ y.2.1)).map (·.1))))
theorem each_vals : ∀ {zs : List (V × Int × Int)} {us : List Value}, Vals (zs.map (·.1)) us → PySem.W.EachIs (fun u z => RelV z.1 u) us zs
  | [], _, .nil => .nil
  | _ :: _, _, .cons h t => .cons h (each_vals t)
theorem vals_each : ∀ {zs : List (V × Int × Int)} {us : List Value}, PySem.W.EachIs (fun u z => RelV z.1 u) us zs → Vals (zs.map (·.1)) us
  | _, _, .nil => .nil
  | _, _, .cons h t => .cons h (vals_each t)
theorem each_reads {X : Cx} {pins : List (Addr × Obj)} {σ : L2.St} {H : Hp} {s : Shared} {isB : Bool} (I : Inv X pins σ H s) : ∀ {zs : List (V × Int × Int)} {us : List Value}, (∀ z ∈ zs, ∃ t, z.1 = V.ref t ∧ SqT X.K H t [V.int z.2.1, secV isB z.2.2]) → PySem.W.EachIs (fun u z => RelV z.1 u) us zs →
    PySem.W.EachIs (fun v b => ∃ as, Reads s.heap v (encP isB b) as) us zs
  | _, _, _, .nil => .nil
  | z :: zs, u :: us, hx, .cons h t => by
    refine .cons ?_ (each_reads I (fun y hy => hx y (List.mem_cons_of_mem _ hy)) t)
    obtain ⟨q, e, hq⟩ := hx z List.mem_cons_self
    rw [e] at h
    obtain rfl : u = Value.ref q := h
    obtain ⟨its, rv, p, _⟩ := I.tuple hq
    have pt : s.heap.IsTuple q its.toArray := p
    obtain ⟨o, go, co, n, d⟩ := pt
    cases rv with
    | @cons _ u1 _ its r1 rv =>
      cases rv with
      | @cons _ u2 _ its r2 rv =>
        cases rv
        obtain ⟨t1, rfl⟩ := r1
        have h2 : ∃ as, Reads s.heap u2 (secE isB z.2.2) as := by
          unfold secV at r2
          unfold secE
          cases isB with
          | true =>
            obtain rfl := r2
            exact ⟨_, .bool _⟩
          | false =>
            obtain ⟨t2, rfl⟩ := r2
            exact ⟨_, .int _ _⟩
        obtain ⟨as, h2⟩ := h2
        exact ⟨_, .tuple go co d (.cons (.int _ _) (.cons h2 .nil))⟩
theorem cr_sortedP {X : Cx} (hu : X.A.units + 40 < cLine) : CallR X (.builtin "sorted") (rSortedP X.K) := by
  intro pins s σ H vs us Q I r h
  obtain ⟨a, zs, isB, rfl, hs, hx, hnd, hz, q⟩ := h
  obtain ⟨its, rv, hl, hz2⟩ := I.list hs
  obtain ⟨u, rfl, ru⟩ := vals1 r
  obtain rfl : u = Value.ref a := ru
  have ev := each_vals rv
  refine PySem.W.sorted_data (R := fun u z => RelV z.1 u) (enc := encP isB) (bs := zs) hl.isList ev (each_reads I hx ev) (PySem.W.AllAlike.of fun _ _ => encP_alike) (PySem.W.Sortable.tuples fun b => ⟨_, _, rfl⟩) (by rw [List.length_map] at hz2; exact hz2) (fun b _ => ?_) fun out ho eo => ?_
  · have e2 : (secE isB b.2.2).depth = 0 := by
      unfold secE
      cases isB
      · rw [if_neg Bool.false_ne_true, PyData.depth]
      · rw [if_pos rfl, PyData.depth]
    have : (encP isB b).depth ≤ 30 := by
      unfold encP
      rw [PyData.depth, PyData.depthAll, PyData.depthAll, PyData.depthAll, PyData.depth, e2]
      decide
    exact Nat.lt_of_le_of_lt (Nat.add_le_add_left this _) (by rw [Nat.add_assoc]; exact Nat.lt_of_le_of_lt (Nat.add_le_add_left (by decide) _) hu)
  · rw [sort_first hnd] at eo
    have ve := vals_each eo
    obtain ⟨ep, he'⟩ := PyProof.Rows.sortedAll_at s.heap its out.toArray
    refine ⟨.ref _, upd H (s.heap.objs.size + 1) (.lst ((zs.mergeSort fun x y => decide (x.2.1 ≤ y.2.1)).map (·.1))), I.laid (t' := s.toks) (fun _ _ => PyProof.Rows.sortedAll_old) (Nat.le_succ _) ⟨?_, out, ep, ve, he'⟩, rfl, q _ (I.hok.fresh (Nat.le_succ _))⟩
    rw [List.length_map, List.length_mergeSort]
    rw [List.length_map] at hz2
    exact hz2
theorem pairI_zs {K : PySem.W.Frag} {G H : Hp} (s : Same G H) : ∀ {ds : List VL.D} {xs : List V} {qs : List (Int × Int)}, DtA K G xs ds → pairsI ds = some qs → ∃ zs : List (V × Int × Int), zs.map (·.1) = xs ∧ zs.map (·.2) = qs ∧ ∀ z ∈ zs, (∃ t, z.1 = V.ref t ∧ SqT K H t [V.int z.2.1, secV false z.2.2]) ∧ Dt K G z.1 (pairD false z.2)
  | _, _, _, .nil, h => by cases h; exact ⟨[], rfl, rfl, fun _ z => by cases z⟩
  | d :: ds, _, qs, .cons (v := v) a b, h => by
    unfold pairsI at h
    split at h
    · rename_i e
      cases e
    · rename_i a0 b0 ds0 e
      cases e
      obtain ⟨qs2, e2, rfl⟩ := Option.map_eq_some_iff.mp h
      obtain ⟨zs, h1, h2, h3⟩ := pairI_zs s b e2
      refine ⟨(v, a0, b0) :: zs, by rw [List.map_cons, h1], by rw [List.map_cons, h2], fun z hz => ?_⟩
      rcases List.mem_cons.mp hz with rfl | hz
      · refine ⟨?_, a⟩
        cases a with
        | tup k1 k2 =>
          cases k2 with
          | cons m1 k2 =>
            cases k2 with
            | cons m2 k2 =>
              cases k2
              cases m1
              cases m2
              exact ⟨_, rfl, Same.sqt s k1⟩
      · exact h3 z hz
    · cases h
theorem pairB_zs {K : PySem.W.Frag} {G H : Hp} (s : Same G H) : ∀ {ds : List VL.D} {xs : List V} {qs : List (Int × Int)}, DtA K G xs ds → pairsB ds = some qs → ∃ zs : List (V × Int × Int), zs.map (·.1) = xs ∧ zs.map (·.2) = qs ∧ ∀ z ∈ zs, (∃ t, z.1 = V.ref t ∧ SqT K H t [V.int z.2.1, secV true z.2.2]) ∧ Dt K G z.1 (pairD true z.2)
  | _, _, _, .nil, h => by cases h; exact ⟨[], rfl, rfl, fun _ z => by cases z⟩
  | d :: ds, _, qs, .cons (v := v) a b, h => by
    unfold pairsB at h
    split at h
    · rename_i e
      cases e
    · rename_i a0 b0 ds0 e
      cases e
      obtain ⟨qs2, e2, rfl⟩ := Option.map_eq_some_iff.mp h
      obtain ⟨zs, h1, h2, h3⟩ := pairB_zs s b e2
      have es : (if decide ((if b0 = true then (1 : Int) else 0) ≠ 0) = true then True else False) ↔ b0 = true := by cases b0 <;> simp
      have eb : decide ((if b0 = true then (1 : Int) else 0) ≠ 0) = b0 := by cases b0 <;> rfl
      refine ⟨(v, a0, if b0 = true then 1 else 0) :: zs, by rw [List.map_cons, h1], by rw [List.map_cons, h2], fun z hz => ?_⟩
      rcases List.mem_cons.mp hz with rfl | hz
      · have ed : pairD true (a0, if b0 = true then (1 : Int) else 0) = .tup [.int a0, .bl b0] := by
          unfold pairD secD
          rw [if_pos rfl, eb]
        have ev : secV true (if b0 = true then (1 : Int) else 0) = .bl b0 := by
          unfold secV
          rw [if_pos rfl, eb]
        refine ⟨?_, by rw [ed]; exact a⟩
        show ∃ t, v = V.ref t ∧ SqT K H t [V.int a0, secV true (if b0 = true then (1 : Int) else 0)]
        rw [ev]
        cases a with
        | tup k1 k2 =>
          cases k2 with
          | cons m1 k2 =>
            cases k2 with
            | cons m2 k2 =>
              cases k2
              cases m1
              cases m2
              exact ⟨_, rfl, Same.sqt s k1⟩
      · exact h3 z hz
    · cases h
theorem dtA_zs {K : PySem.W.Frag} {G : Hp} {isB : Bool} : ∀ {zs : List (V × Int × Int)}, (∀ z ∈ zs, Dt K G z.1 (pairD isB z.2)) → DtA K G (zs.map (·.1)) ((zs.map (·.2)).map (pairD isB))
  | [], _ => .nil
  | z :: zs, h => .cons (h z List.mem_cons_self) (dtA_zs fun y hy => h y (List.mem_cons_of_mem _ hy))
theorem prim_sortedP {K : PySem.W.Frag} : PrimN K (rSortedP K) sortedPD (.ow .im) := by
  intro G H xs ds z Q s h hz q
  cases h with
  | nil => cases hz
  | @cons v vs d ds h1 h2 =>
    cases h2 with
    | cons => cases d <;> cases hz
    | nil =>
      have fin : ∀ {a : Addr} {ys : List V} (isB : Bool) (zs : List (V × Int × Int)), v = V.ref a → Rd G a (.lst ys) → zs.map (·.1) = ys → (∀ y ∈ zs, (∃ t, y.1 = V.ref t ∧ SqT K H t [V.int y.2.1, secV isB y.2.2]) ∧ Dt K G y.1 (pairD isB y.2)) → sortP isB (zs.map (·.2)) = some z → rSortedP K [v] H Q := fun {a ys} isB zs ev hr hy hzs e => by
        unfold sortP at e
        split at e
        · rename_i hc
          cases e
          subst ev hy
          have hmm : (zs.map (·.2)).map (·.1) = zs.map (·.2.1) := by rw [List.map_map]; rfl
          rw [hmm] at hc
          have em : (zs.mergeSort fun x y => decide (x.2.1 ≤ y.2.1)).map (·.2) = (zs.map (·.2)).mergeSort fun x y => decide (x.1 ≤ y.1) := List.map_mergeSort fun _ _ _ _ => rfl
          refine ⟨a, zs, isB, rfl, .inl (Same.rd s hr), fun y hy => (hzs y hy).1, hc.1, by have := hc.2; rwa [List.length_map] at this, fun p hp => ?_⟩
          refine q _ _ _ _ (Grow.own s hp (fun _ _ z => by cases z) fun _ z => by cases z) (Res.lst s hp ?_)
          rw [← em]
          exact dtA_zs fun y hy => (hzs y (List.mem_mergeSort.mp hy)).2
        · cases e
      cases h1 with
      | @lst a ys ds h3 h4 =>
        have hz : (match pairsI ds with
          | some qs => sortP false qs
          | none => (pairsB ds).bind (sortP true)) = some z := hz
        cases e : pairsI ds with
        | some qs =>
          rw [e] at hz
          obtain ⟨zs, k1, k2, k3⟩ := pairI_zs s h4 e
          exact fin false zs rfl h3 k1 k3 (by rw [k2]; exact hz)
        | none =>
          rw [e] at hz
          obtain ⟨qs, e2, hz⟩ := Option.bind_eq_some_iff.mp hz
          obtain ⟨zs, k1, k2, k3⟩ := pairB_zs s h4 e2
          exact fin true zs rfl h3 k1 k3 (by rw [k2]; exact hz)
      | _ => cases hz
end VL

set_option Elab.async false
set_option linter.all false
set_option maxRecDepth 100000
set_option maxHeartbeats 4000000
/-! V38: k in d; x.insert(k, v). -/
namespace VL
open PySem PySem.Spec PyProof.Rows L2
section
variable {X : Cx} {C : Ct} {a b : Expr} {fa fb : EF} {pos : Pos}
theorem dIn_red {σ : L2.St} {H : Hp} {Q : VK} (h : tE X.K C .im (eOp2 dIn fa fb) σ H Q) : tDIn (tE X.K C .im fa) (tE X.K C .im fb) σ H Q := by
  obtain ⟨Hm, F, ρ, r, q⟩ := h
  refine ⟨Hm, F, ρ, r, q.bind.imp fun p hq v Hm1 H1 F1 g1 s1 r1 x1 => ?_⟩
  refine ⟨Hm1, F1, p.2, r1, (hq.step s1).bind.imp fun p2 hq2 w Hm2 H2 F2 g2 s2 r2 x2 => ?_⟩
  obtain ⟨z, ez, hz⟩ := (hq2.step s2).bind.of
  obtain ⟨d, ρ1⟩ := p
  obtain ⟨e, ρ2⟩ := p2
  have x3 := x2.of_im
  cases x3 with
  | @dct a kvs kds h1 h2 =>
    have ez : ((keyD d).map fun k => VL.D.bl (valD kds k).isSome) = some z := ez
    obtain ⟨k, hk, rfl⟩ := Option.map_eq_some_iff.mp ez
    have ey := keyD_of x1.of_im hk
    subst ey
    have e2 := (DtK.get (k := k) h2).2
    rw [e2] at hz
    exact ⟨a, valV kvs k, rfl, .inl ⟨_, k, Same.rd r2.sub h1, rfl, rfl⟩, hz (.bl _) Hm2 H2 F2 [] (s1.trans s2) r2 (Val.im (.bl _))⟩
  | _ => cases ez
theorem ve_din (hu : X.A.units + 1 < cLine) (ha : VE X C .im a fa) (hb : VE X C .im b fb) (hm : behindInMarks .In b = false := by rfl) : VE X C .im (.Compare a [.In] [b] pos) (eOp2 dIn fa fb) := PE.mono (pe_cmp (pc_din hu ha hb) hm) fun _ _ _ => dIn_red
theorem vt_din (hu : X.A.units + 1 < cLine) (ha : VE X C .im a fa) (hb : VE X C .im b fb) (hm : behindInMarks .In b = false := by rfl) : VT X C (.Compare a [.In] [b] pos) (tVal (eOp2 dIn fa fb)) := PT.mono (pt_cmp (pc_din hu ha hb) hm) fun _ _ _ => redT fun _ => dIn_red
end
section
variable {X : Cx} {C : Ct} {e ek : Expr} {fe fk : EF} {x : PySem.Str} {i : Nat} {rm : Md} {p p1 p2 pos : Pos}
theorem insert_red {D : Ends} {σ : L2.St} {H : Hp} (hm : C.Γ[i]? = some (.ow .im)) (h : tS X.K C rm (sInsert i fk fe) D σ H) : tDrop (tBM X.K "list" (fun x vs H Q => ∃ (l : Addr) (xs : List V) (i : Int) (y : V), x = .ref l ∧ vs = [.int i, y] ∧ H l = some (.lst xs) ∧ xs.length < sizeLine ∧ 0 ≤ i ∧ i < 2 ^ 63 ∧
    Q .non (upd H l (.lst (xs.take i.toNat ++ [y] ++ xs.drop i.toNat)))) (tVar i) (tCons (tE X.K C .im fk) (tCons (tE X.K C .im fe) tNil))) D σ H := by
  obtain ⟨Hm, F, ρ, r, q⟩ := h
  unfold sInsert at q
  split at q
  · rename_i ds0 e0
    obtain ⟨a, xs0, g0, h1, h2, _, _, _⟩ := r.own e0 hm
    refine ⟨.ref a, h1, .inl ⟨rfl, xs0, .of h2⟩, Hm, F, ρ, r, q.bind.imp fun pk hqk vk Hm0 H0 F0 gk s0 r0 x0 => ?_⟩
    refine ⟨Hm0, F0, pk.2, r0, (hqk.step s0).bind.imp fun p hq v Hm1 H1 F1 g1 s1 r1 x1 => ?_⟩
    obtain ⟨d, ρ1⟩ := p
    obtain ⟨dk, ρ0⟩ := pk
    have hq : fin X.K C Hm0 H0 F0 (match ρ1[i]?, dk with
      | some (some (.lst ds)), .int k => if 0 ≤ k ∧ k ≤ ds.length ∧ ds.length < LINE then Rs.ok (Fl.next, ρ1.set i (some (.lst (ds.take k.toNat ++ [d] ++ ds.drop k.toNat)))) else .bad
      | _, _ => .bad) _ := hq
    split at hq
    · rename_i ds k e1 old
      obtain ⟨a', xs, g, h3, h4, hall, hF, hag⟩ := r1.own e1 hm
      rw [h1] at h3
      cases h3
      split at hq
      · rename_i hl
        have xk := x0.of_im
        cases xk
        have e2 : g = [] := (all_im hall).2
        subst e2
        have dx := (all_im hall).1
        obtain ⟨d1, d2⟩ := dt_split k.toNat dx
        have dn := DtA.append (dt_snoc d1 x1.of_im) d2
        obtain ⟨r2, s2⟩ := r1.put_items (ys := xs.take k.toNat ++ [v] ++ xs.drop k.toNat) (es := ds.take k.toNat ++ [d] ++ ds.drop k.toNat) (g' := []) s1 hm h1 h4 hF hag (im_all dn) (fun b hb => hb) .nil
        have hLL : ds.length < 16777216 := hl.2.2
        exact ⟨a, xs, k, v, rfl, rfl, h4, by rw [sizeLine_eq, dx.length]; exact hl.2.2, hl.1, by omega, hq Hm1 _ _ σ (s0.trans s2) r2⟩
      · exact hq.elim
    · exact hq.elim
  · exact q.elim
theorem vs_insert (hk : VE X C .im ek fk) (h : VE X C .im e fe) (hm : C.Γ[i]? = some (.ow .im) := by rfl) (hN : X.N[i]? = some x := by rfl) (hv : Vis X.env.scope x := by first | exact Or.inl rfl | exact Or.inr (Or.inl rfl) | exact Or.inr (Or.inr rfl))
    (hd : (x == ("__debug__" : Str)) = false := by decide) (hcd : (x == ("__classdict__" : Str)) = false := by decide)
    (he : starEach [ek, e] X.env = (false, eval ek X.env) :: starEach [e] X.env := by rfl) (he2 : starEach [e] X.env = (false, eval e X.env) :: starEach [] X.env := by rfl) (hbase : attributeBase (.Name x p) "insert" X.env (eval (.Name x p) X.env) = eval (.Name x p) X.env := by rfl)
    (hfew : ((backTo p2 (starEach [ek, e] X.env)).all (fun x => !x.1) && (backToKw p2 (keywordEach [] X.env)).all (fun x => x.1.isSome)
      && decide ([ek, e].length + ([] : List Keyword).length + (if ([] : List Keyword).isEmpty then 0 else 1) < 30)) = true := by rfl)
    (hline : (p1.endLine == p2.line) = true := by rfl) (hpl : (backTo p2 (starEach [e] X.env)).any (·.1) = false := by rfl)
    (hs : swapsWith (.Call (.Attribute (.Name x p) "insert" p1) [ek, e] [] p2) none pos.line X.env = pure false := by rfl) :
    VS X C rm (.Expr (.Call (.Attribute (.Name x p) "insert" p1) [ek, e] [] p2) pos) (sInsert i fk fe) :=
  PS.mono (ps_expr (pe_bm PySem.F.plainAttrs_list PySem.F.slot_list_insert PySem.F.type_list_insert mt_insert (pe_var hN hv hd hcd) (pa_cons hk (pa_cons h pa_nil he2) he) hbase hfew hline he hpl) hs) fun _ _ _ => insert_red hm
end
end VL

set_option Elab.async false
set_option linter.all false
set_option maxRecDepth 100000
set_option maxHeartbeats 4000000
/-! V39: x[::-1] of an own list where it stands. -/
namespace VL
open PySem PySem.Spec PyProof.Rows L2
section
variable {X : Cx} {C : Ct} {x : PySem.Str} {i : Nat} {p pos : Pos}
theorem ve_revN {k : Nat} {p1 p2 p3 : Pos} (hm : C.Γ[i]? = some (.ow .im) := by rfl) (hN : X.N[i]? = some x := by rfl) (hv : Vis X.env.scope x := by first | exact Or.inl rfl | exact Or.inr (Or.inl rfl) | exact Or.inr (Or.inr rfl))
    (hd : (x == ("__debug__" : Str)) = false := by decide) (hcd : (x == ("__classdict__" : Str)) = false := by decide) : VE X C (.ow .im) (.Subscript (.Name x p) (.Slice none none (some (.UnaryOp .USub (.Constant (.int 1) k p1) p2)) p3) pos) (eRevN i) := by
  refine PE.mono (pe_revL (pe_var hN hv hd hcd)) fun σ H Q ⟨Hm, F, ρ, r, q⟩ => ?_
  unfold eRevN at q
  split at q
  rotate_left
  · exact q.elim
  rename_i ds e0
  obtain ⟨a, xs, g0, h1, h4, hall, _, _⟩ := r.own e0 hm
  have dx := (all_im hall).1
  exact ⟨.ref a, h1, a, xs, rfl, .inl (.of h4), fun pp hp => endE q .refl r (Grow.own r.sub hp (fun _ _ z => by cases z) fun _ z => by cases z) (Res.lst r.sub hp (dx.reverse))⟩
end
end VL

set_option Elab.async false
set_option linter.all false
set_option maxRecDepth 100000
set_option maxHeartbeats 4000000
/-! V40: one statement with everything own lent, while some slots are not set. -/
namespace VL
open PySem PySem.Spec PyProof.Rows L2
theorem wipeE_mem {ρ : En} {j : Nat} {d : VL.D} : ∀ {un : List Nat}, j ∈ un → (wipeE ρ un)[j]? ≠ some (some d)
  | [], h => by cases h
  | i :: is, h => fun e => by
    have e : ((wipeE ρ is).set i none)[j]? = some (some d) := e
    by_cases z : j = i
    · subst z
      rw [List.getElem?_set] at e
      simp only [if_true] at e
      split at e <;> cases e
    · rw [List.getElem?_set_ne (fun q => z q.symm)] at e
      exact wipeE_mem ((List.mem_cons.mp h).resolve_left z) e
section
variable {K : PySem.W.Frag} {C : Ct} {Hm H Hm3 H3 : Hp} {F F3 : Fps} {σ σ3 : L2.St} {ρ ρ3 : En} {is ws un keep : List Nat}
theorem bb_outG (r : Rel K C Hm H F σ ρ) (s : Step (lend Hm H F is) H (less F is) Hm3 H3 F3) (r3 : Rel K (C.bb is keep σ) Hm3 H3 F3 σ3 ρ3) (ha : allOk is [] 0 C.Γ = true)
    (hkw : ∀ j, j < C.Γ.length → j ∈ keep ∨ j ∈ ws ++ un) (hw : ∀ j ∈ ws ++ un, j ∉ C.R) (hi : ∀ j ∈ ws, C.Γ[j]? = some .im) (his : ∀ j ∈ ws, j ∉ is) :
    Rel K C (unlend Hm3 F is) H3 (both F F3 is []) σ3 (flatE (wipeE ρ un) ρ3 ws) ∧ Step Hm H F (unlend Hm3 F is) H3 (both F F3 is []) := by
  obtain ⟨r4, s4⟩ := bb_out r s r3 ha hkw hw
  refine ⟨⟨r4.ls, by rw [flatE_len, wipeE_len]; exact r.lr, fun i d h => ?_, r4.nd, r4.dj, r4.un, r4.sub, r4.bd, r4.tp, r4.fz, r4.he, r4.ow, fun i h => ?_⟩, s4⟩
  · by_cases hm : i ∈ ws
    · obtain ⟨h1, h2⟩ := flatE_in hm h
      obtain ⟨v, m, k1, k2, k3⟩ := r3.sl i d h1
      have em := bb_im ha k2
      subst em
      refine ⟨v, .im, k1, hi i hm, flat_dt r4.tp r4.fz d h2 (Dt.mono r3.sub _ k3.1), ?_⟩
      unfold both
      rw [if_neg (his i hm)]
      rfl
    · rw [flatE_get hm] at h
      have hu : i ∉ un := fun z => wipeE_mem z h
      rw [wipeE_get hu] at h
      exact r4.sl i d (by rw [wipeE_get fun z => (List.mem_append.mp z).elim hm hu]; exact h)
  · have hn : i ∉ ws ++ un := fun z => hw i z h
    have := r4.fx i h
    rw [wipeE_get hn] at this
    rw [flatE_get fun z => hn (List.mem_append_left _ z), wipeE_get fun z => hn (List.mem_append_right _ z)]
    exact this
end
section
variable {X : Cx} {C : Ct} {st : Stmt} {f : SF}
theorem vs_borG (is ws un keep : List Nat) (h1 : ∀ σ, VS X (C.bb is keep σ) .im st f) (ha : allOk is [] 0 C.Γ = true := by rfl)
    (hkw : (List.range C.Γ.length).all (fun j => keep.contains j || (ws ++ un).contains j) = true := by rfl) (hw : ws.all (fun j => !is.contains j && isImB C.Γ[j]?) = true := by rfl) (hu : (ws ++ un).all (fun j => !C.R.contains j) = true := by rfl) : VS X C .im st (sBorG ws un keep f) := by
  have hkw' : ∀ j, j < C.Γ.length → j ∈ keep ∨ j ∈ ws ++ un := fun j hj => by
    have := List.all_eq_true.mp hkw j (List.mem_range.mpr hj)
    simpa using this
  have hw0 : ∀ j ∈ ws, j ∉ is ∧ isImB C.Γ[j]? = true := fun j hj => by
    have := List.all_eq_true.mp hw j hj
    simpa using this
  have hw' : ∀ j ∈ ws ++ un, j ∉ C.R := fun j hj => by
    have := List.all_eq_true.mp hu j hj
    simpa using this
  have his : ∀ j ∈ ws, j ∉ is := fun j hj => (hw0 j hj).1
  have hi : ∀ j ∈ ws, C.Γ[j]? = some .im := fun j hj => by
    have := (hw0 j hj).2
    unfold isImB at this
    split at this
    · assumption
    · cases this
  refine ⟨fun pins s σ H D I q => (h1 σ).run pins s σ H D I ?_⟩
  obtain ⟨Hm, F, ρ, r, q⟩ := q
  have q : fin X.K C Hm H F (if keep.all (setAt ρ) = true then (match f ρ with
    | .ok (Fl.next, ρ3) => Rs.ok (Fl.next, flatE (wipeE ρ un) ρ3 ws)
    | _ => Rs.bad) else Rs.bad) (OkS X.K C .im Hm H F D) := q
  by_cases hk : keep.all (setAt ρ) = true
  rotate_left
  · rw [if_neg hk] at q; exact q.elim
  rw [if_pos hk] at q
  refine ⟨lend Hm H F is, less F is, ρ, bb_in r ha hk, ?_⟩
  cases e1 : f ρ with
  | bad => rw [e1] at q; exact q.elim
  | err x ρ' => rw [e1] at q; exact q.elim
  | ok p =>
    obtain ⟨fl, ρ1⟩ := p
    rw [e1] at q
    cases fl with
    | next =>
      have q : OkS X.K C .im Hm H F D (.next, flatE (wipeE ρ un) ρ1 ws) := q
      intro Hm3 H3 F3 σ3 s3 r3
      obtain ⟨r4, s4⟩ := bb_outG r s3 r3 ha hkw' hw' hi his
      exact q _ _ _ σ3 s4 r4
    | brk => exact q.elim
    | cont => exact q.elim
    | ret d => exact q.elim
end
end VL

set_option Elab.async false
set_option linter.all false
set_option maxRecDepth 100000
set_option maxHeartbeats 4000000
/-! V41: sorted(d), sorted(d.items()). -/
namespace VL
open PySem PySem.Spec PyProof.Rows L2
/-- sorted(d), keys ints -/
def rSortedK : List V → Hp → VK → Prop := fun xs H Q => ∃ (a : Addr) (kvs : List (Key × V)) (ks : List Int), xs = [.ref a] ∧ Rd H a (.dK kvs) ∧ kvs.map (·.1) = ks.map Sum.inl ∧ ks.length < 64 ∧ ∀ (ys : List Int) (p : Addr), ys.Perm ks → ys.Pairwise (· ≤ ·) → H p = none → Q (.ref p) (upd H p (.lst (ys.map V.int)))
theorem cr_sortedK {X : Cx} (hc : X.calm = true) : CallR X (.builtin "sorted") rSortedK := call_sortedDI hc
theorem keysI_at : ∀ {kds : List (Key × VL.D)} {ns : List Int}, keysI kds = some ns → kds.map (·.1) = ns.map Sum.inl
  | [], _, h => by cases h; rfl
  | (.inl k, d) :: r, ns, h => by
    obtain ⟨ms, e, rfl⟩ := Option.map_eq_some_iff.mp (show (keysI r).map (k :: ·) = some ns from h)
    rw [List.map_cons, List.map_cons, keysI_at e]
  | (.inr k, d) :: r, ns, h => by cases h
theorem prim_sortedK {K : PySem.W.Frag} : PrimN K rSortedK sortedKD (.ow .im) := by
  intro G H xs ds z Q s hx hz q
  cases hx with
  | nil => cases hz
  | cons h t =>
    cases t with
    | cons h2 t2 => rename_i d _ _ _ _; cases d <;> cases hz
    | nil =>
      cases h with
      | @dct a kvs kds h1 h2 =>
        have hz : ((keysI kds).bind fun ns => if ns.length < 64 then some (D.lst ((isort ns).map D.int)) else none) = some z := hz
        obtain ⟨ns, e, hz⟩ := Option.bind_eq_some_iff.mp hz
        split at hz
        · rename_i hl
          cases hz
          refine ⟨a, kvs, ns, rfl, Same.rd s h1, (DtK.keys h2).trans (keysI_at e), hl, fun ns' p hp hs hh => ?_⟩
          have es := PySem.W.ksm_same (hp.trans (isort_perm ns).symm) hs (isort_sorted ns)
          subst es
          exact q _ _ _ _ (Grow.own s hh (fun _ _ z => by cases z) fun _ z => by cases z) (Res.lst s hh (prim_sorted.dt_ints _))
        · cases hz
      | _ => cases hz
/-! ### sorted(d.items()) -/
section
variable {X : Cx} {pins : List (Addr × Obj)} {σ : L2.St} {H : Hp} {s : Shared} {h' : Heap} {tk : Nat}
/-- pairs that were laid, and a list of them somewhere behind -/
theorem items_sorted {kvs : List (Key × V)} {vs : List (Key × Value)} {c : Nat} {as bs : List Addr} {L : Addr} {out : Array Value} (I : Inv X pins σ H s) (hz : bs.length ≤ sizeLine) (kv : KV kvs vs)
    (hk : ∀ b o, s.heap.get? b = some o → h'.get? b = some o) (hL : s.heap.objs.size ≤ L) (hLn : L ∉ as) (hS : h'.get? L = some (seqObj "list" out c)) (hl : as.length = vs.length) (hrise : as.Pairwise (· < ·)) (habove : ∀ a ∈ as, s.heap.objs.size < a)
    (hG : ∀ (j : Nat) (a : Addr), as[j]? = some a → ∃ key k x, vs[j]? = some (k, x) ∧ (mixKind X.prog X.w).is k key = true ∧ h'.get? a = some { cls := .type "tuple", data := .seq #[key, x] }) (hacc : out.toList = bs.map Value.ref) :
    ∃ H' : Hp, (∀ b o, H b = some o → H' b = some o) ∧ H L = none ∧ (∀ t ∈ as, H t = none) ∧ H' L = some (.lst (bs.map V.ref)) ∧ Paired (fun (t : Addr) (q : Key × V) => H' t = some (.tup [kV q.1, q.2])) as kvs ∧ (∀ b o, H' b = some o → H b = some o ∨ b = L ∨ b ∈ as) ∧ Inv X pins σ H' { s with heap := h', toks := tk } := by
  have lk : kvs.length = vs.length := Paired.length kv
  have nd : as.Nodup := List.Pairwise.imp (fun {a b} (h : a < b) => Nat.ne_of_lt h) hrise
  have new : ∀ t ∈ as, H t = none := fun t ht => I.hok.fresh (Nat.le_of_lt (habove t ht))
  have newS : H L = none := I.hok.fresh hL
  have atP := LiI.putT_at as kvs (upd H L (.lst (bs.map V.ref))) (by omega) nd
  have off : ∀ b, b ∉ as → b ≠ L → LiI.putT (upd H L (.lst (bs.map V.ref))) as kvs b = H b := fun b h1 h2 => by rw [LiI.putT_off as kvs _ h1, upd_ne h2]
  have low : ∀ b o, s.heap.get? b = some o → b ∉ as ∧ b ≠ L := fun b o e => ⟨fun z => absurd (Heap.lt_size e) (Nat.not_lt.mpr (Nat.le_of_lt (habove b z))), fun z => absurd (Heap.lt_size e) (Nat.not_lt.mpr (by rw [z]; exact hL))⟩
  have kp : ∀ b u, H b = some u → (LiI.putT (upd H L (.lst (bs.map V.ref))) as kvs) b = some u := fun b u e => by
    rw [off b (fun z => by rw [new b z] at e; cases e) (fun z => by rw [z, newS] at e; cases e)]
    exact e
  have eS : LiI.putT (upd H L (.lst (bs.map V.ref))) as kvs L = some (.lst (bs.map V.ref)) := by rw [LiI.putT_off as kvs _ hLn, upd_same]
  refine ⟨LiI.putT (upd H L (.lst (bs.map V.ref))) as kvs, kp, newS, new, eS, atP, fun b o e => ?_, ?_⟩
  · by_cases h1 : b ∈ as
    · exact .inr (.inr h1)
    · by_cases h2 : b = L
      · exact .inr (.inl h2)
      · rw [off b h1 h2] at e
        exact .inl e
  · refine I.call' (ch := []) rfl ⟨fun b o q _ _ _ => hk b o q, fun b o q _ _ _ => ⟨o.slots, hk b o q⟩, fun b o q n _ => ?_, fun b o q _ => ⟨o, hk b o q⟩, fun b xs q => kp b _ q, fun b o u q => kp b _ q, fun b ps q => ⟨#[], by rw [kp b _ q]; simp⟩⟩ (fun b u q => ?_) I.bare fun b z => by simp at z
    · obtain ⟨z1, z2⟩ := low b o q
      rw [off b z1 z2]
      exact n
    · by_cases hb : b ∈ as
      · obtain ⟨j, pk, e1, e2, e3⟩ := LiI.paired_ix atP hb
        rw [e3] at q
        cases q
        obtain ⟨key, k, x, f1, f2, f3⟩ := hG j b e1
        obtain ⟨qv, g1, g2, g3⟩ := LiI.paired_get kv e2
        rw [f1] at g1
        cases g1
        have rk : RelV (kV pk.1) key := by
          rw [g2]
          exact relV_key (show keyIs k key = true from f2)
        exact ⟨by show 2 ≤ sizeLine; decide, [key, x], .cons rk (.cons g3 .nil), ⟨_, f3, rfl, _, rfl⟩⟩
      · by_cases hb2 : b = L
        · rw [hb2] at q ⊢
          rw [eS] at q
          cases q
          refine ⟨by rw [List.length_map]; omega, out.toList, c, by rw [hacc]; exact LiI.vals_refs bs, ?_⟩
          rw [Array.toArray_toList]
          exact hS
        · rw [off b hb hb2] at q
          exact (I.hok b u q).stay (fun d v _ y => hk d v y) (fun d y => kp d _ y) fun d xs y => kp d _ y
end
/-- what is handed back -/
def rSortIt : V → Hp → VK → Prop := fun x H Q => ∃ (a : Addr) (kvs : List (Key × V)) (qs : List (Int × Int)), x = .ref a ∧ Rd H a (.dK kvs) ∧ kvs = qs.map (fun q => (Sum.inl q.1, V.int q.2)) ∧ (qs.map (·.1)).Nodup ∧ qs.length ≤ 1000 ∧
  ∀ (H' : Hp) (l : Addr) (zs : List (Addr × Int × Int)), (∀ b o, H b = some o → H' b = some o) → H l = none → (∀ z ∈ zs, H' z.1 = some (.tup [.int z.2.1, .int z.2.2])) → zs.map (·.2) = qs.mergeSort (fun x y => decide (x.1 ≤ y.1)) → H' l = some (.lst (zs.map fun z => V.ref z.1)) →
    (∀ b o u, H' b = some (.frz o u) → H b = some (.frz o u)) → Q (.ref l) H'
def tSortIt (te : TE) : TE := fun σ H Q => te σ H fun x H1 => rSortIt x H1 Q
theorem zip_fst_snd {α β : Type} : ∀ {as : List α} {qs : List β}, as.length = qs.length → (as.zip qs).map (·.1) = as ∧ (as.zip qs).map (·.2) = qs
  | [], [], _ => ⟨rfl, rfl⟩
  | a :: as, q :: qs, h => by
    obtain ⟨h1, h2⟩ := zip_fst_snd (as := as) (qs := qs) (Nat.succ.inj h)
    exact ⟨by rw [List.zip_cons_cons, List.map_cons, h1], by rw [List.zip_cons_cons, List.map_cons, h2]⟩
theorem each_zip : ∀ (l : List (Addr × Int × Int)), PySem.W.EachIs (fun u z => RelV z.1 u) (l.map fun p => Value.ref p.1) (l.map fun p => (V.ref p.1, p.2))
  | [] => .nil
  | p :: l => .cons rfl (each_zip l)
theorem each_out : ∀ {l : List (Addr × Int × Int)} {us : List Value}, PySem.W.EachIs (fun u z => RelV z.1 u) us (l.map fun p => (V.ref p.1, p.2)) → us = l.map fun p => Value.ref p.1
  | [], _, .nil => rfl
  | p :: l, _, .cons h t => by
    have h : _ = Value.ref p.1 := h
    rw [h, each_out t, List.map_cons]
theorem each_rd {h : Heap} : ∀ {l : List (Addr × Int × Int)}, (∀ p ∈ l, ∃ t1 t2, h.get? p.1 = some { cls := .type "tuple", data := .seq #[Value.int p.2.1 t1, Value.int p.2.2 t2] }) → PySem.W.EachIs (fun v b => ∃ as, Reads h v (encP false b) as ∧ L ∉ as) (l.map fun p => Value.ref p.1) (l.map fun p => (V.ref p.1, p.2))
  | [], _ => .nil
  | p :: l, k => by
    refine .cons ?_ (each_rd fun q hq => k q (List.mem_cons_of_mem _ hq))
    obtain ⟨t1, t2, e⟩ := k p List.mem_cons_self
    exact ⟨_, .tuple e rfl rfl (.cons (.int _ _) (.cons (.int _ _) .nil)), by simp⟩
section
variable {X : Cx} {pins : List (Addr × Obj)} {σ : L2.St} {H : Hp} {s : Shared}
theorem pairs_get {P : Program} {w : World} {knd : KeyKind P w Key} : ∀ {es : List DictEntry} {vs : List (Key × Value)}, Pairs knd es vs → ∀ {j : Nat} {e : DictEntry}, es[j]? = some e → ∃ k x, vs[j]? = some (k, x) ∧ knd.is k e.key = true ∧ e.val = x
  | _, _, .nil, j, e, h => by simp at h
  | _, _, .cons (kv := kv) h1 h2 t, 0, e, h => by
    have : _ = e := Option.some.inj h
    subst this
    exact ⟨kv.1, kv.2, rfl, h1, h2⟩
  | _, _, .cons h1 h2 t, j + 1, e, h => pairs_get t (by simpa using h)
theorem call_sortIt {r d : Addr} {Q : VK} {kvs : List (Key × V)} {vs : List (Key × Value)} {qs : List (Int × Int)} (hc : X.calm = true) (hu : X.A.units + 40 < cLine) (I : Inv X pins σ H s) (hv : s.heap.IsItemsView r d) (hd : s.heap.DictOf (mixKind X.prog X.w) d vs) (kv : KV kvs vs)
    (ek : kvs = qs.map fun q => (Sum.inl q.1, V.int q.2)) (hn : (qs.map (·.1)).Nodup) (hl : qs.length ≤ 1000)
    (q : ∀ (H' : Hp) (l : Addr) (zs : List (Addr × Int × Int)), (∀ b o, H b = some o → H' b = some o) → H l = none → (∀ z ∈ zs, H' z.1 = some (.tup [.int z.2.1, .int z.2.2])) → zs.map (·.2) = qs.mergeSort (fun x y => decide (x.1 ≤ y.1)) → H' l = some (.lst (zs.map fun z => V.ref z.1)) →
      (∀ b o u, H' b = some (.frz o u) → H b = some (.frz o u)) → Q (.ref l) H') : wpAny (model X.prog X.w) X.A (call (.builtin "sorted") [.ref r]) (EP X pins σ Q) X.xe s := by
  obtain ⟨o0, es, ep, ho0, hx0, hdat0, hko0, hps0, hnd0⟩ := hd
  have les : es.size = vs.length := by rw [← hps0.length]; exact Array.length_toList.symm
  have lk : kvs.length = vs.length := Paired.length kv
  have lq : kvs.length = qs.length := by rw [ek, List.length_map]
  have hvz : vs.length ≤ sizeLine := by rw [sizeLine_eq]; omega
  refine PySem.Calls.call_function_entry kind_sorted plain_sorted entry_sorted (args_sorted1 _) ?_
  unfold Builtin.«sorted»
  refine wpAny_bind (m := checkCount "sorted" 1 1 _) (wpAny_pure ?_)
  refine wpAny_bind (DT.collectI (A := X.A.in1) (es := es) (ep := ep) (I.ok.hd hc) hv ⟨o0, ho0, hx0, hdat0⟩ (by rw [les]; exact hvz) fun h' tk as hk hlt hal hG => ?_)
  have hal : as.length = vs.length := hal.trans les
  have hlt : s.heap.objs.size ≤ h'.objs.size := Nat.le_of_lt hlt
  have hGp : ∀ (j : Nat) (a : Addr), as[j]? = some a → ∃ key k x, vs[j]? = some (k, x) ∧ (mixKind X.prog X.w).is k key = true ∧ h'.get? a = some { cls := .type "tuple", data := .seq #[key, x] } := fun j a hj => by
    obtain ⟨e, e1, e2⟩ := hG.pairs j a hj
    obtain ⟨k, x, e3, e4, e5⟩ := pairs_get hps0 (by rw [Array.getElem?_toList]; exact e1)
    exact ⟨e.key, k, x, e3, e4, by rw [e2, e5]⟩
  refine wpAny_bind (wpAny_newList ?_ (by rw [List.length_map, hal]; exact hvz))
  have hob : (h'.push { cls := .type "list", data := .seq (as.map Value.ref).toArray }).get? h'.objs.size = some (seqObj "list" (as.map Value.ref).toArray 0) := Heap.get?_push_size _ rfl
  have kb : ∀ b o, h'.get? b = some o → (h'.push { cls := .type "list", data := .seq (as.map Value.ref).toArray }).get? b = some o := fun b o e => Heap.get?_push_of_some _ e
  have laq : as.length = qs.length := by omega
  obtain ⟨z1, z2⟩ := zip_fst_snd laq
  have hpair : ∀ (j : Nat) (a : Addr), as[j]? = some a → ∃ q, qs[j]? = some q ∧ ∃ t1 t2, h'.get? a = some { cls := .type "tuple", data := .seq #[Value.int q.1 t1, Value.int q.2 t2] } := fun j a hj => by
    obtain ⟨key, k, x, e1, e2, e3⟩ := hGp j a hj
    have hjl : j < kvs.length := by
      have := (List.getElem?_eq_some_iff.mp e1).1
      omega
    obtain ⟨qv, g1, g2, g3⟩ := LiI.paired_get kv (List.getElem?_eq_getElem hjl)
    rw [e1] at g1
    cases g1
    have hq : kvs[j]? = some kvs[j] := List.getElem?_eq_getElem hjl
    generalize kvs[j] = kj at g2 g3 hq
    rw [ek, List.getElem?_map] at hq
    obtain ⟨q, hq2, rfl⟩ := Option.map_eq_some_iff.mp hq
    have rk : RelV (kV (Sum.inl q.1)) key := by
      have g2 : (Sum.inl q.1 : Key) = k := g2
      rw [g2]
      exact relV_key (show keyIs k key = true from e2)
    obtain ⟨t1, rfl⟩ := (show ∃ t, key = Value.int q.1 t from rk)
    obtain ⟨t2, hx⟩ := (show ∃ t, x = Value.int q.2 t from g3)
    subst hx
    exact ⟨q, hq2, t1, t2, e3⟩
  have hmem : ∀ p ∈ as.zip qs, ∃ t1 t2, (h'.push { cls := .type "list", data := .seq (as.map Value.ref).toArray }).get? p.1 = some { cls := .type "tuple", data := .seq #[Value.int p.2.1 t1, Value.int p.2.2 t2] } := fun p hp => by
    obtain ⟨j, hj⟩ := List.mem_iff_getElem?.mp hp
    obtain ⟨h1, h2⟩ := List.getElem?_zip_eq_some.mp hj
    obtain ⟨q, hq, t1, t2, e⟩ := hpair j p.1 h1
    rw [h2] at hq
    cases hq
    exact ⟨t1, t2, kb _ _ e⟩
  have evs : as.map Value.ref = (as.zip qs).map fun p => Value.ref p.1 := by
    have : (as.zip qs).map (fun p => Value.ref p.1) = ((as.zip qs).map (·.1)).map Value.ref := by rw [List.map_map]; rfl
    rw [this, z1]
  have hsort := PySem.W.list_sort_data (prog := X.prog) (w := X.w) (A := X.A.in1) (E := X.xe) (s := { s with heap := h'.push { cls := .type "list", data := .seq (as.map Value.ref).toArray }, toks := tk }) (R := fun u z => RelV z.1 u) (enc := encP false) (vs := (as.zip qs).map fun p => Value.ref p.1) (bs := (as.zip qs).map fun p => (V.ref p.1, p.2)) (a := h'.objs.size) (n := 0)
    (Q := fun _ s' => EP X pins σ Q (.ref h'.objs.size) s') (by rw [← evs]; exact hob) (each_zip _) (each_rd hmem) (PySem.W.AllAlike.of fun _ _ => encP_alike) (PySem.W.Sortable.tuples fun b => ⟨_, _, rfl⟩) (by rw [List.length_map, List.length_zip, sizeLine_eq]; omega) (fun b _ => by
      have e2 : (secE false b.2.2).depth = 0 := by
        unfold secE
        rw [if_neg Bool.false_ne_true, PyData.depth]
      have : (encP false b).depth ≤ 30 := by
        unfold encP
        rw [PyData.depth, PyData.depthAll, PyData.depthAll, PyData.depthAll, PyData.depth, e2]
        decide
      show X.A.units + 1 + 1 + (encP false b).depth < cLine
      omega) fun out ho eo => by
      have hnd2 : (((as.zip qs).map fun p => ((V.ref p.1, p.2) : V × Int × Int)).map (·.2.1)).Nodup := by
        have : ((as.zip qs).map fun p => ((V.ref p.1, p.2) : V × Int × Int)).map (·.2.1) = ((as.zip qs).map (·.2)).map (·.1) := by rw [List.map_map, List.map_map]; rfl
        rw [this, z2]
        exact hn
      rw [sort_first hnd2] at eo
      have em : (((as.zip qs).mergeSort fun x y => decide (x.2.1 ≤ y.2.1)).map fun p => ((V.ref p.1, p.2) : V × Int × Int)) = ((as.zip qs).map fun p => ((V.ref p.1, p.2) : V × Int × Int)).mergeSort fun x y => decide (x.2.1 ≤ y.2.1) := List.map_mergeSort fun _ _ _ _ => rfl
      rw [← em] at eo
      have eout := each_out eo
      generalize hzs : (as.zip qs).mergeSort (fun x y => decide (x.2.1 ≤ y.2.1)) = zs at eout
      have hperm : zs.Perm (as.zip qs) := by rw [← hzs]; exact List.mergeSort_perm _ _
      have hz2 : zs.map (·.2) = qs.mergeSort fun x y => decide (x.1 ≤ y.1) := by
        have : ((as.zip qs).mergeSort fun x y => decide (x.2.1 ≤ y.2.1)).map (·.2) = ((as.zip qs).map (·.2)).mergeSort fun x y => decide (x.1 ≤ y.1) := List.map_mergeSort fun _ _ _ _ => rfl
        rw [← hzs, this, z2]
      subst eout
      obtain ⟨eF, heF⟩ := PyProof.Rows.sortedHeap_at (vs := (as.zip qs).map fun p => Value.ref p.1) (out := List.toArray (zs.map fun p => Value.ref p.1)) (by rw [← evs]; exact hob)
      have ne0 : ∀ b o, h'.get? b = some o → b ≠ h'.objs.size := fun b o e => Nat.ne_of_lt (Heap.lt_size e)
      have kF : ∀ b o, h'.get? b = some o → (sortedHeap (h'.push { cls := .type "list", data := .seq (as.map Value.ref).toArray }) h'.objs.size ((as.zip qs).map fun p => Value.ref p.1) (List.toArray (zs.map fun p => Value.ref p.1))).get? b = some o := fun b o e => (PyProof.Rows.sortedHeap_old (ne0 b o e) (Heap.lt_size (kb b o e))).trans (kb b o e)
      have hLn : h'.objs.size ∉ as := fun z => absurd (hG.there z) (Nat.lt_irrefl _)
      obtain ⟨H', k1, k2, k3, k4, k5, k6, J⟩ := items_sorted (tk := tk) (bs := zs.map (·.1)) (as := as) (L := h'.objs.size) (out := List.toArray (zs.map fun p => Value.ref p.1)) I (by rw [List.length_map, hperm.length_eq, List.length_zip, sizeLine_eq]; omega) kv (fun b o e => kF b o (hk b o e)) hlt hLn heF hal hG.rise hG.above (fun j a hj => by
        obtain ⟨key, k, x, e1, e2, e3⟩ := hGp j a hj
        exact ⟨key, k, x, e1, e2, kF _ _ e3⟩) (by rw [List.map_map]; rfl)
      refine ⟨.ref h'.objs.size, H', J, rfl, q H' _ zs k1 k2 (fun z hz => ?_) hz2 (by rw [k4, List.map_map]; rfl) fun b o u e => ?_⟩
      · obtain ⟨j, hj⟩ := List.mem_iff_getElem?.mp (hperm.mem_iff.mp hz)
        obtain ⟨h1, h2⟩ := List.getElem?_zip_eq_some.mp hj
        obtain ⟨kvj, f1, f2⟩ := LiI.paired_get k5 h1
        rw [ek, List.getElem?_map, h2] at f1
        cases f1
        exact f2
      · rcases k6 b _ e with x | rfl | hb
        · exact x
        · rw [k4] at e
          cases e
        · obtain ⟨j, pk, _, _, e3⟩ := LiI.paired_ix k5 hb
          rw [e3] at e
          cases e
  refine wpAny_bind (wpAny_holding (wpAny_mono hsort (fun _ s' x => ?_) fun _ _ e => e))
  exact wpAny_pure ⟨_, rfl, x⟩
variable {e : Expr} {te : TE} {p apos cpos pos : Pos}
/-- sorted(e.items()) -/
theorem pe_sortIt (hc : X.calm = true) (hu : X.A.units + 40 < cLine) (he : PE X e te) (hg : Gl X "sorted") (hm : X.mg "sorted" = none) (hbase : attributeBase e "items" X.env (eval e X.env) = eval e X.env := by rfl) (hline : (apos.endLine == cpos.line) = true := by rfl) :
    PE X (.Call (.Name "sorted" p) [.Call (.Attribute e "items" apos) [] [] cpos] [] pos) (tSortIt te) := by
  refine ⟨fun pins s σ H Q I hq => ?_⟩
  refine Call_ (ld_blt (u := .builtin "sorted") I hg hm (by decide +kernel) ?_)
  refine PyProof.Rows.callWith_builtin1 (PyProof.Rows.args_cons ?_ rfl) rfl rfl
  refine wpAny_Call_method (T := "dict") (id := "dict.items") hbase rfl hline F.plainAttrs_dict F.slot_dict_items F.type_dict_items (thn (he.run pins s σ H _ I hq) fun u s1 ⟨x, H1, I1, rx, d, kvs, qs, ex, hd, ek, hn, hl, q⟩ => ?_)
  subst ex
  obtain rfl : u = Value.ref d := rx
  obtain ⟨hz, hs0, vs, kv, hdo⟩ := dk_rd I1.hok hd
  have I2 : Inv X pins σ H1 { s1 with heap := s1.heap.push { cls := .type "dict_items", data := .fields #[.ref d] } } := I1.kept (t' := s1.toks) fun b ob q => Heap.get?_push_of_some _ q
  refine ⟨hdo.typeIs, hdo.mapOf.noDict, ?_⟩
  show wpAny _ _ (callWith cpos (.builtin "dict.items") [.ref d] [] []) _ X.xe s1
  refine method_meetsIn F.slot_dict_items F.entry_dict_items rfl (PySem.evalArgs_none ⟨rfl, hdo.typeIs, F.args_dict_items_1 _, _, meets_dict_items (mixKind X.prog X.w) d hs0, ⟨vs, hdo⟩, ?_⟩)
  refine PyProof.Rows.args_nil ?_
  exact call_sortIt hc hu I2 ⟨_, Heap.get?_push_size _ rfl, rfl, rfl⟩ (hdo.push _) kv ek hn hl q
end
theorem itemsI_at {K : PySem.W.Frag} {H : Hp} : ∀ {kds : List (Key × VL.D)} {kvs : List (Key × V)} {qs : List (Int × Int)}, DtK K H kvs kds → itemsI kds = some qs → kvs = qs.map fun q => (Sum.inl q.1, V.int q.2)
  | [], _, _, .nil, h => by cases h; rfl
  | (.inl k, .int n) :: r, _, qs, .cons a b, h => by
    obtain ⟨ms, e, rfl⟩ := Option.map_eq_some_iff.mp (show (itemsI r).map ((k, n) :: ·) = some qs from h)
    cases a
    rw [List.map_cons, itemsI_at b e]
  | (.inl k, .non) :: r, _, qs, _, h => by cases h
  | (.inl k, .bl _) :: r, _, qs, _, h => by cases h
  | (.inl k, .str _) :: r, _, qs, _, h => by cases h
  | (.inl k, .lst _) :: r, _, qs, _, h => by cases h
  | (.inl k, .tup _) :: r, _, qs, _, h => by cases h
  | (.inl k, .dct _) :: r, _, qs, _, h => by cases h
  | (.inl k, .obj _ _) :: r, _, qs, _, h => by cases h
  | (.inr k, _) :: r, _, qs, _, h => by cases h
section
variable {X : Cx} {C : Ct} {a : Expr} {fa : EF} {p apos cpos pos : Pos}
/-- sorted(e.items()) -/
theorem ve_sortIt (hm : X.mg "sorted" = none) (hu : X.A.units + 64 < cLine) (ha : VE X C .im a fa) (hg : Gl X "sorted" := by rfl) (hc : X.calm = true := by rfl) (hbase : attributeBase a "items" X.env (eval a X.env) = eval a X.env := by rfl) (hline : (apos.endLine == cpos.line) = true := by rfl) :
    VE X C (.ow .im) (.Call (.Name "sorted" p) [.Call (.Attribute a "items" apos) [] [] cpos] [] pos) (eOp1 sortedID fa) :=
  PE.mono (pe_sortIt hc (by omega) ha hg hm hbase hline) fun σ H Q ⟨Hm, F, ρ, r, q⟩ => by
    refine ⟨Hm, F, ρ, r, q.bind.imp fun p hq v Hm1 H1 F1 g1 s1 r1 x1 => ?_⟩
    obtain ⟨z, ez, hz⟩ := hq.bind.of
    have hx : Dt X.K H1 v p.1 := Dt.mono r1.sub _ x1.of_im
    generalize p.1 = d at ez hx
    cases hx with
    | @dct b kvs kds h1 h2 =>
      have ez : ((itemsI kds).bind fun qs => if (qs.map (·.1)).Nodup ∧ qs.length ≤ 1000 then some (D.lst ((qs.mergeSort fun x y => decide (x.1 ≤ y.1)).map fun q => D.tup [.int q.1, .int q.2])) else none) = some z := ez
      obtain ⟨qs, e, ez⟩ := Option.bind_eq_some_iff.mp ez
      split at ez
      · rename_i hcnd
        cases ez
        refine ⟨b, kvs, qs, rfl, h1, itemsI_at h2 e, hcnd.1, hcnd.2, fun H' l zs k1 k2 k3 k4 k5 k6 => ?_⟩
        have g := more_grow r1.sub k1 k6
        have htup : ∀ z ∈ zs, more Hm1 H1 H' z.1 = some (.tup [.int z.2.1, .int z.2.2]) := fun z hz => by
          rcases g.t _ _ (k3 z hz) with h | h
          · exact g.g _ _ (r1.tp _ _ h)
          · exact h
        have hds : DtA X.K (more Hm1 H1 H') (zs.map fun z => V.ref z.1) ((qs.mergeSort fun x y => decide (x.1 ≤ y.1)).map fun q => D.tup [.int q.1, .int q.2]) := by
          rw [← k4, List.map_map]
          clear k4 k5 k3
          induction zs with
          | nil => exact .nil
          | cons z zs ih => exact .cons (.tup (.inl (.inl (htup z List.mem_cons_self))) (.cons (.int _) (.cons (.int _) .nil))) (ih fun y hy => htup y (List.mem_cons_of_mem _ hy))
        refine endE hz s1 r1 g ⟨⟨l, rfl, .inl ⟨zs.map fun z => V.ref z.1, _, [], rfl, k5, im_all hds, rfl⟩⟩, by simp, fun a ha => ?_, fun a ha => ?_⟩
        · rw [List.mem_singleton.mp ha]
          exact more_none (Same.none r1.sub k2) fun xs' e => by rw [k5] at e; cases e
        · rw [List.mem_singleton.mp ha]
          exact k2
      · cases ez
    | _ => cases ez
end
/-! ### d != {} -/
def rNeD0 : R2 := fun x y H Q => ∃ (a b : Addr) (kvs : List (Key × V)), x = .ref a ∧ y = .ref b ∧ Rd H a (.dK kvs) ∧ Rd H b (.dK []) ∧ Q (.bl (!kvs.isEmpty)) H
theorem op_neD0 {X : Cx} (hu : X.A.units + 64 < cLine) : OpR X (compareOp .NotEq) rNeD0 := by
  intro pins s σ H x y v u Q I rx ry h
  obtain ⟨a, b, kvs, rfl, rfl, ha, hb, q⟩ := h
  obtain rfl : v = Value.ref a := rx
  obtain rfl : u = Value.ref b := ry
  obtain ⟨z1, lo1, vs1, rel1, dd1⟩ := dk_rd I.hok ha
  obtain ⟨z2, lo2, vs2, rel2, dd2⟩ := dk_rd I.hok hb
  cases rel2
  have e : (!(vs1.length == ([] : List (Key × Value)).length && true)) = !kvs.isEmpty := by
    have := Paired.length rel1
    cases kvs with
    | nil =>
      cases vs1 with
      | nil => rfl
      | cons _ _ => simp at this
    | cons _ _ =>
      cases vs1 with
      | nil => simp at this
      | cons _ _ => rfl
  refine PySem.W.keq_ne lo1 lo2 dd1 dd2 (by omega) (r := true) (fun h => ?_) ?_
  · cases vs1 with
    | nil => exact .nil
    | cons _ _ => simp at h
  · rw [e]
    exact ⟨.bl _, H, I, rfl, q⟩
theorem prim_neD0 {K : PySem.W.Frag} : Prim2 K rNeD0 neDct0 .im := by
  intro G H x y d e z Q s hx hy hz q
  cases hx with
  | @dct a kvs kds h1 h2 =>
    cases hy with
    | @dct b kvs2 kds2 h3 h4 =>
      cases h4 with
      | nil =>
        cases hz
        have : kvs.isEmpty = kds.isEmpty := by cases h2 <;> rfl
        refine ⟨a, b, kvs, rfl, rfl, Same.rd s h1, Same.rd s h3, ?_⟩
        rw [this]
        exact q _ _ _ _ (Grow.refl s) (Res.im (.bl _))
      | cons _ _ => cases hz
    | _ => cases hz
  | _ => cases hz
end VL

set_option Elab.async false
set_option linter.all false
set_option maxRecDepth 100000
set_option maxHeartbeats 4000000
/-! V42: an item of an own list is handed back. -/
namespace VL
open PySem PySem.Spec PyProof.Rows L2
section
variable {X : Cx} {C : Ct} {rm : Md} {b : Expr} {fb : EF} {x : PySem.Str} {i : Nat} {p p2 pos : Pos}
theorem vs_retIx (hb : VE X C .im b fb) (hs : PlainIx b := by exact fun _ _ => rfl) (hm : C.Γ[i]? = some (.ow rm) := by rfl) (hR : i ∉ C.R := by exact notIn_of rfl) (hN : X.N[i]? = some x := by rfl) (hv : Vis X.env.scope x := by first | exact Or.inl rfl | exact Or.inr (Or.inl rfl) | exact Or.inr (Or.inr rfl))
    (hd : (x == ("__debug__" : Str)) = false := by decide) (hcd : (x == ("__classdict__" : Str)) = false := by decide) : VS X C rm (.Return (some (.Subscript (.Name x p) b p2)) pos) (sRetIx i fb) := by
  refine PS.mono (ps_ret (pe_ix ix_list (pe_var hN hv hd hcd) hb hs)) fun D σ H ⟨Hm, F, ρ, r, q⟩ => ?_
  unfold sRetIx at q
  split at q
  rotate_left
  · exact q.elim
  rename_i ds0 e0
  obtain ⟨a, xs0, g0, h1, _⟩ := r.own e0 hm
  refine ⟨.ref a, h1, Hm, F, ρ, r, q.bind.imp fun pr hq w Hm2 H2 F2 g2 s2 r2 x2 => ?_⟩
  obtain ⟨d, ρ2⟩ := pr
  have hq : fin X.K C Hm H F (match ρ2[i]? with
    | some (some (.lst ds)) => Rs.of (ixGet (.lst ds) d) >>= fun z => Rs.ok (Fl.ret z, ρ2)
    | _ => .bad) _ := hq
  split at hq
  rotate_left
  · exact hq.elim
  rename_i ds e2
  obtain ⟨a', xs, g, h3, h4, hall, hF, hag⟩ := r2.own e2 hm
  rw [h1] at h3
  cases h3
  obtain ⟨z, ez, hz⟩ := hq.bind.of
  have x3 := x2.of_im
  cases d with
  | int k =>
    cases x3
    have ez : (ixD ds.length k).bind (fun j => ds[j]?) = some z := ez
    obtain ⟨j, e1, e3⟩ := Option.bind_eq_some_iff.mp ez
    obtain ⟨u, f1, fx, f2, k1, k2, k3, _⟩ := hall.at e3
    refine ⟨a, xs, k, u, rfl, rfl, .of h4, atI_of (by rw [hall.length]; exact e1) k1, ?_⟩
    have sub : ∀ c ∈ fx, c ∈ F2 i := fun c hc => by
      rw [hF, k3]
      exact List.mem_cons_of_mem _ (List.mem_append_right _ (List.mem_append_left _ hc))
    have nd : fx.Nodup := by
      have := r2.nd i
      rw [hF] at this
      have := (List.nodup_cons.mp this).2
      rw [k3] at this
      exact (List.nodup_append.mp (List.nodup_append.mp this).2.1).1
    refine hz u Hm2 H2 F2 σ fx s2 r2 ⟨k2, nd, fun c hc => r2.un i c (sub c hc), fun c hc j hj => ?_, fun c hc => ?_⟩
    · split at hj
      · rename_i hjR
        have := r2.dj i j c (sub c hc) hj
        subst this
        exact hR hjR
      · cases hj
    · rcases r2.ow i c (sub c hc) with z | z
      · exact absurd z hR
      · exact z
  | _ => cases ez
end
theorem nn_retIx {i : Nat} {f : EF} : NoNx (sRetIx i f) := fun ρ ρ' h => by
  unfold sRetIx at h
  split at h
  · obtain ⟨p, h1, h2⟩ := Rs.bind_ok h
    split at h2
    · obtain ⟨z, h3, h4⟩ := Rs.bind_ok h2
      cases h4
    · cases h2
  · cases h
end VL

set_option Elab.async false
set_option linter.all false
set_option maxRecDepth 100000
set_option maxHeartbeats 4000000
/-! V43: exceptions as values: C(e), isinstance, fields. -/
namespace VL
open PySem PySem.Spec PyProof.Rows L2
/-- what ExcK asks, to be seen in the kernel -/
def excB (K : PySem.W.Frag) (c : Str) : Bool :=
  decide (PySem.W.findIn K (.ref (He.ga K c)) "__getattribute__" = some (some (.builtin "BaseException.__getattribute__"))) && (decide (PySem.W.findIn K (.ref (He.ga K c)) "__getattr__" = some none) &&
  (decide (PySem.W.subIn K (.ref (He.ga K c)) (.type "BaseException") = some true) && (PySem.W.hasDictIn K (He.ga K c) &&
  (decide (PySem.W.findIn K (.ref (He.ga K c)) "__class__" = some (some (.builtin "object.__class__"))) && (decide (PySem.W.specialIn K (.builtin "object.__class__") "__get__" = some (some (.builtin "getset_descriptor.__get__"))) &&
  (decide (PySem.W.takesIn K (.builtin "object.__class__") = some true) && (decide (PySem.W.mroIn K (He.ga K c) (.type "object") = some true) &&
  ((["int", "bool", "str", "list", "tuple"].all fun T => decide (PySem.W.kitOne K (.ref (He.ga K c)) (.type T) = some false)) && decide (objF c = [])))))))))
theorem excB_ok {K : PySem.W.Frag} {c : Str} (h : excB K c = true) : ExcK K c := by
  obtain ⟨h1, h⟩ := He.ba h
  obtain ⟨h2, h⟩ := He.ba h
  obtain ⟨h3, h⟩ := He.ba h
  obtain ⟨h4, h⟩ := He.ba h
  obtain ⟨h5, h⟩ := He.ba h
  obtain ⟨h6, h⟩ := He.ba h
  obtain ⟨h7, h⟩ := He.ba h
  obtain ⟨h8, h⟩ := He.ba h
  obtain ⟨h9, h10⟩ := He.ba h
  exact ⟨⟨of_decide_eq_true h1, of_decide_eq_true h2, of_decide_eq_true h3, h4, of_decide_eq_true h5, of_decide_eq_true h6, of_decide_eq_true h7, of_decide_eq_true h8⟩, fun T hT => of_decide_eq_true (List.all_eq_true.mp h9 T hT), of_decide_eq_true h10⟩
/-- a class whose __init__ is its own -/
def oexB (K : PySem.W.Frag) (C : Addr) : Bool := (match K.lookup C with
  | some ⟨.type "type", _, .cls cd, sl⟩ => (match cd.mro, sl.toList with
    | .ref C' :: bm, [_, _, _, _, some (.builtin n), _] => C' == C && n == "ValueError.__new__" && !cd.hasDel && cd.hasDict && PySem.HandSPX.refsVE bm
    | _, _ => false)
  | _ => false) && (decide (PySem.W.findIn K (.ref C) "__setattr__" = some (some (.builtin "object.__setattr__"))) && (decide (PySem.W.subIn K (.ref C) (.type "BaseException") = some true) && (decide (PySem.W.typeIn K (.ref C) = some (.type "type")) && PySem.W.keepIn K (.ref C))))
theorem oexB_ok {K : PySem.W.Frag} {C : Addr} (h : oexB K C = true) : OexC K C := by
  obtain ⟨q, h⟩ := He.ba h
  obtain ⟨h2, h⟩ := He.ba h
  obtain ⟨h3, h⟩ := He.ba h
  obtain ⟨h4, h5⟩ := He.ba h
  refine ⟨?_, of_decide_eq_true h2, of_decide_eq_true h3, of_decide_eq_true h4, h5⟩
  split at q
  · rename_i dd cd sl ho
    split at q
    · rename_i C' bm k0 k1 k2 k3 n k5 hm hs
      simp only [Bool.and_eq_true, beq_iff_eq, Bool.not_eq_true'] at q
      obtain ⟨⟨⟨⟨rfl, rfl⟩, hdel⟩, hd⟩, hr⟩ := q
      obtain ⟨nm, bs, mro, ns, qn, hdc, sn, sub, ab, col, del⟩ := cd
      dsimp only at hm hdel hd
      subst hm hdel hd
      have hsl : sl = #[k0, k1, k2, k3, some (.builtin "ValueError.__new__"), k5] := by
        obtain ⟨l⟩ := sl
        simp only at hs
        rw [hs]
      subst hsl
      exact ⟨nm, qn, ns, bs, bm, sn, sub, ab, col, dd, k0, k1, k2, k3, k5, ho, hr⟩
    · cases q
  · cases q
theorem exO_frz {v : Value} {a : Addr} {o : Obj} {u : HO} : ExO v a ≠ .frz o u := fun z => by
  have z' : HO.ext _ = HO.frz o u := z
  cases z'
theorem exd_frz {e : Addr} {fs : List (Str × V)} {o : Obj} {u : HO} : exd e fs ≠ .frz o u := fun z => by
  have z' : HO.ext _ = HO.frz o u := z
  cases z'
/-- c, an own exception class without __init__ -/
structure Xm (K : PySem.W.Frag) (mg : Str → Option Value) (c : Str) : Prop where
  gl : mg c = some (.ref (He.ga K c))
  ex : PySem.W.excIn K (He.ga K c) He.veBase "ValueError.__new__" = true
  kp : PySem.W.keepIn K (.ref (He.ga K c)) = true
  k : ExcK K c
/-- c.__init__(self, y): keeps y in the field fd -/
def spX (K : PySem.W.Frag) (D : Addr) (fd : Str) : Sp := fun vs H Q _ => ∃ a y, vs = [.ref a, y] ∧ H a = some (exo a D none) ∧ ∀ dx, H dx = none → dx ≠ a → Q .non (upd (upd H dx (exd dx [(fd, y)])) a (exo a D (some dx)))
/-- c, an own exception class with such an __init__ -/
def Xf (P : Program) (w : World) (K : PySem.W.Frag) (mg : Str → Option Value) (base : Heap) (k : Nat) (c fd par : Str) : Prop :=
  ∃ (fa : Addr) (fn : FuncData) (ps : List Str), FnG P w K mg base k fa fn ps (spX K (He.ga K c) fd) ∧ OexC K (He.ga K c) ∧ PySem.W.findIn K (.ref (He.ga K c)) "__init__" = some (some (.ref fa)) ∧ PySem.W.typeIn K (.ref fa) = some (.type "function") ∧
    mg c = some (.ref (He.ga K c)) ∧ Binds K fn ps [] ∧ KwOk K fn ps [par] 1 [0, 1] ∧ ExcK K c
section
variable {X : Cx} {C : Ct} {c fd par : Str} {e : Expr} {f : EF} {pos p : Pos} {k j : Nat}
theorem ve_mkX (x : Xm X.K X.mg c) (h : VE X C .im e f) (hg : Gl X c := by rfl) (hs : starEach [e] X.env = (false, eval e X.env) :: starEach [] X.env := by rfl) (hdb : (c == ("__debug__" : Str)) = false := by decide) : VE X C .im (.Call (.Name c p) [e] [] pos) (eMkX c f) := by
  refine PE.mono (pe_exc1 PySem.F.excBase_ValueError x.ex x.gl x.kp hg h hs hdb) fun σ H Q ⟨Hm, F, ρ, r, q⟩ => ⟨Hm, F, ρ, r, q.bind.imp fun p hq v Hm1 H1 F1 g1 s1 r1 x1 => ?_⟩
  intro a ha
  obtain ⟨z, ez, hz⟩ := hq.bind.of
  cases ez
  obtain ⟨r2, s2⟩ := r1.grow (Grow.one (o := ExO (.ref (He.ga X.K c)) a) r1.sub ha fun _ _ => exO_frz)
  exact hz (.ref a) _ _ F1 [] (s1.trans s2) r2 (Val.im (.exc x.k upd_same))
theorem ve_isX {L : List (Str × Bool)} {T : Expr} {cT : V} {uT : Value} (h : VE X C .im e f) (hT : PE X T (tC cT)) (hc : ClsV cT uT) (hL : ∀ c b, L.lookup c = some b → ExcK X.K c ∧ PySem.W.kitOne X.K (.ref (He.ga X.K c)) uT = some b) (hm : X.mg "isinstance" = none) (hg : Gl X "isinstance" := by rfl)
    (he : starEach [e, T] X.env = (false, eval e X.env) :: starEach [T] X.env := by rfl) (hs2 : starEach [T] X.env = (false, eval T X.env) :: starEach [] X.env := by rfl)
    (hpl : (backTo pos (starEach [T] X.env)).any (·.1) = false := by rfl) : VE X C .im (.Call (.Name "isinstance" p) [e, T] [] pos) (eIsX L f) := by
  refine PE.mono (pe_callB call_isiZ hg hm (by decide +kernel) (pa_cons h (pa_cons hT pa_nil hs2) he) (by decide) (by decide) he hpl) fun σ H Q ⟨Hm, F, ρ, r, q⟩ => ?_
  refine ⟨Hm, F, ρ, r, q.bind.imp fun p hq v Hm1 H1 F1 g1 s1 r1 x1 => ?_⟩
  obtain ⟨z, ez, hz⟩ := hq.bind.of
  obtain ⟨d, ρ'⟩ := p
  cases d with
  | obj c kds =>
    have ez : (L.lookup c).map D.bl = some z := ez
    cases el : L.lookup c with
    | none => rw [el] at ez; cases ez
    | some b =>
      rw [el] at ez
      cases ez
      obtain ⟨h1, h2⟩ := hL c b el
      exact ⟨v, cT, _, uT, b, rfl, hc, ty_dt (Dt.mono r1.sub _ x1.of_im), h2, hz (.bl b) Hm1 H1 F1 [] s1 r1 (Val.im (.bl b))⟩
  | _ => cases ez
theorem ve_fldX (T : XfC X.K (He.ga X.K c)) (hno : PySem.W.findIn X.K (.ref (He.ga X.K c)) fd = some none) (hx : ExcK X.K c) (h : VE X C .im e f) (hb : attributeBase e fd X.env (eval e X.env) = eval e X.env := by rfl) : VE X C .im (.Attribute e fd pos) (eFldX c fd f) := by
  refine PE.mono (pe_xfo T hno h hb) fun σ H Q ⟨Hm, F, ρ, r, q⟩ => ⟨Hm, F, ρ, r, q.bind.imp fun p hq v Hm1 H1 F1 g1 s1 r1 x1 => ?_⟩
  obtain ⟨z, ez, hz⟩ := hq.bind.of
  obtain ⟨d, ρ'⟩ := p
  have x2 := x1.of_im
  cases x2 with
  | @exf a dx fs c' kds o ha hd hk =>
    have ez2 : (if c' = c then fldO fd kds else none) = some z := ez
    by_cases hc : c' = c
    · rw [if_pos hc] at ez2
      subst hc
      obtain ⟨w, h1, h2⟩ := hk.fld ez2
      exact ⟨a, dx, fs, w, rfl, r1.sub _ _ ha, r1.sub _ _ hd, h1, hz w Hm1 H1 F1 [] s1 r1 (Val.im h2)⟩
    · rw [if_neg hc] at ez2; cases ez2
  | @exc a c' o ha =>
    have ez : (if c' = c then fldO fd [] else none) = some z := ez
    by_cases hc : c' = c
    · rw [if_pos hc] at ez; cases ez
    · rw [if_neg hc] at ez; cases ez
  | @obj a dx fs c' kds o ha hk =>
    have ez : (if c' = c then fldO fd kds else none) = some z := ez
    by_cases hc : c' = c
    · subst hc; exact (hx.no o).elim
    · rw [if_neg hc] at ez; cases ez
  | _ => cases ez
/-- c(..): the new exception, __init__ as it is promised -/
theorem run_mkF {pins : List (Addr × Obj)} {σ : L2.St} {H : Hp} {s : Shared} {Q : VK} {us : List Value} {kw : List (Str × Value)} {y : V} {u : Value} {fa : Addr} {fn : FuncData} {ps : List Str} {D : Addr}
    (F1 : FnG X.prog X.w X.K X.mg X.base k fa fn ps (spX X.K D fd)) (T : OexC X.K D) (iC : PySem.W.findIn X.K (.ref D) "__init__" = some (some (.ref fa))) (tI : PySem.W.typeIn X.K (.ref fa) = some (.type "function")) (hr : RoomG (k + 1) X.A)
    (hus : us.length ≤ sizeLine) (hbs : ∀ (s : Shared) (a : Addr), X.K.In s.heap → BindsTo s fn ⟨.ref a :: us, kw⟩ (ps.zip [.ref a, u])) (ry : RelV y u) (I : Inv X pins σ H s)
    (h : ∀ a dx, H a = none → H dx = none → dx ≠ a → Q (.ref a) (upd (upd H dx (exd dx [(fd, y)])) a (exo a D (some dx)))) :
    wpAny (model X.prog X.w) X.A (call (.ref D) us kw) (EP X pins σ Q) X.xe s := by
  obtain ⟨nm, q, N, bs, bm, sn, sub, ab, col, dd, k0, k1, k2, k3, k5, hC, hbm⟩ := T.cls
  obtain ⟨hp, g, dr, tk, os⟩ := s
  have hsz : hp.objs.size ≤ hp.objs.size + 1 := Nat.le_succ _
  have hn : H (hp.objs.size + 1) = none := I.hok.fresh hsz
  have kk : ∀ b o, hp.get? b = some o → ((hp.push (PySem.W.kdv_tup us)).push (PySem.HandSPX.excO D hp.objs.size)).get? b = some o := fun b o e => Heap.get?_push_of_some _ (Heap.get?_push_of_some _ e)
  have hget : ((hp.push (PySem.W.kdv_tup us)).push (PySem.HandSPX.excO D hp.objs.size)).get? (hp.objs.size + 1) = some (PySem.HandSPX.excO D hp.objs.size) := by heap_get
  have I2 : Inv X pins σ (upd H (hp.objs.size + 1) (exo (hp.objs.size + 1) D none)) ⟨(hp.push (PySem.W.kdv_tup us)).push (PySem.HandSPX.excO D hp.objs.size), g, dr, tk, os⟩ :=
    I.laid (t' := tk) (a := hp.objs.size + 1) (o := exo (hp.objs.size + 1) D none) (h' := (hp.push (PySem.W.kdv_tup us)).push (PySem.HandSPX.excO D hp.objs.size)) kk hsz (exo_ok hget)
  have r2 : Vals [V.ref (hp.objs.size + 1), y] [Value.ref (hp.objs.size + 1), u] := .cons rfl (.cons ry .nil)
  have hq : spX X.K D fd [V.ref (hp.objs.size + 1), y] (upd H (hp.objs.size + 1) (exo (hp.objs.size + 1) D none)) (fun v H2 => v = .non ∧ Q (.ref (hp.objs.size + 1)) H2) E0 := by
    refine ⟨_, y, rfl, upd_same, fun dx hdx ne => ⟨rfl, ?_⟩⟩
    rw [upd_ne ne] at hdx
    have := h (hp.objs.size + 1) dx hn hdx ne
    have eq : upd (upd (upd H (hp.objs.size + 1) (exo (hp.objs.size + 1) D none)) dx (exd dx [(fd, y)])) (hp.objs.size + 1) (exo (hp.objs.size + 1) D (some dx)) = upd (upd H dx (exd dx [(fd, y)])) (hp.objs.size + 1) (exo (hp.objs.size + 1) D (some dx)) := by
      funext b
      by_cases hb : b = hp.objs.size + 1
      · subst hb; rw [upd_same, upd_same]
      · rw [upd_ne hb, upd_ne hb]
        by_cases hd : b = dx
        · subst hd; rw [upd_same, upd_same]
        · rw [upd_ne hd, upd_ne hd, upd_ne hb]
    rw [eq]
    exact this
  refine wpAny_call (PySem.HandSPX.call_ownK PySem.F.excBase_ValueError (fun Y => PySem.HandSPX.refsVE_contains Y bm hbm) (I.kIn _ _ hC) (PySem.W.looks_findIn I.kIn iC) (fun self => PySem.W.bind_fn I.kIn self tI) hus
    (codeAny_mono (F1.go _ X.stack _ _ ⟨Value.ref (hp.objs.size + 1) :: us, kw⟩ [Value.ref (hp.objs.size + 1), u] _ _ E0 (hr.make D us kw) (I2.env0.make D us kw) (hbs _ _ I2.kIn) r2 hq) fun r s' hq' => ?_))
  cases r with
  | error er => exact pass0 pins σ _ _ er s' I2 hq'
  | ok fl =>
    cases fl with
    | ret u =>
      obtain ⟨v, H', I3, rv, ev, q3⟩ := I2.after hq'
      subst ev
      exact ⟨rv, ⟨V.ref (hp.objs.size + 1), H', I3, rfl, q3⟩⟩
    | next => exact False.elim hq'
    | brk => exact False.elim hq'
    | cont => exact False.elim hq'
/-- what is laid for such an exception -/
theorem mkF_rel {K : PySem.W.Frag} {Hm H : Hp} {F : Fps} {σ : L2.St} {ρ : En} {y : V} {d : D} {a dx : Addr} (x : ExcK K c) (r : Rel K C Hm H F σ ρ) (hd : Dt K Hm y d) (ha : H a = none) (hdx : H dx = none) (ne : dx ≠ a) :
    ∃ Hm', Rel K C Hm' (upd (upd H dx (exd dx [(fd, y)])) a (exo a (He.ga K c) (some dx))) F σ ρ ∧ Step Hm H F Hm' (upd (upd H dx (exd dx [(fd, y)])) a (exo a (He.ga K c) (some dx))) F ∧ Dt K Hm' (.ref a) (.obj c [(.inr fd, d)]) := by
  obtain ⟨r1, s1⟩ := r.grow (Grow.one (o := exd dx [(fd, y)]) r.sub hdx fun _ _ => exd_frz)
  have ha1 : (upd H dx (exd dx [(fd, y)])) a = none := by rw [upd_ne (Ne.symm ne)]; exact ha
  obtain ⟨r2, s2⟩ := r1.grow (Grow.one (o := exo a (He.ga K c) (some dx)) r1.sub ha1 fun _ _ => exo_frz)
  refine ⟨_, r2, s1.trans s2, .exf (dx := dx) (fs := [(fd, y)]) x upd_same ?_ (.cons (Dt.mono (s1.trans s2).sm _ hd) .nil)⟩
  rw [upd_ne ne, upd_same]
theorem ve_mkF (M : Xf X.prog X.w X.K X.mg X.base k c fd par) (hr : RoomG j X.A) (hk : k + 1 ≤ j) (h : VE X C .im e f) (hg : Gl X c := by rfl) (he : starEach [e] X.env = (false, eval e X.env) :: starEach [] X.env := by rfl) (hdb : (c == ("__debug__" : Str)) = false := by decide)
    (hpl : (backTo pos (starEach [] X.env)).any (·.1) = false := by rfl) : VE X C .im (.Call (.Name c p) [e] [] pos) (eMkF c fd f) := by
  obtain ⟨fa, fn, ps, F1, T, iC, tI, hm, hb, _, hx⟩ := M
  have hps : ps.length = 2 := (F1.ar [.ref 1, .non] (upd (fun _ => none) 1 (exo 1 (He.ga X.K c) none)) (fun _ _ => True) E0 ⟨1, .non, rfl, upd_same, fun _ _ _ => trivial⟩).symm
  have base : PE X (.Call (.Name c p) [e] [] pos) (fun σ H Q => tE X.K C .im f σ H fun y H1 => ∀ a dx, H1 a = none → H1 dx = none → dx ≠ a → Q (.ref a) (upd (upd H1 dx (exd dx [(fd, y)])) a (exo a (He.ga X.K c) (some dx)))) := by
    refine ⟨fun pins s σ H Q I hh => ?_⟩
    refine wpAny_Call_Name_kw (ld_glob I hg hm ?_ hdb)
    refine PySem.W.callWith_K (h₀ := X.base) I.ok.mod.kin T.kC (thn ((pa_cons h pa_nil he).run pos pins s σ H (fun vs H1 => ∃ y, vs = [y] ∧ ∀ a dx, H1 a = none → H1 dx = none → dx ≠ a → Q (.ref a) (upd (upd H1 dx (exd dx [(fd, y)])) a (exo a (He.ga X.K c) (some dx)))) I ?_) fun us s1 ⟨vs, H1, I1, r1, y, ev, q⟩ => ⟨I1.kIn, ?_⟩) he hpl
    · obtain ⟨Hm, F, ρ, r, q⟩ := hh
      exact ⟨Hm, F, ρ, r, q.imp fun p hp v Hm' H' F' g s' r' x' => ⟨v, rfl, hp v Hm' H' F' g s' r' x'⟩⟩
    · subst ev
      cases r1 with
      | @cons _ u _ us' ry rn =>
        cases rn
        refine run_mkF F1 T iC tI (hr.mono hk) (by rw [sizeLine_eq]; simp) (fun s a X0 => ?_) ry I1 q
        have := hb s [.ref a, u] X0 (by rw [List.append_nil]; exact hps.symm)
        rw [List.append_nil] at this
        exact this
  refine PE.mono base fun σ H Q ⟨Hm, F, ρ, r, q⟩ => ⟨Hm, F, ρ, r, q.bind.imp fun p hq v Hm1 H1 F1 g1 s1 r1 x1 => ?_⟩
  intro a dx ha hdx ne
  obtain ⟨z, ez, hz⟩ := hq.bind.of
  cases ez
  obtain ⟨Hm2, r2, s2, hd⟩ := mkF_rel (fd := fd) hx r1 x1.of_im ha hdx ne
  exact hz (.ref a) _ _ F1 [] (s1.trans s2) r2 (Val.im hd)
theorem ve_mkFk {kp : Pos} (M : Xf X.prog X.w X.K X.mg X.base k c fd par) (hr : RoomG j X.A) (hk : k + 1 ≤ j) (h : VE X C .im e f) (hg : Gl X c := by rfl) (hdb : (c == ("__debug__" : Str)) = false := by decide)
    (hall : (backToKw pos (keywordEach [⟨some par, e, kp⟩] X.env)).all (·.1.isSome) = true := by rfl) (hks : (backToKw pos (keywordEach [⟨some par, e, kp⟩] X.env)).filterMap (·.1) = [par] := by rfl)
    (hpl : ((backTo pos (starEach [] X.env)).any (·.1) || (backToKw pos (keywordEach [⟨some par, e, kp⟩] X.env)).any (·.1.isNone)) = false := by rfl) : VE X C .im (.Call (.Name c p) [] [⟨some par, e, kp⟩] pos) (eMkF c fd f) := by
  obtain ⟨fa, fn, ps, F1, T, iC, tI, hm, _, hb, hx⟩ := M
  have hps : ps.length = 2 := (F1.ar [.ref 1, .non] (upd (fun _ => none) 1 (exo 1 (He.ga X.K c) none)) (fun _ _ => True) E0 ⟨1, .non, rfl, upd_same, fun _ _ _ => trivial⟩).symm
  have base : PE X (.Call (.Name c p) [] [⟨some par, e, kp⟩] pos) (fun σ H Q => tE X.K C .im f σ H fun y H1 => ∀ a dx, H1 a = none → H1 dx = none → dx ≠ a → Q (.ref a) (upd (upd H1 dx (exd dx [(fd, y)])) a (exo a (He.ga X.K c) (some dx)))) := by
    refine ⟨fun pins s σ H Q I hh => ?_⟩
    refine wpAny_Call_Name_kw (ld_glob I hg hm ?_ hdb)
    refine PySem.W.callWith_KW0 (h₀ := X.base) I.ok.mod.kin T.kC hall (thn ((pk_cons h pk_nil).run pos pins s σ H (fun vs H1 => ∃ y, vs = [y] ∧ ∀ a dx, H1 a = none → H1 dx = none → dx ≠ a → Q (.ref a) (upd (upd H1 dx (exd dx [(fd, y)])) a (exo a (He.ga X.K c) (some dx)))) I ?_) fun us s1 ⟨vs, H1, I1, r1, y, ev, q⟩ => ⟨I1.kIn, ?_⟩) hpl
    · obtain ⟨Hm, F, ρ, r, q⟩ := hh
      exact ⟨Hm, F, ρ, r, q.imp fun p hp v Hm' H' F' g s' r' x' => ⟨v, rfl, hp v Hm' H' F' g s' r' x'⟩⟩
    · subst ev
      cases r1 with
      | @cons _ u _ us' ry rn =>
        cases rn
        rw [hks]
        refine run_mkF F1 T iC tI (hr.mono hk) (by rw [sizeLine_eq]; simp) (fun s a X0 => ?_) ry I1 q
        exact hb s [.ref a] [u] [.ref a, u] X0 rfl rfl rfl hps.symm
  refine PE.mono base fun σ H Q ⟨Hm, F, ρ, r, q⟩ => ⟨Hm, F, ρ, r, q.bind.imp fun p hq v Hm1 H1 F1 g1 s1 r1 x1 => ?_⟩
  intro a dx ha hdx ne
  obtain ⟨z, ez, hz⟩ := hq.bind.of
  cases ez
  obtain ⟨Hm2, r2, s2, hd⟩ := mkF_rel (fd := fd) hx r1 x1.of_im ha hdx ne
  exact hz (.ref a) _ _ F1 [] (s1.trans s2) r2 (Val.im hd)
end
/-- what a law with such values leans on -/
structure XAll (K : PySem.W.Frag) (mg : Str → Option Value) : Prop where
  gl : ∀ c, excL.contains c = true → mg c = some (.ref (He.ga K c))
  mkx : ∀ c, (excL.contains c && c != "HiddenError") = true → Xm K mg c
  ty : ∀ T, excL.contains T = true → ∀ c b, (isTab T).lookup c = some b → ExcK K c ∧ PySem.W.kitOne K (.ref (He.ga K c)) (.ref (He.ga K T)) = some b
  ve : ∀ c b, isVE.lookup c = some b → ExcK K c ∧ PySem.W.kitOne K (.ref (He.ga K c)) (.type "ValueError") = some b
  xf : XfC K (He.ga K "HiddenError")
  no : PySem.W.findIn K (.ref (He.ga K "HiddenError")) "turn" = some none
  hk : ExcK K "HiddenError"
def xmB (K : PySem.W.Frag) (c : Str) : Bool := c == "HiddenError" || (PySem.W.excIn K (He.ga K c) He.veBase "ValueError.__new__" && PySem.W.keepIn K (.ref (He.ga K c)))
def xallB (K : PySem.W.Frag) : Bool := excL.all (excB K) && (excL.all (xmB K) && ((excL.all fun T => excL.all fun c => decide (PySem.W.kitOne K (.ref (He.ga K c)) (.ref (He.ga K T)) = some (decide (c = T ∨ T = "AccordionsError")))) &&
  ((excL.all fun c => decide (PySem.W.kitOne K (.ref (He.ga K c)) (.type "ValueError") = some true)) && (xfB K (He.ga K "HiddenError") && decide (PySem.W.findIn K (.ref (He.ga K "HiddenError")) "turn" = some none)))))
theorem look_map {g : Str → Bool} {c : Str} {b : Bool} : ∀ {l : List Str}, (l.map fun c => (c, g c)).lookup c = some b → c ∈ l ∧ b = g c
  | [], h => by cases h
  | x :: l, h => by
    have h : ((x, g x) :: l.map fun c => (c, g c)).lookup c = some b := h
    rw [List.lookup_cons] at h
    by_cases e : c = x
    · subst e
      rw [beq_self_eq_true] at h
      cases h
      exact ⟨List.mem_cons_self, rfl⟩
    · rw [beq_eq_false_iff_ne.mpr e] at h
      obtain ⟨h1, h2⟩ := look_map h
      exact ⟨List.mem_cons_of_mem _ h1, h2⟩
theorem xall_ok {K : PySem.W.Frag} {mg : Str → Option Value} (hg : ∀ c ∈ excL, mg c = some (.ref (He.ga K c))) (h : xallB K = true) : XAll K mg := by
  obtain ⟨h1, h⟩ := He.ba h
  obtain ⟨h2, h⟩ := He.ba h
  obtain ⟨h3, h⟩ := He.ba h
  obtain ⟨h4, h⟩ := He.ba h
  obtain ⟨h5, h6⟩ := He.ba h
  have ek : ∀ c ∈ excL, ExcK K c := fun c hc => excB_ok (List.all_eq_true.mp h1 c hc)
  refine ⟨fun c hc => hg c (by simpa using hc), fun c hc => ?_, fun T hT c b hb => ?_, fun c b hb => ?_, xfB_ok h5, of_decide_eq_true h6, ek _ (by decide)⟩
  · obtain ⟨k1, k2⟩ := He.ba hc
    have k1 : c ∈ excL := by simpa using k1
    have q := List.all_eq_true.mp h2 c k1
    unfold xmB at q
    have k3 : (c == "HiddenError") = false := by simpa using k2
    rw [k3, Bool.false_or] at q
    obtain ⟨q1, q2⟩ := He.ba q
    exact ⟨hg c k1, q1, q2, ek c k1⟩
  · obtain ⟨k1, rfl⟩ := look_map hb
    exact ⟨ek c k1, of_decide_eq_true (List.all_eq_true.mp (List.all_eq_true.mp h3 T (by simpa using hT)) c k1)⟩
  · obtain ⟨k1, rfl⟩ := look_map hb
    exact ⟨ek c k1, of_decide_eq_true (List.all_eq_true.mp h4 c k1)⟩
def errB (K : PySem.W.Frag) (C : Addr) : Bool := PySem.W.readsIn K C (.type "type") && (decide (PySem.W.specialIn K (.ref C) "__getattribute__" = some (some (.builtin "type.__getattribute__"))) && (match PySem.W.findCls K (.ref C) (.type "type") "__init__" with
  | some (.val v) => decide (v = .builtin "ValueError.__init__")
  | _ => false))
theorem errB_ok {K : PySem.W.Frag} {C : Addr} (h : errB K C = true) : ErrC K C (.type "type") := by
  obtain ⟨h1, h⟩ := He.ba h
  obtain ⟨h2, h3⟩ := He.ba h
  refine ⟨h1, of_decide_eq_true h2, ?_⟩
  split at h3
  · rename_i v e
    rw [e, of_decide_eq_true h3]
  · cases h3

/-! ### the hook, with the interpreter's own statics (readsIn looks there) -/
def asY (g : Addr → Option Obj) (n : Nat) : List Addr := He.asD g n ++ [cStatics]
def obsY (n : Nat) (fa : List He.Fa) (fn : List He.DefD) (ex : PySem.W.Frag → Bool) (g : Addr → Option Obj) : He.AlX := (He.obsT fa fn [] (He.frT g (asY g n)), ex (He.frT g (asY g n)))
def hookY (n : Nat) (fa : List He.Fa) (fn : List He.DefD) (ex : PySem.W.Frag → Bool) : PySem.W.Hook where
  α := He.AlX
  obs := fun s => obsY n fa fn ex s.heap.get?
  val := fun w => He.valX fn [] w
  says := fun w h => ∃ K : PySem.W.Frag, K.In h ∧ He.SaysX fa fn [] [] ex w h K
  of := fun _ _ e => ⟨_, He.frT_in, ⟨congrArg (fun z : He.AlX => z.1) e, congrArg (fun z : He.AlX => z.2) e, (fun _ h => by cases h), (fun _ h => by cases h), (fun _ h => by cases h)⟩⟩
  keeps := fun _ _ _ ⟨K, hK, c⟩ k => ⟨K, PySem.W.Frag.In.keeps hK k, ⟨c.t, c.more, c.hd, c.out, (fun _ h => by cases h)⟩⟩
theorem obsY_eq {n : Nat} {fa : List He.Fa} {fn : List He.DefD} {ex : PySem.W.Frag → Bool} {g : Addr → Option Obj} {s : Shared} (h : ∀ a, g a = s.heap.get? a) : obsY n fa fn ex g = (hookY n fa fn ex).obs s := by
  have e : g = s.heap.get? := funext h
  rw [e] <;> rfl

/-! ### x[k] += n -/
section
variable {X : Cx} {C : Ct} {rm : Md} {x : Str} {i : Nat} {p tpos pos kp np : Pos}
theorem pget_list : PGet X (fun o j H Q => ∃ (a : Addr) (xs : List V) (k : Nat) (v : V), o = .ref a ∧ j = .int (k : Int) ∧ k < 1000 ∧ SqL X.K H a xs ∧ xs[k]? = some v ∧ Q v H) := by
  intro pins s σ H o j ov iv Q I ro rj h
  obtain ⟨a, xs, k, v, rfl, rfl, hk, hq, he, q⟩ := h
  cases ro
  obtain ⟨t, rfl⟩ := rj
  obtain ⟨its, r, pl, hz⟩ := I.list hq
  obtain ⟨w, ew, rw'⟩ := r.get he
  exact wpAny_getItem_list pl.isList (Int.natCast_nonneg k) (by omega) (by rw [Int.toNat_natCast]; simpa using ew) ⟨v, H, I, rw', q⟩
theorem ixN_k {n k : Nat} (h : k < n) (hn : k < 1000) : ixN n (k : Int) = some k := by
  have hz : (k : Int) < 2 ^ 63 := by omega
  unfold ixN
  simp [h, hz]
  try omega
theorem vs_augK {k : Nat} {n : Int} {e ek : Expr} (hk : PE X ek (tC (.int (k : Int)))) (he : PE X e (tC (.int n))) (hm : C.Γ[i]? = some (.ow .im) := by rfl) (hN : X.N[i]? = some x := by rfl) (hv : Vis X.env.scope x := by first | exact Or.inl rfl | exact Or.inr (Or.inl rfl) | exact Or.inr (Or.inr rfl))
    (hd : (x == ("__debug__" : Str)) = false := by decide) (hcd : (x == ("__classdict__" : Str)) = false := by decide)
    (ha : ∀ ov iv new, augStore ek ov iv new = (do holding [new, ov, iv] (setItem ov iv new); release [new, ov, iv] []; pure .next) := by intros; rfl) :
    VS X C rm (.AugAssign (.Subscript (.Name x p) ek tpos) .Add e pos) (sAugK i k n) := by
  refine PS.mono (ps_augS (pe_var hN hv hd hcd) hk pget_list he ip_add set_list ha) fun D σ H ⟨Hm, F, ρ, r, q⟩ => ?_
  unfold sAugK at q
  split at q
  · rename_i ds e1
    split at q
    · rename_i j ej
      split at q
      · rename_i hlt
        obtain ⟨a, xs, g, h3, h4, hall, hF, hag⟩ := r.own e1 hm
        obtain ⟨ha1, hg⟩ := all_im hall
        subst hg
        obtain ⟨v, hv1, hv2⟩ := ha1.get ej
        cases hv2
        have hkl : k < xs.length := (List.getElem?_eq_some_iff.mp hv1).1
        refine ⟨.ref a, h3, a, xs, k, .int j, rfl, rfl, hlt, .of h4, hv1, j, n, rfl, rfl, a, xs, k, k, rfl, rfl, h4, ixN_k hkl hlt, ?_⟩
        have r3 := r.rew (a := a) (o := .lst (xs.set k (.int (j + n)))) (g := [a]) (d := .lst (ds.set k (.int (j + n)))) hm h3 (by rw [hF]; exact List.mem_cons_self)
          ⟨a, rfl, .inl ⟨_, _, [], rfl, upd_same, im_all (DtA.set k (.int _) ha1), rfl⟩⟩ (by simp)
          (fun b hb => r.un i b (by rw [hF]; exact hb)) (fun b hb l hl hbl => hl (r.dj l i b hbl (by rw [hF]; exact hb)))
          (fun b hb => .inl (by rw [hF]; exact hb)) (fun _ z => by cases z) (fun _ _ z => by cases z)
        exact q Hm _ _ σ (Step.refl.rew (by rw [hF]; exact List.mem_cons_self) ⟨_, h4⟩ fun b hb => .inl (by rw [hF]; exact hb)) r3
      · exact q.elim
    · exact q.elim
  · exact q.elim
end
end VL

set_option Elab.async false
set_option linter.all false
/-! printed by gen.py: the pure functions -/
namespace VL.Pure
open PySem
/-! ### _law_bag_k84 -/
def b__law_bag_k84 : SF :=
  (sSeq (sIf (tVal (eOp2 ltD (eName 0) (eC (.int 0)))) (sRet (eLst [(eOp1 negD (eName 0)), (eOp2 addD (eOp2 mulD (eC (.int 37)) (eName 1)) (eC (.int 18)))])) sNext)
  (sRet (eLst [(eName 0), (eOp2 mulD (eC (.int 37)) (eName 1))])))
def f__law_bag_k84 : FF := runF 2 [.im, .im] b__law_bag_k84

/-! ### _law_draw_k84 -/
def b__law_draw_k84 : SF :=
  (sSeq (sAugK 0 1 1)
  (sSeq (sIf (tBor [] (tVal (eOp2 geD (eOp2 ixGet (eName 0) (eC (.int 0))) (eOp2 powD (eC (.int 10)) (eC (.int 18)))))) (sSeq (sSet 2 (eBor .im [] (eOp2 modD (eOp2 ixGet (eName 0) (eC (.int 0))) (eName 1))))
  (sSeq (sSetIx 0 (eC (.int 0)) (eBor .im [] (eOp2 fdivD (eOp2 ixGet (eName 0) (eC (.int 0))) (eName 1))))
  (sRet (eName 2)))) sNext)
  (sSeq (sSet 3 (eBor .im [] (eOp2 modD (eOp2 addD (eOp2 addD (eOp2 modD (eOp2 ixGet (eName 0) (eC (.int 0))) (eC (.int 2147483629))) (eOp2 mulD (eC (.int 104729)) (eOp2 ixGet (eName 0) (eC (.int 1))))) (eC (.int 1))) (eC (.int 2147483587)))))
  (sSeq (sSet 3 (eOp2 modD (eOp2 mulD (eName 3) (eName 3)) (eC (.int 2147483587))))
  (sSeq (sSet 3 (eBor .im [] (eOp2 modD (eOp2 addD (eName 3) (eOp2 mulD (eC (.int 40692)) (eOp2 ixGet (eName 0) (eC (.int 1))))) (eC (.int 2147483563)))))
  (sSeq (sSet 3 (eOp2 modD (eOp2 mulD (eName 3) (eName 3)) (eC (.int 2147483563))))
  (sRet (eOp2 modD (eOp2 fdivD (eName 3) (eC (.int 8))) (eName 1)))))))))
def f__law_draw_k84 : FF := runF 4 [.rf, .im] b__law_draw_k84

/-! ### _law_marks_k87 -/
def b__law_marks_k87 : SF :=
  (sSeq (sSet 1 (eLst [(eIsX (isTab "EmptyHistoryError") (eName 0)), (eIsX (isTab "HiddenError") (eName 0)), (eIsX (isTab "InvalidClicksError") (eName 0))]))
  (sSeq (sSet 1 (eOp2 catD (eName 1) (eLst [(eIsX (isTab "InvalidFormatError") (eName 0)), (eIsX (isTab "InvalidNumberError") (eName 0))])))
  (sSeq (sSet 1 (eOp2 catD (eName 1) (eLst [(eIsX (isTab "InvalidPlanError") (eName 0)), (eIsX (isTab "InvalidSectionError") (eName 0))])))
  (sSeq (sSet 1 (eOp2 catD (eName 1) (eLst [(eIsX (isTab "InvalidSectionsError") (eName 0)), (eIsX (isTab "InvalidStateError") (eName 0))])))
  (sRet (eOp2 catD (eName 1) (eLst [(eIsX (isTab "InvalidViewsError") (eName 0)), (eIsX (isTab "NotFittingError") (eName 0))])))))))
def f__law_marks_k87 : FF := runF 2 [.im] b__law_marks_k87

/-! ### _law_right_k87 -/
def b__law_right_k87 : SF :=
  (sSeq (sSet 2 (eLst [(eMkX "EmptyHistoryError" (eName 0)), (eMkF "HiddenError" "turn" (eName 1)), (eMkX "InvalidClicksError" (eName 0))]))
  (sSeq (sSet 2 (eOp2 catD (eName 2) (eLst [(eMkX "InvalidFormatError" (eName 0)), (eMkX "InvalidNumberError" (eName 0)), (eMkX "InvalidPlanError" (eName 0))])))
  (sSeq (sSet 2 (eOp2 catD (eName 2) (eLst [(eMkX "InvalidSectionError" (eName 0)), (eMkX "InvalidSectionsError" (eName 0)), (eMkX "InvalidStateError" (eName 0))])))
  (sSeq (sSet 2 (eOp2 catD (eName 2) (eLst [(eMkX "InvalidViewsError" (eName 0)), (eMkX "NotFittingError" (eName 0))])))
  (sSeq (sFor (iRange1 [(eC (.int 11))]) (gSet 3) (sSeq (sIf (tVal (eOp2 neD (eCall Pure.f__law_marks_k87 [.e (eOp2 ixGet (eName 2) (eName 3))]) (eComp [5] (iRange1 [(eC (.int 11))]) (gSet 5) tYesF (eOp2 eqD (eName 5) (eName 3))))) (sRet (eC (.bl false))) sNext)
  (sIf (tOrF (tNotF (tVal (eIsX (isTab "AccordionsError") (eOp2 ixGet (eName 2) (eName 3))))) (tNotF (tVal (eIsX isVE (eOp2 ixGet (eName 2) (eName 3)))))) (sRet (eC (.bl false))) sNext)))
  (sSeq (sSet 4 (eLst [(eFldX "HiddenError" "turn" (eMkF "HiddenError" "turn" (eName 1))), (eFldX "HiddenError" "turn" (eMkF "HiddenError" "turn" (eName 1)))]))
  (sRet (eAnd (eOp2 eqD (eName 4) (eOp2 repD (eLst [(eName 1)]) (eC (.int 2)))) (eOp2 notInD (eC (.bl true)) (eCall Pure.f__law_marks_k87 [.e (eMkX "AccordionsError" (eName 0))]))))))))))
def f__law_right_k87 : FF := runF 6 [.im, .im] b__law_right_k87

/-! ### law_k87 -/
def b_law_k87 : SF :=
  (sSeq (sSet 1 (eOp2 catD (eSlice (eName 0) none (some (eC (.int 12)))) (eOp2 repD (eLst [(eC (.int 0))]) (eOpN intD [(eOp2 eqD (eName 0) (eLst []))]))))
  (sSeq (sFor (iRange1 [(eOpN lenD [(eName 1)])]) (gSet 2) (sSeq (sSet 3 (eCall Pure.f__law_bag_k84 [.e (eOp2 ixGet (eName 1) (eName 2)), .e (eName 2)]))
  (sSeq (sSet 4 (eOp2 mulD (eOp2 ixGet (eC (.str "a| ~")) (eCall Pure.f__law_draw_k84 [.r 3, .e (eC (.int 4))])) (eCall Pure.f__law_draw_k84 [.r 3, .e (eC (.int 60))])))
  (sIf (tNotF (tVal (eCall Pure.f__law_right_k87 [.e (eName 4), .e (eCall Pure.f__law_draw_k84 [.r 3, .e (eOp2 powD (eC (.int 10)) (eC (.int 9)))])]))) (sRet (eC (.bl false))) sNext))))
  (sRet (eC (.bl true)))))
def f_law_k87 : FF := runF 5 [.im] b_law_k87

end VL.Pure

set_option Elab.async false
set_option linter.all false
set_option maxRecDepth 100000
set_option maxHeartbeats 4000000
/-! printed by gen.py: the defs of the law, their derivations -/
namespace VL.K87
open PySem PySem.Spec PyProof.Rows L2
def topS (i : Nat) : Stmt := PySem.Challenge.pw_accordions_k87_errors_are_distinct.main.body.getD i (.Pass ⟨0, 0, 0, 0⟩)
def clsS (i j : Nat) : Stmt := memS (topS i) j
abbrev st__law_bag : Stmt := topS 14
abbrev N__law_bag : List PySem.Str := ["cell", "k"]
abbrev f__law_bag : FF := Pure.f__law_bag_k84
abbrev st__law_draw : Stmt := topS 15
abbrev N__law_draw : List PySem.Str := ["bag", "many", "digit", "one"]
abbrev f__law_draw : FF := Pure.f__law_draw_k84
abbrev st__law_marks : Stmt := topS 16
abbrev N__law_marks : List PySem.Str := ["e", "marks"]
abbrev f__law_marks : FF := Pure.f__law_marks_k87
abbrev st__law_right : Stmt := topS 17
abbrev N__law_right : List PySem.Str := ["message", "number", "some", "k", "values", "j"]
abbrev f__law_right : FF := Pure.f__law_right_k87
abbrev st_law : Stmt := topS 18
abbrev N_law : List PySem.Str := ["script", "cells", "k", "bag", "message"]
abbrev f_law : FF := Pure.f_law_k87
section
variable {P : Program} {w : World} {K : PySem.W.Frag} {mg : PySem.Str → Option Value} {base : Heap}
abbrev st_Xinit : Stmt := clsS 12 0
theorem sc_Xinit : FnScope ["self", "turn"] ["self", "turn"] (defScope st_Xinit) := ⟨rfl, rfl, rfl, by decide +kernel, rfl, by decide +kernel, by decide +kernel⟩
theorem xf_of {fa : Addr} {fd : FuncData} (F : FunD K "__init__" "HiddenError.__init__" (defArgs st_Xinit) (defBody st_Xinit) (defScope st_Xinit) [] [] fa fd) (m : Meth K (He.ga K "HiddenError") "__init__" fa) (T : OexC K (He.ga K "HiddenError")) (EC : ErrC K (He.ga K "AccordionsError") (.type "type")) (hg : mg "HiddenError" = some (.ref (He.ga K "HiddenError"))) (ha : mg "AccordionsError" = some (.ref (He.ga K "AccordionsError"))) (hx : ExcK K "HiddenError") (hno : PySem.W.findIn K (.ref (He.ga K "HiddenError")) "turn" = some none) : Xf P w K mg base 1 "HiddenError" "turn" "turn" := by
  refine ⟨fa, fd, ["self", "turn"], ?_, T, m.at_, beq_iff_eq.mp m.fn, hg, F.bindsN fun _ _ _ _ _ _ us hl => match us, hl with | [_, _], _ => rfl, kw_ok F ?_, hx⟩
  · obtain ⟨oc, od, dV, kV, doc, pm, an, cdv, ct, osl, rfl, lk, hcd, _, _⟩ := F.ex
    refine fn_g lk hcd sc_Xinit (fun vs H Q E h => ?_) (fun A outer s H vs Q E hr h => ?_)
    · obtain ⟨a, y, rfl, _⟩ := h; rfl
    · obtain ⟨a, y, rfl, ea, q⟩ := h
      refine ⟨_, pss_cons (ps_expr (pe_aeinit _ rfl ha EC (pa_cons (pv 0) (pa_cons pe_str pa_nil)))) (pss_cons (ps_ost (pv 0) (pv 1)) pss_nil), ?_⟩
      exact ⟨.ref a, rfl, a, _, _, rfl, by decide, T, ea, y, rfl, .ref a, rfl, a, _, rfl, T, hno, .inl ⟨ea, fun dx h1 h2 => q dx h1 h2⟩⟩
  · intro kV doc pm an cdv ct us ws zs h1 h2 h3
    match us, h1, ws, h2, zs, h3 with
    | [u0], _, [w0], _, [z0, z1], h3 =>
      have h3 : [some u0, some w0] = [some z0, some z1] := h3
      cases h3
      rfl
theorem sc__law_bag : FnScope N__law_bag ["cell", "k"] (defScope st__law_bag) := ⟨rfl, rfl, rfl, by decide +kernel, rfl, by decide +kernel, by decide +kernel⟩
theorem g__law_bag {fa : Addr} {fd : FuncData} (F : FnT K "_law_bag" st__law_bag fa fd) : FnG P w K mg base 1 fa fd ["cell", "k"] (spV EW0 K [.im, .im] (.ow .im) (runF N__law_bag.length [.im, .im] Pure.b__law_bag_k84)) := by
  refine fn_ok0 (N := N__law_bag) (ms := [.im, .im]) (rm := (.ow .im)) (k := 0) (Γ := [.im, .im]) (body := Pure.b__law_bag_k84) F sc__law_bag rfl rfl rfl (.inr (by show NoNx Pure.b__law_bag_k84; unfold Pure.b__law_bag_k84; repeat' (first | exact nn_ret | exact nn_retIx | exact nn_bad | refine nn_frz ?_ | refine nn_if ?_ ?_ | refine nn_seq ?_))) fun cdv A outer s H vs E hr => ?_
  have hu := hr.u64
  have hN : N__law_bag.Nodup := sc__law_bag.nd
  unfold Pure.b__law_bag_k84
  exact (vb_cons (vs_if (vt_cmp op_lt prim_lt (ve_name (i := 0)) ve_int) (vb_one (vs_ret (ve_lst (va_cons (ve_un un_neg prim_neg (ve_name (i := 0))) (va_cons (ve_bin op_addG prim_add (ve_bin (op_mul.or (op_mulW.or (op_repR.or op_repS))) prim_mul ve_int (ve_name (i := 1))) ve_int) va_nil))))) vb_nil)
  (vb_one (vs_ret (ve_lst (va_cons (ve_name (i := 0)) (va_cons (ve_bin (op_mul.or (op_mulW.or (op_repR.or op_repS))) prim_mul ve_int (ve_name (i := 1))) va_nil))))))
theorem cb__law_bag (T : FnTop K mg "_law_bag" st__law_bag) : Cb P w K mg base 1 "_law_bag" [.im, .im] (.ow .im) Pure.f__law_bag_k84 := by
  obtain ⟨fa, fd, F, hm⟩ := T
  exact ⟨fa, fd, ["cell", "k"], g__law_bag F , hm, F.kp, F.bindsN fun _ _ _ _ _ _ us hl => match us, hl with | [_, _], _ => rfl⟩
theorem sc__law_draw : FnScope N__law_draw ["bag", "many"] (defScope st__law_draw) := ⟨rfl, rfl, rfl, by decide +kernel, rfl, by decide +kernel, by decide +kernel⟩
theorem g__law_draw {fa : Addr} {fd : FuncData} (F : FnT K "_law_draw" st__law_draw fa fd) : FnG P w K mg base 1 fa fd ["bag", "many"] (spV EW0 K [.rf, .im] .im (runF N__law_draw.length [.rf, .im] Pure.b__law_draw_k84)) := by
  refine fn_ok0 (N := N__law_draw) (ms := [.rf, .im]) (rm := .im) (k := 0) (Γ := [(.ow .im), .im, .im, .im]) (body := Pure.b__law_draw_k84) F sc__law_draw rfl rfl rfl (.inl rfl) fun cdv A outer s H vs E hr => ?_
  have hu := hr.u64
  have hN : N__law_draw.Nodup := sc__law_draw.nd
  unfold Pure.b__law_draw_k84
  exact (vb_cons (vs_augK (i := 0) (k := 1) pe_int pe_int)
  (vb_cons (vs_if (vt_bor [0] [] (vt_cmp op_ge prim_ge (ve_ix (ve_name (i := 0)) ve_int) (ve_bin op_powW prim_pow ve_int ve_int))) (vb_cons (vs_set (i := 2) (ve_bor [0] [] (ve_bin op_mod prim_mod (ve_ix (ve_name (i := 0)) ve_int) (ve_name (i := 1)))))
  (vb_cons (vs_setix (i := 0) (ve_bor [0] [] (ve_bin op_fdivW prim_fdiv (ve_ix (ve_name (i := 0)) ve_int) (ve_name (i := 1)))) ve_int)
  (vb_one (vs_ret (ve_name (i := 2)))))) vb_nil)
  (vb_cons (vs_set (i := 3) (ve_bor [0] [] (ve_bin op_mod prim_mod (ve_bin op_addG prim_add (ve_bin op_addG prim_add (ve_bin op_mod prim_mod (ve_ix (ve_name (i := 0)) ve_int) ve_int) (ve_bin (op_mul.or (op_mulW.or (op_repR.or op_repS))) prim_mul ve_int (ve_ix (ve_name (i := 0)) ve_int))) ve_int) ve_int)))
  (vb_cons (vs_set (i := 3) (ve_bin op_mod prim_mod (ve_bin (op_mul.or (op_mulW.or (op_repR.or op_repS))) prim_mul (ve_name (i := 3)) (ve_name (i := 3))) ve_int))
  (vb_cons (vs_set (i := 3) (ve_bor [0] [] (ve_bin op_mod prim_mod (ve_bin op_addG prim_add (ve_name (i := 3)) (ve_bin (op_mul.or (op_mulW.or (op_repR.or op_repS))) prim_mul ve_int (ve_ix (ve_name (i := 0)) ve_int))) ve_int)))
  (vb_cons (vs_set (i := 3) (ve_bin op_mod prim_mod (ve_bin (op_mul.or (op_mulW.or (op_repR.or op_repS))) prim_mul (ve_name (i := 3)) (ve_name (i := 3))) ve_int))
  (vb_one (vs_ret (ve_bin op_mod prim_mod (ve_bin op_fdivW prim_fdiv (ve_name (i := 3)) ve_int) (ve_name (i := 1)))))))))))
theorem cb__law_draw (T : FnTop K mg "_law_draw" st__law_draw) : Cb P w K mg base 1 "_law_draw" [.rf, .im] .im Pure.f__law_draw_k84 := by
  obtain ⟨fa, fd, F, hm⟩ := T
  exact ⟨fa, fd, ["bag", "many"], g__law_draw F , hm, F.kp, F.bindsN fun _ _ _ _ _ _ us hl => match us, hl with | [_, _], _ => rfl⟩
theorem sc__law_marks : FnScope N__law_marks ["e"] (defScope st__law_marks) := ⟨rfl, rfl, rfl, by decide +kernel, rfl, by decide +kernel, by decide +kernel⟩
theorem g__law_marks {fa : Addr} {fd : FuncData} (F : FnT K "_law_marks" st__law_marks fa fd) (z_isinstance : mg "isinstance" = none) (x_all : XAll K mg) : FnG P w K mg base 3 fa fd ["e"] (spV EW0 K [.im] (.ow .im) (runF N__law_marks.length [.im] Pure.b__law_marks_k87)) := by
  refine fn_ok0 (N := N__law_marks) (ms := [.im]) (rm := (.ow .im)) (k := 2) (Γ := [.im, .im]) (body := Pure.b__law_marks_k87) F sc__law_marks rfl rfl rfl (.inr (by show NoNx Pure.b__law_marks_k87; unfold Pure.b__law_marks_k87; repeat' (first | exact nn_ret | exact nn_retIx | exact nn_bad | refine nn_frz ?_ | refine nn_if ?_ ?_ | refine nn_seq ?_))) fun cdv A outer s H vs E hr => ?_
  have hu := hr.u64
  have hN : N__law_marks.Nodup := sc__law_marks.nd
  unfold Pure.b__law_marks_k87
  exact (vb_cons (vs_set (i := 1) (ve_im (ve_lst (va_cons (ve_isX (ve_name (i := 0)) (pe_glob (v := .ref (He.ga K "EmptyHistoryError")) (by exact rfl) (x_all.gl "EmptyHistoryError" (by decide)) rfl) (.own _) (x_all.ty "EmptyHistoryError" (by decide)) z_isinstance) (va_cons (ve_isX (ve_name (i := 0)) (pe_glob (v := .ref (He.ga K "HiddenError")) (by exact rfl) (x_all.gl "HiddenError" (by decide)) rfl) (.own _) (x_all.ty "HiddenError" (by decide)) z_isinstance) (va_cons (ve_isX (ve_name (i := 0)) (pe_glob (v := .ref (He.ga K "InvalidClicksError")) (by exact rfl) (x_all.gl "InvalidClicksError" (by decide)) rfl) (.own _) (x_all.ty "InvalidClicksError" (by decide)) z_isinstance) va_nil))))))
  (vb_cons (vs_set (i := 1) (ve_im (ve_bin op_catR prim_cat (ve_name (i := 1)) (ve_im (ve_lst (va_cons (ve_isX (ve_name (i := 0)) (pe_glob (v := .ref (He.ga K "InvalidFormatError")) (by exact rfl) (x_all.gl "InvalidFormatError" (by decide)) rfl) (.own _) (x_all.ty "InvalidFormatError" (by decide)) z_isinstance) (va_cons (ve_isX (ve_name (i := 0)) (pe_glob (v := .ref (He.ga K "InvalidNumberError")) (by exact rfl) (x_all.gl "InvalidNumberError" (by decide)) rfl) (.own _) (x_all.ty "InvalidNumberError" (by decide)) z_isinstance) va_nil)))))))
  (vb_cons (vs_set (i := 1) (ve_im (ve_bin op_catR prim_cat (ve_name (i := 1)) (ve_im (ve_lst (va_cons (ve_isX (ve_name (i := 0)) (pe_glob (v := .ref (He.ga K "InvalidPlanError")) (by exact rfl) (x_all.gl "InvalidPlanError" (by decide)) rfl) (.own _) (x_all.ty "InvalidPlanError" (by decide)) z_isinstance) (va_cons (ve_isX (ve_name (i := 0)) (pe_glob (v := .ref (He.ga K "InvalidSectionError")) (by exact rfl) (x_all.gl "InvalidSectionError" (by decide)) rfl) (.own _) (x_all.ty "InvalidSectionError" (by decide)) z_isinstance) va_nil)))))))
  (vb_cons (vs_set (i := 1) (ve_im (ve_bin op_catR prim_cat (ve_name (i := 1)) (ve_im (ve_lst (va_cons (ve_isX (ve_name (i := 0)) (pe_glob (v := .ref (He.ga K "InvalidSectionsError")) (by exact rfl) (x_all.gl "InvalidSectionsError" (by decide)) rfl) (.own _) (x_all.ty "InvalidSectionsError" (by decide)) z_isinstance) (va_cons (ve_isX (ve_name (i := 0)) (pe_glob (v := .ref (He.ga K "InvalidStateError")) (by exact rfl) (x_all.gl "InvalidStateError" (by decide)) rfl) (.own _) (x_all.ty "InvalidStateError" (by decide)) z_isinstance) va_nil)))))))
  (vb_one (vs_ret (ve_bin op_catR prim_cat (ve_name (i := 1)) (ve_im (ve_lst (va_cons (ve_isX (ve_name (i := 0)) (pe_glob (v := .ref (He.ga K "InvalidViewsError")) (by exact rfl) (x_all.gl "InvalidViewsError" (by decide)) rfl) (.own _) (x_all.ty "InvalidViewsError" (by decide)) z_isinstance) (va_cons (ve_isX (ve_name (i := 0)) (pe_glob (v := .ref (He.ga K "NotFittingError")) (by exact rfl) (x_all.gl "NotFittingError" (by decide)) rfl) (.own _) (x_all.ty "NotFittingError" (by decide)) z_isinstance) va_nil)))))))))))
theorem cb__law_marks (T : FnTop K mg "_law_marks" st__law_marks) (z_isinstance : mg "isinstance" = none) (x_all : XAll K mg) : Cb P w K mg base 3 "_law_marks" [.im] (.ow .im) Pure.f__law_marks_k87 := by
  obtain ⟨fa, fd, F, hm⟩ := T
  exact ⟨fa, fd, ["e"], g__law_marks F z_isinstance x_all, hm, F.kp, F.bindsN fun _ _ _ _ _ _ us hl => match us, hl with | [_], _ => rfl⟩
theorem sc__law_right : FnScope N__law_right ["message", "number"] (defScope st__law_right) := ⟨rfl, rfl, rfl, by decide +kernel, rfl, by decide +kernel, by decide +kernel⟩
theorem g__law_right {fa : Addr} {fd : FuncData} (F : FnT K "_law_right" st__law_right fa fd) (c__law_marks : Cb P w K mg base 3 "_law_marks" [.im] (.ow .im) Pure.f__law_marks_k87) (z_ValueError : mg "ValueError" = none) (z_isinstance : mg "isinstance" = none) (z_range : mg "range" = none) (x_all : XAll K mg) (x_hid : Xf P w K mg base 1 "HiddenError" "turn" "turn") : FnG P w K mg base 4 fa fd ["message", "number"] (spV EW0 K [.im, .im] .im (runF N__law_right.length [.im, .im] Pure.b__law_right_k87)) := by
  refine fn_ok0 (N := N__law_right) (ms := [.im, .im]) (rm := .im) (k := 3) (Γ := [.im, .im, .im, .im, .im, .im]) (body := Pure.b__law_right_k87) F sc__law_right rfl rfl rfl (.inl rfl) fun cdv A outer s H vs E hr => ?_
  have hu := hr.u64
  have hN : N__law_right.Nodup := sc__law_right.nd
  unfold Pure.b__law_right_k87
  exact (vb_cons (vs_set (i := 2) (ve_im (ve_lst (va_cons (ve_mkX (x_all.mkx "EmptyHistoryError" (by decide)) (ve_name (i := 0))) (va_cons (ve_mkF x_hid hr (by decide) (ve_name (i := 1))) (va_cons (ve_mkX (x_all.mkx "InvalidClicksError" (by decide)) (ve_name (i := 0))) va_nil))))))
  (vb_cons (vs_set (i := 2) (ve_im (ve_bin op_catR prim_cat (ve_name (i := 2)) (ve_im (ve_lst (va_cons (ve_mkX (x_all.mkx "InvalidFormatError" (by decide)) (ve_name (i := 0))) (va_cons (ve_mkX (x_all.mkx "InvalidNumberError" (by decide)) (ve_name (i := 0))) (va_cons (ve_mkX (x_all.mkx "InvalidPlanError" (by decide)) (ve_name (i := 0))) va_nil))))))))
  (vb_cons (vs_set (i := 2) (ve_im (ve_bin op_catR prim_cat (ve_name (i := 2)) (ve_im (ve_lst (va_cons (ve_mkX (x_all.mkx "InvalidSectionError" (by decide)) (ve_name (i := 0))) (va_cons (ve_mkX (x_all.mkx "InvalidSectionsError" (by decide)) (ve_name (i := 0))) (va_cons (ve_mkX (x_all.mkx "InvalidStateError" (by decide)) (ve_name (i := 0))) va_nil))))))))
  (vb_cons (vs_set (i := 2) (ve_im (ve_bin op_catR prim_cat (ve_name (i := 2)) (ve_im (ve_lst (va_cons (ve_mkX (x_all.mkx "InvalidViewsError" (by decide)) (ve_name (i := 0))) (va_cons (ve_mkX (x_all.mkx "NotFittingError" (by decide)) (ve_name (i := 0))) va_nil)))))))
  (vb_cons (vs_for (vi_range1 z_range (va_cons ve_int va_nil)) (vg_name (i := 3)) (vb_cons (vs_if (vt_cmp (op_ne.or (op_neD hu)) prim_ne (ve_im (ve_callC c__law_marks hr (by decide) (vg_e (ve_ix (ve_name (i := 2)) (ve_name (i := 3))) vg_nil))) (ve_im (ve_comp (own := [("j", 5)]) (vi_range1 z_range (va_cons ve_int va_nil)) (blkOk_by (N := N__law_right) (sc := defScope st__law_right) (by decide +kernel)) (fun _ _ _ _ _ => (vg_name (i := 5))) (fun _ _ _ _ _ => vts_nil) (fun _ _ _ _ _ => (ve_cmp (op_eq.or (op_eqD hu)) prim_eq (ve_name (i := 5)) (ve_name (i := 3))))))) (vb_one (vs_ret ve_bl)) vb_nil)
  (vb_one (vs_if ((vw_or (vt_not (vt_val (ve_isX (ve_ix (ve_name (i := 2)) (ve_name (i := 3))) (pe_glob (v := .ref (He.ga K "AccordionsError")) (by exact rfl) (x_all.gl "AccordionsError" (by decide)) rfl) (.own _) (x_all.ty "AccordionsError" (by decide)) z_isinstance))) (vw_or1 (vt_not (vt_val (ve_isX (ve_ix (ve_name (i := 2)) (ve_name (i := 3))) (ty_name (T := "ValueError") z_ValueError) (.ty "ValueError") x_all.ve z_isinstance))))).pt) (vb_one (vs_ret ve_bl)) vb_nil))))
  (vb_cons (vs_set (i := 4) (ve_im (ve_lst (va_cons (ve_fldX x_all.xf x_all.no x_all.hk (ve_mkF x_hid hr (by decide) (ve_name (i := 1)))) (va_cons (ve_fldX x_all.xf x_all.no x_all.hk (ve_mkFk x_hid hr (by decide) (ve_name (i := 1)))) va_nil)))))
  (vb_one (vs_ret (ve_and (ve_cmp (op_eq.or (op_eqD hu)) prim_eq (ve_name (i := 4)) (ve_im (ve_bin op_repR prim_rep (ve_im (ve_lst (va_cons (ve_name (i := 1)) va_nil))) ve_int))) (ve_one (ve_cmp op_notIn_seq prim_notIn ve_bl (ve_im (ve_callC c__law_marks hr (by decide) (vg_e (ve_mkX (x_all.mkx "AccordionsError" (by decide)) (ve_name (i := 0))) vg_nil))))))))))))))
theorem cb__law_right (T : FnTop K mg "_law_right" st__law_right) (c__law_marks : Cb P w K mg base 3 "_law_marks" [.im] (.ow .im) Pure.f__law_marks_k87) (z_ValueError : mg "ValueError" = none) (z_isinstance : mg "isinstance" = none) (z_range : mg "range" = none) (x_all : XAll K mg) (x_hid : Xf P w K mg base 1 "HiddenError" "turn" "turn") : Cb P w K mg base 4 "_law_right" [.im, .im] .im Pure.f__law_right_k87 := by
  obtain ⟨fa, fd, F, hm⟩ := T
  exact ⟨fa, fd, ["message", "number"], g__law_right F c__law_marks z_ValueError z_isinstance z_range x_all x_hid, hm, F.kp, F.bindsN fun _ _ _ _ _ _ us hl => match us, hl with | [_, _], _ => rfl⟩
theorem sc_law : FnScope N_law ["script"] (defScope st_law) := ⟨rfl, rfl, rfl, by decide +kernel, rfl, by decide +kernel, by decide +kernel⟩
theorem g_law {fa : Addr} {fd : FuncData} (F : FnT K "law" st_law fa fd) (c__law_bag : Cb P w K mg base 1 "_law_bag" [.im, .im] (.ow .im) Pure.f__law_bag_k84) (c__law_draw : Cb P w K mg base 1 "_law_draw" [.rf, .im] .im Pure.f__law_draw_k84) (c__law_right : Cb P w K mg base 4 "_law_right" [.im, .im] .im Pure.f__law_right_k87) (z_int : mg "int" = none) (z_len : mg "len" = none) (z_range : mg "range" = none) : FnG P w K mg base 5 fa fd ["script"] (spV EW0 K [.im] .im (runF N_law.length [.im] Pure.b_law_k87)) := by
  refine fn_ok0 (N := N_law) (ms := [.im]) (rm := .im) (k := 4) (Γ := [.im, .im, .im, (.ow .im), .im]) (body := Pure.b_law_k87) F sc_law rfl rfl rfl (.inl rfl) fun cdv A outer s H vs E hr => ?_
  have hu := hr.u64
  have hN : N_law.Nodup := sc_law.nd
  unfold Pure.b_law_k87
  exact (vb_cons (vs_set (i := 1) (ve_im (ve_bin op_catR prim_cat (ve_im (ve_slice (ve_name (i := 0)) .none (.some ve_int))) (ve_im (ve_bin op_repR prim_rep (ve_im (ve_lst (va_cons ve_int va_nil))) (ve_tyN call_int1 prim_int z_int (va_cons (ve_cmp (op_eq.or (op_eqD hu)) prim_eq (ve_name (i := 0)) (ve_im (ve_lst va_nil))) va_nil)))))))
  (vb_cons (vs_for (vi_range1 z_range (va_cons (ve_bltN call_len prim_len z_len (va_cons (ve_name (i := 1)) va_nil)) va_nil)) (vg_name (i := 2)) (vb_cons (vs_set (i := 3) (ve_callC c__law_bag hr (by decide) (vg_e (ve_ix (ve_name (i := 1)) (ve_name (i := 2))) (vg_e (ve_name (i := 2)) vg_nil))))
  (vb_cons (vs_set (i := 4) (ve_bin (op_mul.or (op_mulW.or (op_repR.or op_repS))) prim_mul (ve_ix ve_str (ve_callC c__law_draw hr (by decide) (vg_r (i := 3) (vg_e ve_int vg_nil)))) (ve_callC c__law_draw hr (by decide) (vg_r (i := 3) (vg_e ve_int vg_nil)))))
  (vb_one (vs_if (vt_not (vt_val (ve_callC c__law_right hr (by decide) (vg_e (ve_name (i := 4)) (vg_e (ve_callC c__law_draw hr (by decide) (vg_r (i := 3) (vg_e (ve_bin op_powW prim_pow ve_int ve_int) vg_nil))) vg_nil))))) (vb_one (vs_ret ve_bl)) vb_nil)))))
  (vb_one (vs_ret ve_bl))))
end
/-! ### the top -/
def facts0 : List He.Fa := [.glo "_law_bag", .glo "_law_draw", .glo "_law_marks", .glo "_law_right", .glo "law", .free "ValueError", .free "int", .free "isinstance", .free "len", .free "range", .glo "AccordionsError", .glo "InvalidPlanError", .glo "InvalidStateError", .glo "InvalidSectionError", .glo "InvalidSectionsError", .glo "InvalidClicksError", .glo "InvalidViewsError", .glo "InvalidNumberError", .glo "InvalidFormatError", .glo "NotFittingError", .glo "EmptyHistoryError", .glo "HiddenError", .meth "HiddenError" "__init__"]
def facts : List He.Fa := facts0
def fns0 : List He.DefD := [⟨("HiddenError", some "__init__"), "__init__", "HiddenError.__init__", defArgs st_Xinit, defBody st_Xinit, defScope st_Xinit, [], []⟩, ⟨("_law_bag", none), "_law_bag", "_law_bag", defArgs st__law_bag, defBody st__law_bag, defScope st__law_bag, [], []⟩, ⟨("_law_draw", none), "_law_draw", "_law_draw", defArgs st__law_draw, defBody st__law_draw, defScope st__law_draw, [], []⟩, ⟨("_law_marks", none), "_law_marks", "_law_marks", defArgs st__law_marks, defBody st__law_marks, defScope st__law_marks, [], []⟩, ⟨("_law_right", none), "_law_right", "_law_right", defArgs st__law_right, defBody st__law_right, defScope st__law_right, [], []⟩, ⟨("law", none), "law", "law", defArgs st_law, defBody st_law, defScope st_law, [], []⟩]
def fns : List He.DefD := fns0
def names0 : List PySem.Str := ["AccordionsError", "InvalidPlanError", "InvalidStateError", "InvalidSectionError", "InvalidSectionsError", "InvalidClicksError", "InvalidViewsError", "InvalidNumberError", "InvalidFormatError", "NotFittingError", "EmptyHistoryError", "HiddenError", "_law_bag", "_law_draw", "_law_marks", "_law_right"]
def names : List PySem.Str := names0
def more (K : PySem.W.Frag) : Bool := noLst K && xallB K && oexB K (He.ga K "HiddenError") && errB K (He.ga K "AccordionsError")
abbrev R : PySem.W.OpenRow := PySem.W.OpenLaw.row PySem.Challenge.rw_accordions_k87_errors_are_distinct
abbrev hk : PySem.W.Hook := hookY 5 facts fns more
def ob (s : PySem.W.SharedT) : He.AlX := obsY 5 facts fns more (HandSHeadRun.getT s)
theorem ob_eq (s : PySem.W.SharedT) : ob s = hk.obs s.abs := obsY_eq (HandSHeadRun.getT_eq s)
set_option maxHeartbeats 0 in
theorem run (w : World) : HandSHeadRun.RunEq R (PySem.W.view R.prog [18]) hk ob 4000 names w := by
  intro os
  kernel_rfl
theorem written {P : Program} {w : World} {K : PySem.W.Frag} {h : Heap} {mg : PySem.Str → Option Value} {f : Addr} (X : K.In h) (G : h.Ns mainGlobals mg) (hfa : mg ("law" : PySem.Str) = some (.ref f)) (c : He.SaysX facts fns [] [] more w h K) :
    ∃ fd : FuncData, K.In h ∧ noLst K = true ∧ (∀ (s : Shared) (u : Value), BindsTo s fd ⟨[u], []⟩ [("script", u)]) ∧ ∀ base : Heap, K.In base → base.Ns mainGlobals mg → FnG P w K mg base 5 f fd ["script"] (spV EW0 K [.im] .im (runF N_law.length [.im] Pure.b_law_k87)) := by
  have d := c.t.d
  have m := c.more
  unfold more at m
  simp only [Bool.and_eq_true] at m
  have T__law_bag : FnTop K mg "_law_bag" st__law_bag := (d.def_ 1).elim fun fd F => ⟨_, fd, F, He.glo_ok X G (d.fact 0)⟩
  have T__law_draw : FnTop K mg "_law_draw" st__law_draw := (d.def_ 2).elim fun fd F => ⟨_, fd, F, He.glo_ok X G (d.fact 1)⟩
  have T__law_marks : FnTop K mg "_law_marks" st__law_marks := (d.def_ 3).elim fun fd F => ⟨_, fd, F, He.glo_ok X G (d.fact 2)⟩
  have T__law_right : FnTop K mg "_law_right" st__law_right := (d.def_ 4).elim fun fd F => ⟨_, fd, F, He.glo_ok X G (d.fact 3)⟩
  have z_ValueError : mg "ValueError" = none := He.free_ok X G (d.fact 5)
  have z_int : mg "int" = none := He.free_ok X G (d.fact 6)
  have z_isinstance : mg "isinstance" = none := He.free_ok X G (d.fact 7)
  have z_len : mg "len" = none := He.free_ok X G (d.fact 8)
  have z_range : mg "range" = none := He.free_ok X G (d.fact 9)
  have hgx : ∀ c ∈ excL, mg c = some (.ref (He.ga K c)) := by
    intro c hc
    unfold excL at hc
    simp only [List.mem_cons, List.not_mem_nil, or_false] at hc
    rcases hc with rfl | rfl | rfl | rfl | rfl | rfl | rfl | rfl | rfl | rfl | rfl | rfl
    · exact He.glo_ok X G (d.fact 10)
    · exact He.glo_ok X G (d.fact 11)
    · exact He.glo_ok X G (d.fact 12)
    · exact He.glo_ok X G (d.fact 13)
    · exact He.glo_ok X G (d.fact 14)
    · exact He.glo_ok X G (d.fact 15)
    · exact He.glo_ok X G (d.fact 16)
    · exact He.glo_ok X G (d.fact 17)
    · exact He.glo_ok X G (d.fact 18)
    · exact He.glo_ok X G (d.fact 19)
    · exact He.glo_ok X G (d.fact 20)
    · exact He.glo_ok X G (d.fact 21)
  have x_all : XAll K mg := xall_ok hgx m.1.1.2
  obtain ⟨fd, F⟩ := d.def_ 5
  have e := hfa.symm.trans (He.glo_ok X G (d.fact 4 (f := .glo "law")))
  cases e
  refine ⟨fd, X, m.1.1.1, fun s v => FunD.bindsA (ps := ["script"]) F (fun _ _ _ _ _ _ us hl => match us, hl with | [_], _ => rfl) s [v] rfl, fun base _ _ => ?_⟩
  have x_hid : Xf P w K mg base 1 "HiddenError" "turn" "turn" := by
    obtain ⟨fd, F⟩ := d.def_ 0
    have mm := He.meth_ok (d.fact 22)
    exact xf_of F mm (oexB_ok m.1.2) (errB_ok m.2) (hgx _ (by decide)) (hgx _ (by decide)) x_all.hk x_all.no
  have c__law_bag := cb__law_bag (P := P) (w := w) (mg := mg) (base := base) T__law_bag 
  have c__law_draw := cb__law_draw (P := P) (w := w) (mg := mg) (base := base) T__law_draw 
  have c__law_marks := cb__law_marks (P := P) (w := w) (mg := mg) (base := base) T__law_marks z_isinstance x_all
  have c__law_right := cb__law_right (P := P) (w := w) (mg := mg) (base := base) T__law_right c__law_marks z_ValueError z_isinstance z_range x_all x_hid
  exact g_law F c__law_bag c__law_draw c__law_right z_int z_len z_range
/-- what is left: the plain law -/
def Law : Prop := ∀ ns : List Int, ns.length ≤ 63 → ∃ rs, Pure.f_law_k87 [.lst (ns.map .int)] = .ok (.bl true, rs)
end VL.K87
open PySem PySem.W PySem.Calls PyProof.Rows in
set_option maxHeartbeats 0 in
theorem VL.K87.holds_of (law : VL.K87.Law) : PySem.Challenge.rw_accordions_k87_errors_are_distinct.Holds := by
  w_on; o_law
  refine HandSHeadRun.head_any (r := OpenLaw.row PySem.Challenge.rw_accordions_k87_errors_are_distinct) (q := view (OpenLaw.row PySem.Challenge.rw_accordions_k87_errors_are_distinct).prog [18]) (H := VL.K87.hk) (ob := VL.K87.ob) (M := 4000) (loose := VL.K87.names) (d := HandSHeadRun.topDef (OpenLaw.row PySem.Challenge.rw_accordions_k87_errors_are_distinct).prog 18) (kwd := []) VL.K87.ob_eq
    (by kernel_rfl) (fun s => by kernel_rfl) VL.K87.run (by kernel_rfl) (by kernel_rfl) (by kernel_rfl) (by rfl) (by first | assumption | decide +kernel) (by decide +kernel) ⟨rfl, rfl, rfl, rfl, rfl, by decide +kernel⟩ ?hw ?hc
  case hw => w_witness2
  case hc =>
    refine VL.walk_v (l := PySem.Challenge.rw_accordions_k87_errors_are_distinct) (n := 63) (k := 5) (x := "script") (N := VL.K87.N_law.length) (body := VL.Pure.b_law_k87) rfl (by decide) (by kernel_rfl) ⟨⟨rfl, by decide, by decide⟩, rfl⟩ ?F law
    intro w mg fa h Y G hmg0
    obtain ⟨K, KX, c⟩ := Y
    have hmg : mg ("law" : PySem.Str) = some (.ref fa) := by
      have e : (HandSHeadRun.topDef (OpenLaw.row PySem.Challenge.rw_accordions_k87_errors_are_distinct).prog 18).name = ("law" : PySem.Str) := by kernel_rfl
      rw [← e]
      exact hmg0
    obtain ⟨fd, h1, h2, h3, h4⟩ := VL.K87.written (P := (PySem.Challenge.rw_accordions_k87_errors_are_distinct).prog) (w := w) KX G hmg c
    exact ⟨K, fd, h1, h2, h3, h4⟩

set_option Elab.async false
set_option linter.all false
/-! VM: the combinators evaluated; loops by invariants. Plain Lean. -/
namespace VL
open PySem
section
variable {α : Type} {ρ : En} {o : Option D} {d x y : D} {i j : Nat} {f g : SF} {fa fb fc : EF} {fs : List EF} {t u : TF}
@[simp] theorem eName_zero : eName 0 (some d :: ρ) = .ok (d, some d :: ρ) := rfl
theorem eName_at (h : ρ[i]? = some (some d)) : eName i ρ = .ok (d, ρ) := by unfold eName; rw [h]
@[simp] theorem eName_1 {a} : eName 1 (a :: some d :: ρ) = .ok (d, a :: some d :: ρ) := rfl
@[simp] theorem eName_2 {a b} : eName 2 (a :: b :: some d :: ρ) = .ok (d, a :: b :: some d :: ρ) := rfl
@[simp] theorem eName_3 {a b c} : eName 3 (a :: b :: c :: some d :: ρ) = .ok (d, a :: b :: c :: some d :: ρ) := rfl
@[simp] theorem eName_4 {a b c e} : eName 4 (a :: b :: c :: e :: some d :: ρ) = .ok (d, a :: b :: c :: e :: some d :: ρ) := rfl
@[simp] theorem eName_5 {a b c e k} : eName 5 (a :: b :: c :: e :: k :: some d :: ρ) = .ok (d, a :: b :: c :: e :: k :: some d :: ρ) := rfl
@[simp] theorem eName_6 {a b c e k l} : eName 6 (a :: b :: c :: e :: k :: l :: some d :: ρ) = .ok (d, a :: b :: c :: e :: k :: l :: some d :: ρ) := rfl
@[simp] theorem eName_7 {a b c e k l m} : eName 7 (a :: b :: c :: e :: k :: l :: m :: some d :: ρ) = .ok (d, a :: b :: c :: e :: k :: l :: m :: some d :: ρ) := rfl
@[simp] theorem eC_ap : eC d ρ = .ok (d, ρ) := rfl
@[simp] theorem eOp1_ap {h : D → Option D} : eOp1 h fa ρ = (fa ρ >>= fun p => Rs.of (h p.1) >>= fun z => .ok (z, p.2)) := rfl
@[simp] theorem eOp2_ap {h : D → D → Option D} : eOp2 h fa fb ρ = (fa ρ >>= fun p => fb p.2 >>= fun q => Rs.of (h p.1 q.1) >>= fun z => .ok (z, q.2)) := rfl
@[simp] theorem eArgs_nil : eArgs [] ρ = .ok ([], ρ) := rfl
@[simp] theorem eArgs_cons : eArgs (fa :: fs) ρ = (fa ρ >>= fun p => eArgs fs p.2 >>= fun q => .ok (p.1 :: q.1, q.2)) := rfl
@[simp] theorem eOpN_ap {h : List D → Option D} : eOpN h fs ρ = (eArgs fs ρ >>= fun q => Rs.of (h q.1) >>= fun z => .ok (z, q.2)) := rfl
@[simp] theorem eTup_ap : eTup fs ρ = (eArgs fs ρ >>= fun q => .ok (.tup q.1, q.2)) := rfl
@[simp] theorem eLst_ap : eLst fs ρ = (eArgs fs ρ >>= fun q => .ok (.lst q.1, q.2)) := rfl
@[simp] theorem eIf_ap : eIf t fa fb ρ = (t ρ >>= fun p => if p.1 = true then fa p.2 else fb p.2) := rfl
/-- what a bool decides -/
def boolK {α : Type} (d : D) (x y : Rs α) : Rs α := match d with
  | .bl true => x
  | .bl false => y
  | _ => .bad
@[simp] theorem boolK_bl {b : Bool} {x y : Rs α} : boolK (.bl b) x y = if b = true then x else y := by cases b <;> rfl
@[simp] theorem eAnd_ap : eAnd fa fb ρ = (fa ρ >>= fun p => boolK p.1 (fb p.2) (.ok (.bl false, p.2))) := by
  unfold eAnd
  cases fa ρ with
  | ok p => obtain ⟨d, ρ'⟩ := p; cases d <;> first | rfl | (rename_i b; cases b <;> rfl)
  | err x ρ' => rfl
  | bad => rfl
@[simp] theorem eOr_ap : eOr fa fb ρ = (fa ρ >>= fun p => boolK p.1 (.ok (.bl true, p.2)) (fb p.2)) := by
  unfold eOr
  cases fa ρ with
  | ok p => obtain ⟨d, ρ'⟩ := p; cases d <;> first | rfl | (rename_i b; cases b <;> rfl)
  | err x ρ' => rfl
  | bad => rfl
@[simp] theorem eNot_ap : eNot fa ρ = (fa ρ >>= fun p => boolK p.1 (.ok (.bl false, p.2)) (.ok (.bl true, p.2))) := by
  unfold eNot
  cases fa ρ with
  | ok p => obtain ⟨d, ρ'⟩ := p; cases d <;> first | rfl | (rename_i b; cases b <;> rfl)
  | err x ρ' => rfl
  | bad => rfl
@[simp] theorem tVal_ap : tVal fa ρ = (fa ρ >>= fun p => boolK p.1 (.ok (true, p.2)) (.ok (false, p.2))) := by
  unfold tVal
  cases fa ρ with
  | ok p => obtain ⟨d, ρ'⟩ := p; cases d <;> first | rfl | (rename_i b; cases b <;> rfl)
  | err x ρ' => rfl
  | bad => rfl
@[simp] theorem eChain_ap {g h : D → D → Option D} : eChain g h fa fb fc ρ = (fa ρ >>= fun p => fb p.2 >>= fun q => Rs.of (g p.1 q.1) >>= fun z => boolK z (fc q.2 >>= fun u => Rs.of (h q.1 u.1) >>= fun w => .ok (w, u.2)) (.ok (.bl false, q.2))) := by
  unfold eChain
  cases fa ρ with
  | ok p =>
    show (fb p.2 >>= _) = (fb p.2 >>= _)
    cases fb p.2 with
    | ok q =>
      show (Rs.of (g p.1 q.1) >>= _) = (Rs.of (g p.1 q.1) >>= _)
      cases g p.1 q.1 with
      | none => rfl
      | some z => cases z <;> first | rfl | (rename_i b; cases b <;> rfl)
    | err x ρ' => rfl
    | bad => rfl
  | err x ρ' => rfl
  | bad => rfl
@[simp] theorem tAnd_ap : tAndF t u ρ = (t ρ >>= fun p => if p.1 = true then u p.2 else .ok (false, p.2)) := rfl
@[simp] theorem tOr_ap : tOrF t u ρ = (t ρ >>= fun p => if p.1 = true then .ok (true, p.2) else u p.2) := rfl
@[simp] theorem tNot_ap : tNotF t ρ = (t ρ >>= fun p => .ok (!p.1, p.2)) := rfl
@[simp] theorem bind_ite {β : Type} {c : Prop} [Decidable c] {m n : Rs α} {k : α → Rs β} : ((if c then m else n) >>= k) = if c then m >>= k else n >>= k := by split <;> rfl
@[simp] theorem eIsi_ap {T : String} : eIsi T fa ρ = (fa ρ >>= fun p => .ok (.bl (isiD T p.1), p.2)) := rfl
@[simp] theorem sNext_ap : sNext ρ = .ok (.next, ρ) := rfl
@[simp] theorem sRet_ap : sRet fa ρ = (fa ρ >>= fun p => .ok (.ret p.1, p.2)) := rfl
@[simp] theorem sSet_ap : sSet i fa ρ = (fa ρ >>= fun p => .ok (.next, p.2.set i (some p.1))) := rfl
@[simp] theorem sDrop_ap : sDrop fa ρ = (fa ρ >>= fun p => .ok (.next, p.2)) := rfl
@[simp] theorem sIf_ap : sIf t f g ρ = (t ρ >>= fun p => if p.1 = true then f p.2 else g p.2) := rfl
theorem sSeq_next {ρ' : En} (h : f ρ = .ok (.next, ρ')) : sSeq f g ρ = g ρ' := by unfold sSeq; rw [h]; rfl
theorem sSeq_ret {ρ' : En} (h : f ρ = .ok (.ret d, ρ')) : sSeq f g ρ = .ok (.ret d, ρ') := by unfold sSeq; rw [h]; rfl
end
/-- what a flow decides -/
def nextK {α : Type} (fl : Fl) (x y : Rs α) : Rs α := match fl with
  | .next => x
  | _ => y
@[simp] theorem nextK_next {α : Type} {x y : Rs α} : nextK .next x y = x := rfl
@[simp] theorem nextK_ret {α : Type} {d : D} {x y : Rs α} : nextK (.ret d) x y = y := rfl
@[simp] theorem nextK_brk {α : Type} {x y : Rs α} : nextK .brk x y = y := rfl
@[simp] theorem nextK_cont {α : Type} {x y : Rs α} : nextK .cont x y = y := rfl
@[simp] theorem sSeq_ap {f g : SF} {ρ : En} : sSeq f g ρ = (f ρ >>= fun p => nextK p.1 (g p.2) (.ok (p.1, p.2))) := by
  unfold sSeq
  cases f ρ with
  | ok p => obtain ⟨fl, ρ'⟩ := p; cases fl <;> rfl
  | err x ρ' => rfl
  | bad => rfl
/-! ### data operations -/
section
variable {i j : Int} {a b : Bool} {x y : PySem.Str} {xs ys : List D} {d : D}
@[simp] theorem addD_int : addD (.int i) (.int j) = some (.int (i + j)) := rfl
@[simp] theorem addI_int : addI (.int i) (.int j) = some (.int (i + j)) := rfl
@[simp] theorem addIS_int : addIS (.int i) (.int j) = some (.int (i + j)) := rfl
@[simp] theorem subD_int : subD (.int i) (.int j) = some (.int (i - j)) := rfl
@[simp] theorem negD_int : negD (.int i) = some (.int (-i)) := rfl
@[simp] theorem ltD_int : ltD (.int i) (.int j) = some (.bl (decide (i < j))) := rfl
@[simp] theorem leD_int : leD (.int i) (.int j) = some (.bl (decide (i ≤ j))) := rfl
@[simp] theorem gtD_int : gtD (.int i) (.int j) = some (.bl (decide (j < i))) := rfl
@[simp] theorem geD_int : geD (.int i) (.int j) = some (.bl (decide (j ≤ i))) := rfl
@[simp] theorem eqD_int : eqD (.int i) (.int j) = some (.bl (decide (i = j))) := by
  show some (D.bl (i == j)) = _
  rw [show (i == j) = decide (i = j) from rfl]
@[simp] theorem neD_int : neD (.int i) (.int j) = some (.bl (!decide (i = j))) := by
  show some (D.bl (!(i == j))) = _
  rw [show (i == j) = decide (i = j) from rfl]
@[simp] theorem catD_lst : catD (.lst xs) (.lst ys) = if xs.length + ys.length ≤ LINE then some (.lst (xs ++ ys)) else none := rfl
@[simp] theorem lenD_lst : lenD [.lst xs] = some (.int xs.length) := rfl
@[simp] theorem lenD_tup : lenD [.tup xs] = some (.int xs.length) := rfl
@[simp] theorem isND_int : isND (.int i) .non = some (.bl false) := rfl
@[simp] theorem isND_non : isND .non .non = some (.bl true) := rfl
@[simp] theorem notND_int : notND (.int i) .non = some (.bl true) := rfl
@[simp] theorem notND_non : notND .non .non = some (.bl false) := rfl
@[simp] theorem isBD_bl : isBD (.bl a) (.bl b) = some (.bl (decide (a = b))) := rfl
@[simp] theorem notBD_bl : notBD (.bl a) (.bl b) = some (.bl (!decide (a = b))) := rfl
@[simp] theorem revD_lst : revD (.lst xs) = some (.lst xs.reverse) := rfl
@[simp] theorem max2D_int : max2D [.int i, .int j] = some (.int (if j > i then j else i)) := rfl
@[simp] theorem min2D_int : min2D [.int i, .int j] = some (.int (if j < i then j else i)) := rfl
@[simp] theorem intD_int : intD [.int i] = some (.int i) := rfl
@[simp] theorem intD_bl : intD [.bl a] = some (.int (if a then 1 else 0)) := rfl
@[simp] theorem listD_lst : listD [.lst xs] = some (.lst xs) := rfl
@[simp] theorem sliceD_lst {lo hi : Option Int} : sliceD (.lst xs) lo hi = some (.lst (cutD xs lo hi)) := rfl
theorem ixD_nat {n k : Nat} (h : k < n) : ixD n (k : Int) = some k := by
  unfold ixD
  rw [if_pos (by omega), if_pos (by omega)]
  rfl
theorem ixGet_nat {k : Nat} (h : xs[k]? = some d) : ixGet (.lst xs) (.int (k : Nat)) = some d := by
  have hl : k < xs.length := (List.getElem?_eq_some_iff.mp h).1
  show (ixD xs.length (k : Int)).bind (fun j => xs[j]?) = _
  rw [ixD_nat hl]
  exact h
@[simp] theorem ixGet_0 : ixGet (.lst (d :: xs)) (.int 0) = some d := ixGet_nat (k := 0) rfl
@[simp] theorem ixGet_1 {d1 : D} : ixGet (.lst (d1 :: d :: xs)) (.int 1) = some d := ixGet_nat (k := 1) rfl
@[simp] theorem ixGet_2 {d1 d2 : D} : ixGet (.lst (d1 :: d2 :: d :: xs)) (.int 2) = some d := ixGet_nat (k := 2) rfl
theorem ixGet_tup {k : Nat} (h : xs[k]? = some d) : ixGet (.tup xs) (.int (k : Nat)) = some d := by
  have hl : k < xs.length := (List.getElem?_eq_some_iff.mp h).1
  show (ixD xs.length (k : Int)).bind (fun j => xs[j]?) = _
  rw [ixD_nat hl]
  exact h
@[simp] theorem ixGetT_0 : ixGet (.tup (d :: xs)) (.int 0) = some d := ixGet_tup (k := 0) rfl
@[simp] theorem ixGetT_1 {d1 : D} : ixGet (.tup (d1 :: d :: xs)) (.int 1) = some d := ixGet_tup (k := 1) rfl
theorem ixGet_last (h : xs.getLast? = some d) : ixGet (.lst xs) (.int (-1)) = some d := by
  have hp : 0 < xs.length := by
    cases xs with
    | nil => cases h
    | cons a r => simp
  show (ixD xs.length (-1)).bind (fun j => xs[j]?) = _
  unfold ixD
  rw [if_neg (by omega), if_pos (by omega)]
  show xs[((-1 : Int) + xs.length).toNat]? = _
  rw [show ((-1 : Int) + xs.length).toNat = xs.length - 1 by omega, ← List.getLast?_eq_getElem?]
  exact h
@[simp] theorem isi_int {T : String} : isiD T (.int i) = ("int" == T || (T == "int" && false)) := rfl
@[simp] theorem rs_of_bind {α β : Type} {o : Option α} {k : α → Rs β} {a : α} (h : o = some a) : (Rs.of o >>= k) = k a := by rw [h]; rfl
end
/-! ### slices -/
def intK {α : Type} (d : D) (f : Int → Rs α) : Rs α := match d with
  | .int i => f i
  | _ => .bad
@[simp] theorem intK_int {α : Type} {i : Int} {f : Int → Rs α} : intK (.int i) f = f i := rfl
section
variable {fa fb fc : EF} {ρ : En}
@[simp] theorem eSlice_00 : eSlice fa none none ρ = (fa ρ >>= fun p => Rs.of (sliceD p.1 none none) >>= fun z => .ok (z, p.2)) := rfl
@[simp] theorem eSlice_01 : eSlice fa none (some fb) ρ = (fa ρ >>= fun p => fb p.2 >>= fun u => intK u.1 fun i => Rs.of (sliceD p.1 none (some i)) >>= fun z => .ok (z, u.2)) := by
  unfold eSlice
  cases fa ρ with
  | ok p =>
    show ((fb p.2 >>= _) >>= _) = (fb p.2 >>= _)
    cases fb p.2 with
    | ok u => obtain ⟨d, ρ'⟩ := u; cases d <;> rfl
    | err x ρ' => rfl
    | bad => rfl
  | err x ρ' => rfl
  | bad => rfl
@[simp] theorem eSlice_10 : eSlice fa (some fb) none ρ = (fa ρ >>= fun p => fb p.2 >>= fun u => intK u.1 fun i => Rs.of (sliceD p.1 (some i) none) >>= fun z => .ok (z, u.2)) := by
  unfold eSlice
  cases fa ρ with
  | ok p =>
    show ((fb p.2 >>= _) >>= _) = (fb p.2 >>= _)
    cases fb p.2 with
    | ok u => obtain ⟨d, ρ'⟩ := u; cases d <;> rfl
    | err x ρ' => rfl
    | bad => rfl
  | err x ρ' => rfl
  | bad => rfl
end
/-! ### lending, changing -/
def nerr {α : Type} : Rs α → Rs α
  | .ok a => .ok a
  | _ => .bad
@[simp] theorem nerr_ok {α : Type} {a : α} : nerr (.ok a) = .ok a := rfl
@[simp] theorem nerr_bad {α : Type} : nerr (.bad : Rs α) = .bad := rfl
@[simp] theorem nerr_ite {α : Type} {c : Prop} [Decidable c] {m n : Rs α} : nerr (if c then m else n) = if c then nerr m else nerr n := by split <;> rfl
@[simp] theorem eBor_ap {κ : Md} {js : List (Nat × Md)} {f : EF} {ρ : En} : eBor κ js f ρ = (nerr (f ρ) >>= fun p => if flatM κ p.1 = true then Rs.of (borBack js ρ p.2) >>= fun z => .ok (p.1, z) else .bad) := by
  unfold eBor; cases f ρ <;> rfl
@[simp] theorem tBor_ap {js : List (Nat × Md)} {t : TF} {ρ : En} : tBor js t ρ = (nerr (t ρ) >>= fun p => Rs.of (borBack js ρ p.2) >>= fun z => .ok (p.1, z)) := by
  unfold tBor; cases t ρ <;> rfl
@[simp] theorem sFrz_ap {is : List Nat} {f : SF} {ρ : En} : sFrz is f ρ = (nerr (f ρ) >>= fun p => .ok (p.1, wipeE p.2 is)) := by
  unfold sFrz; cases f ρ <;> rfl
@[simp] theorem borBack_nil {ρ ρ' : En} : borBack [] ρ ρ' = some ρ := rfl
@[simp] theorem wipeE_nil {ρ : En} : wipeE ρ [] = ρ := rfl
@[simp] theorem wipeE_cons {ρ : En} {i : Nat} {is : List Nat} : wipeE ρ (i :: is) = (wipeE ρ is).set i none := rfl
@[simp] theorem flatM_im {d : D} : flatM .im d = flat d := by cases d <;> rfl
@[simp] theorem flat_int {i : Int} : flat (.int i) = true := rfl
@[simp] theorem flat_str {x : PySem.Str} : flat (.str x) = true := rfl
@[simp] theorem flat_bl {b : Bool} : flat (.bl b) = true := rfl
@[simp] theorem flat_non : flat .non = true := rfl
@[simp] theorem flat_tup {ds : List D} : flat (.tup ds) = flatA ds := rfl
@[simp] theorem flatA_nil : flatA [] = true := rfl
@[simp] theorem flatA_cons {d : D} {ds : List D} : flatA (d :: ds) = (flat d && flatA ds) := rfl
@[simp] theorem agEval_r0 {d : D} {gs : List Ag} {ρ : En} : agEval (.r 0 :: gs) (some d :: ρ) = (agEval gs (some d :: ρ) >>= fun q => .ok (.r 0 :: q.1, q.2)) := rfl
@[simp] theorem agFill_r0 {d : D} {qs : List Aq} {ρ : En} : agFill (.r 0 :: qs) (some d :: ρ) = (agFill qs (some d :: ρ)).map (d :: ·) := rfl
@[simp] theorem refsA_r {i : Nat} {gs : List Ag} : refsA (.r i :: gs) = i :: refsA gs := rfl
@[simp] theorem agBack_0 {d d' : D} {is : List Nat} {ds : List D} {ρ : En} : agBack (0 :: is) (d :: ds) (some d' :: ρ) = agBack is ds (some d :: ρ) := rfl
def stK (k : Int) (d : D) : En → Rs (Fl × En)
  | some (.lst ds) :: ρ => (match ixD ds.length k with
    | some j => .ok (.next, some (.lst (ds.set j d)) :: ρ)
    | none => .bad)
  | _ => .bad
@[simp] theorem sSetIx_lit {f : EF} {ρ : En} {k : Int} : sSetIx 0 (eC (.int k)) f ρ = (f ρ >>= fun p => stK k p.1 p.2) := by
  unfold sSetIx
  cases f ρ with
  | err x ρ' => rfl
  | bad => rfl
  | ok p =>
    obtain ⟨d, ρ1⟩ := p
    cases ρ1 with
    | nil => rfl
    | cons o ρ1 =>
      cases o with
      | none => rfl
      | some v => cases v <;> rfl
@[simp] theorem stK_3_0 {a b c d : D} {ρ : En} : stK 0 d (some (.lst [a, b, c]) :: ρ) = .ok (.next, some (.lst [d, b, c]) :: ρ) := rfl
@[simp] theorem stK_3_1 {a b c d : D} {ρ : En} : stK 1 d (some (.lst [a, b, c]) :: ρ) = .ok (.next, some (.lst [a, d, c]) :: ρ) := rfl
@[simp] theorem stK_3_2 {a b c d : D} {ρ : En} : stK 2 d (some (.lst [a, b, c]) :: ρ) = .ok (.next, some (.lst [a, b, d]) :: ρ) := rfl
theorem sAppend_at {i : Nat} {f : EF} {ρ ρ1 : En} {ds0 ds : List D} {d : D} (h0 : ρ[i]? = some (some (.lst ds0))) (h : f ρ = .ok (d, ρ1)) (h1 : ρ1[i]? = some (some (.lst ds))) (hl : ds.length < LINE) : sAppend i f ρ = .ok (.next, ρ1.set i (some (.lst (ds ++ [d])))) := by
  unfold sAppend
  rw [h0]
  show (f ρ >>= fun p => _) = _
  rw [h]
  show (match ρ1[i]? with
    | some (some (D.lst ds)) => if ds.length < LINE then Rs.ok (Fl.next, ρ1.set i (some (.lst (ds ++ [d])))) else .bad
    | _ => .bad) = _
  rw [h1]
  exact if_pos hl
@[simp] theorem mulD_int {i j : Int} : mulD (.int i) (.int j) = if mulOk i j = true then some (.int (i * j)) else none := rfl
theorem mulOk_r {i j : Int} (h : j.natAbs < 2 ^ 64) : mulOk i j = true := by unfold mulOk; simp [h]
theorem mulOk_l {i j : Int} (h : i.natAbs < 2 ^ 64) : mulOk i j = true := by unfold mulOk; simp [h]
@[simp] theorem modD_int {i j : Int} : modD (.int i) (.int j) = if 0 < j then some (.int (i % j)) else none := rfl
@[simp] theorem fdivD_int {i j : Int} : fdivD (.int i) (.int j) = if 0 < j ∧ (j < 1073741824 ∨ j.natAbs.log2 < 9000) then some (.int (i / j)) else none := rfl
theorem powD_int {i j : Int} (h1 : 0 ≤ j) (h2 : j ≤ 100000) (h3 : i.natAbs < 2 ^ 1000) : powD (.int i) (.int j) = some (.int (i ^ j.toNat)) := if_pos ⟨h1, h2, h3⟩
@[simp] theorem rs_of_ite {α : Type} {c : Prop} [Decidable c] {m n : Option α} : Rs.of (if c then m else n) = if c then Rs.of m else Rs.of n := by split <;> rfl
@[simp] theorem runF_ap {n : Nat} {ms : List Pm} {f : SF} {ds : List D} : runF n ms f ds = (f (ds.map some ++ List.replicate (n - ds.length) none) >>= fun p => match p.1 with
  | .ret d => Rs.of (refsOf ms p.2) >>= fun rs => .ok (d, rs)
  | .next => Rs.of (refsOf ms p.2) >>= fun rs => .ok (.non, rs)
  | _ => .bad) := rfl
@[simp] theorem refsOf_nil {ρ : En} : refsOf [] ρ = some [] := rfl
@[simp] theorem refsOf_im {ms : List Pm} {o : Option D} {ρ : En} : refsOf (.im :: ms) (o :: ρ) = refsOf ms ρ := rfl
@[simp] theorem refsOf_rf {ms : List Pm} {d : D} {ρ : En} : refsOf (.rf :: ms) (some d :: ρ) = (refsOf ms ρ).map (d :: ·) := rfl
/-! ### loops -/
/-- a loop that runs to its end: the invariant I k ρ after k turns -/
theorem loop_all {g : GF} {b : SF} (I : Nat → En → Prop) : ∀ {ds : List D} {k : Nat} {ρ : En}, I k ρ →
    (∀ j d ρ, ds[j]? = some d → I (k + j) ρ → ∃ ρ1, g d ρ = .ok ρ1 ∧ ∃ fl ρ2, b ρ1 = .ok (fl, ρ2) ∧ (fl = .next ∨ fl = .cont) ∧ I (k + j + 1) ρ2) → ∃ ρ', loop g b ds ρ = .ok (.next, ρ') ∧ I (k + ds.length) ρ'
  | [], k, ρ, h, _ => ⟨ρ, rfl, h⟩
  | d :: ds, k, ρ, h, st => by
    obtain ⟨ρ1, e1, fl, ρ2, e2, hfl, h2⟩ := st 0 d ρ rfl h
    obtain ⟨ρ', e3, h3⟩ := loop_all (g := g) (b := b) I (ds := ds) (k := k + 1) (ρ := ρ2) h2 fun j d' ρ hd hI => by
      have := st (j + 1) d' ρ (by simpa using hd) (by rwa [show k + (j + 1) = k + 1 + j by omega])
      rwa [show k + (j + 1) + 1 = k + 1 + j + 1 by omega] at this
    refine ⟨ρ', ?_, by rwa [show k + (d :: ds).length = k + 1 + ds.length by simp; omega]⟩
    show (g d ρ >>= fun ρ1 => b ρ1 >>= fun q => match q.1 with
      | .next => loop g b ds q.2
      | .cont => loop g b ds q.2
      | .brk => .ok (.next, q.2)
      | .ret v => .ok (.ret v, q.2)) = _
    rw [e1]
    show (b ρ1 >>= _) = _
    rw [e2]
    rcases hfl with rfl | rfl
    · exact e3
    · exact e3
theorem for_all {src : IF} {g : GF} {b : SF} {ρ ρ0 : En} {ds : List D} (I : Nat → En → Prop) (hs : src ρ = .ok (ds, ρ0)) (h0 : I 0 ρ0)
    (st : ∀ j d ρ, ds[j]? = some d → I j ρ → ∃ ρ1, g d ρ = .ok ρ1 ∧ ∃ fl ρ2, b ρ1 = .ok (fl, ρ2) ∧ (fl = .next ∨ fl = .cont) ∧ I (j + 1) ρ2) : ∃ ρ', sFor src g b ρ = .ok (.next, ρ') ∧ I ds.length ρ' := by
  obtain ⟨ρ', e, h⟩ := loop_all (g := g) (b := b) I (ds := ds) (k := 0) (ρ := ρ0) h0 fun j d ρ hd hI => by
    have := st j d ρ hd (by rwa [Nat.zero_add] at hI)
    rwa [Nat.zero_add]
  rw [Nat.zero_add] at h
  refine ⟨ρ', ?_, h⟩
  unfold sFor
  rw [hs]
  exact e
/-- a while loop that ends by its test: m bounds the turns that are left -/
theorem while_all {t : TF} {b : SF} (I : Nat → En → Prop) : ∀ {n m : Nat} {ρ : En}, m < n → I m ρ →
    (∀ m ρ, I m ρ → (∃ ρ1, t ρ = .ok (false, ρ1) ∧ I 0 ρ1) ∨ ∃ ρ1 fl ρ2 m', t ρ = .ok (true, ρ1) ∧ b ρ1 = .ok (fl, ρ2) ∧ (fl = .next ∨ fl = .cont) ∧ m' < m ∧ I m' ρ2) →
    ∃ ρ', whileN t b n ρ = .ok (.next, ρ') ∧ I 0 ρ'
  | 0, m, ρ, hm, _, _ => absurd hm (Nat.not_lt_zero _)
  | n + 1, m, ρ, hm, h, st => by
    rcases st m ρ h with ⟨ρ1, e, h1⟩ | ⟨ρ1, fl, ρ2, m', e1, e2, hfl, hm', h2⟩
    · refine ⟨ρ1, ?_, h1⟩
      unfold whileN
      rw [e]
      rfl
    · obtain ⟨ρ', e3, h3⟩ := while_all I (n := n) (m := m') (ρ := ρ2) (by omega) h2 st
      refine ⟨ρ', ?_, h3⟩
      unfold whileN
      rw [e1]
      show (b ρ1 >>= _) = _
      rw [e2]
      rcases hfl with rfl | rfl
      · exact e3
      · exact e3

/-! ### comprehensions -/
theorem set_self {ρ : En} {i : Nat} : ρ.set i ((ρ[i]?).getD none) = ρ := by
  refine List.ext_getElem? fun j => ?_
  rw [List.getElem?_set]
  by_cases e : i = j
  · subst e
    rw [if_pos rfl]
    cases h : ρ[i]? with
    | none => rw [if_neg (by have := List.getElem?_eq_none_iff.mp h; omega)]
    | some o => rw [if_pos (List.getElem?_eq_some_iff.mp h).1]; rfl
  · rw [if_neg e]
theorem compN_pure {i : Nat} {t : TF} {e : EF} {ρ1 : En} {b : D → Bool} {φ : D → D} : ∀ {ds : List D} {ρ : En} {acc : List D}, ρ.set i none = ρ1.set i none →
    (∀ d ∈ ds, t (ρ1.set i (some d)) = .ok (b d, ρ1.set i (some d)) ∧ (b d = true → e (ρ1.set i (some d)) = .ok (φ d, ρ1.set i (some d)))) →
    ∃ ρ', compN [i] (gSet i) t e ds ρ acc = .ok (acc ++ (ds.filter b).map φ, ρ') ∧ ρ'.set i none = ρ1.set i none
  | [], ρ, acc, h, _ => ⟨ρ, by simp [compN], h⟩
  | d :: ds, ρ, acc, h, k => by
    obtain ⟨k1, k2⟩ := k d List.mem_cons_self
    have e0 : gSet i d (wipeE ρ [i]) = .ok (ρ1.set i (some d)) := by
      show Rs.ok ((ρ.set i none).set i (some d)) = _
      rw [h, List.set_set]
    have hs : (ρ1.set i (some d)).set i none = ρ1.set i none := by rw [List.set_set]
    unfold compN
    rw [e0]
    show ∃ ρ', (t (ρ1.set i (some d)) >>= fun p => if p.1 = true then e p.2 >>= fun q => compN [i] (gSet i) t e ds q.2 (acc ++ [q.1]) else compN [i] (gSet i) t e ds p.2 acc) = _ ∧ _
    rw [k1]
    cases hb : b d with
    | true =>
      obtain ⟨ρ', e1, e2⟩ := compN_pure (ρ := ρ1.set i (some d)) (acc := acc ++ [φ d]) hs fun d hd => k d (List.mem_cons_of_mem _ hd)
      refine ⟨ρ', ?_, e2⟩
      show (e (ρ1.set i (some d)) >>= fun q => compN [i] (gSet i) t e ds q.2 (acc ++ [q.1])) = _
      rw [k2 hb]
      refine e1.trans ?_
      simp [hb]
    | false =>
      obtain ⟨ρ', e1, e2⟩ := compN_pure (ρ := ρ1.set i (some d)) (acc := acc) hs fun d hd => k d (List.mem_cons_of_mem _ hd)
      refine ⟨ρ', ?_, e2⟩
      refine e1.trans ?_
      simp [hb]
/-- a comprehension over one name, of pure parts -/
theorem comp_pure {i : Nat} {src : IF} {t : TF} {e : EF} {ρ ρ1 : En} {ds : List D} (b : D → Bool) (φ : D → D) (hs : src ρ = .ok (ds, ρ1)) (hl : ds.length ≤ LINE)
    (k : ∀ d ∈ ds, t (ρ1.set i (some d)) = .ok (b d, ρ1.set i (some d)) ∧ (b d = true → e (ρ1.set i (some d)) = .ok (φ d, ρ1.set i (some d)))) : eComp [i] src (gSet i) t e ρ = .ok (.lst ((ds.filter b).map φ), ρ1) := by
  obtain ⟨ρ', e1, e2⟩ := compN_pure (ρ := ρ1) (acc := []) rfl k
  unfold eComp
  rw [hs]
  show (if ds.length ≤ LINE then compN [i] (gSet i) t e ds ρ1 [] >>= fun q => Rs.ok (D.lst q.1, backE ρ1 q.2 [i]) else Rs.bad) = _
  rw [if_pos hl, e1]
  show Rs.ok (D.lst ([] ++ _), ρ'.set i ((ρ1[i]?).getD none)) = _
  have : ρ'.set i ((ρ1[i]?).getD none) = ρ1 := by
    rw [← List.set_set (a := none), e2, List.set_set, set_self]
  rw [this]
  rfl
theorem sAppend2_at {i : Nat} {fk : EF} {f : PF} {ρ ρ1 : En} {ds0 ds es : List D} {k : Nat} {d : D} (h0 : ρ[i]? = some (some (.lst ds0))) (hk : fk ρ = .ok (.int k, ρ1)) (h1 : ρ1[i]? = some (some (.lst ds))) (hd : ds[k]? = some (.lst es)) (hf : f ρ1 = .ok d) (fl : flat d = true) (hl : es.length < LINE) :
    sAppend2 i fk f ρ = .ok (.next, ρ1.set i (some (.lst (ds.set k (.lst (es ++ [d])))))) := by
  unfold sAppend2
  rw [h0]
  show (fk ρ >>= fun q => _) = _
  rw [hk]
  show (match ρ1[i]?, D.int k with
    | some (some (.lst ds)), .int k => (match ixD ds.length k with
      | some j => (match ds[j]? with
        | some (.lst es) => f ρ1 >>= fun d => if (flat d && decide (es.length < LINE)) = true then Rs.ok (Fl.next, ρ1.set i (some (.lst (ds.set j (.lst (es ++ [d])))))) else .bad
        | _ => .bad)
      | none => .bad)
    | _, _ => .bad) = _
  rw [h1]
  show (match ixD ds.length (k : Int) with
      | some j => (match ds[j]? with
        | some (.lst es) => f ρ1 >>= fun d => if (flat d && decide (es.length < LINE)) = true then Rs.ok (Fl.next, ρ1.set i (some (.lst (ds.set j (.lst (es ++ [d])))))) else .bad
        | _ => .bad)
      | none => .bad) = _
  rw [ixD_nat (List.getElem?_eq_some_iff.mp hd).1]
  show (match ds[k]? with
        | some (.lst es) => f ρ1 >>= fun d => if (flat d && decide (es.length < LINE)) = true then Rs.ok (Fl.next, ρ1.set i (some (.lst (ds.set k (.lst (es ++ [d])))))) else .bad
        | _ => .bad) = _
  rw [hd]
  show (f ρ1 >>= fun d => if (flat d && decide (es.length < LINE)) = true then Rs.ok (Fl.next, ρ1.set i (some (.lst (ds.set k (.lst (es ++ [d])))))) else .bad) = _
  rw [hf]
  show (if (flat d && decide (es.length < LINE)) = true then Rs.ok (Fl.next, ρ1.set i (some (.lst (ds.set k (.lst (es ++ [d])))))) else .bad) = _
  rw [if_pos (by rw [fl]; simpa using hl)]
end VL

set_option Elab.async false
set_option linter.all false
/-! VW: what a run is worth, by postconditions; the evaluation stops at loops. -/
namespace VL
open PySem
def wpR {α : Type} (m : Rs α) (Q : α → Prop) (E : Ex → En → Prop) : Prop := match m with
  | .ok a => Q a
  | .err x ρ => E x ρ
  | .bad => False
/-- a structure, so that nothing unfolds it -/
structure WP {α : Type} (m : Rs α) (Q : α → Prop) (E : Ex → En → Prop) : Prop where
  of : wpR m Q E
theorem WP_def {α : Type} {m : Rs α} {Q : α → Prop} {E : Ex → En → Prop} : WP m Q E = wpR m Q E := propext ⟨fun h => h.of, fun h => ⟨h⟩⟩
/-- no error -/
abbrev NoE : Ex → En → Prop := fun _ _ => False
section
variable {α β : Type} {m : Rs α} {Q : β → Prop} {E : Ex → En → Prop}
@[simp] theorem WP_ok {a : α} {Q : α → Prop} : WP (.ok a) Q E = Q a := WP_def
@[simp] theorem WP_err {x : Ex} {ρ : En} {Q : α → Prop} : WP (.err x ρ : Rs α) Q E = E x ρ := WP_def
@[simp] theorem WP_bad {Q : α → Prop} : WP (.bad : Rs α) Q E = False := WP_def
@[simp] theorem WP_bind {f : α → Rs β} : WP (m >>= f) Q E = WP m (fun a => WP (f a) Q E) E := by
  cases m with
  | ok a => rw [WP_ok, Rs.ok_bind]
  | err x ρ => rw [Rs.err_bind, WP_err, WP_err]
  | bad => rw [Rs.bad_bind, WP_bad, WP_bad]
@[simp] theorem WP_ite {c : Prop} [Decidable c] {m n : Rs α} {Q : α → Prop} : WP (if c then m else n) Q E = if c then WP m Q E else WP n Q E := by split <;> rfl
theorem WP_mono {Q R : α → Prop} (h : WP m Q E) (k : ∀ a, Q a → R a) : WP m R E := by
  refine ⟨?_⟩
  have h := h.of
  cases m with
  | ok a => exact k a h
  | err x ρ => exact h
  | bad => exact h
theorem WP_eq {a : α} {Q : α → Prop} (e : m = .ok a) (h : Q a) : WP m Q E := by rw [e, WP_ok]; exact h
theorem of_WP {a : α} (h : WP m (fun b => b = a) NoE) : m = .ok a := by
  have h := h.of
  cases m with
  | ok b => exact congrArg Rs.ok h
  | err x ρ => exact h.elim
  | bad => exact h.elim
theorem of_WPE {Q : α → Prop} (h : WP m Q NoE) : ∃ a, m = .ok a ∧ Q a := by
  have h := h.of
  cases m with
  | ok b => exact ⟨b, rfl, h⟩
  | err x ρ => exact h.elim
  | bad => exact h.elim
end
/-- what goes on behind a statement -/
def nextP (fl : Fl) (x y : Prop) : Prop := match fl with
  | .next => x
  | _ => y
@[simp] theorem nextP_next {x y : Prop} : nextP .next x y = x := rfl
@[simp] theorem nextP_ret {d : D} {x y : Prop} : nextP (.ret d) x y = y := rfl
@[simp] theorem nextP_brk {x y : Prop} : nextP .brk x y = y := rfl
@[simp] theorem nextP_cont {x y : Prop} : nextP .cont x y = y := rfl
theorem nextP_congr {fl fl' : Fl} {x y : Prop} (h : fl = fl') : nextP fl x y = nextP fl' x y := by rw [h]
theorem WP_seq {f g : SF} {ρ : En} {Q : Fl × En → Prop} {E : Ex → En → Prop} : WP (sSeq f g ρ) Q E = WP (f ρ) (fun p => nextP p.1 (WP (g p.2) Q E) (Q p)) E := by
  show WP (f ρ >>= fun p => match p.1 with
    | .next => g p.2
    | fl => .ok (fl, p.2)) Q E = _
  rw [WP_bind]
  refine congrArg (fun z => WP (f ρ) z E) (funext fun p => ?_)
  obtain ⟨fl, ρ'⟩ := p
  cases fl with
  | next => rfl
  | brk => exact WP_ok
  | cont => exact WP_ok
  | ret d => exact WP_ok
theorem WP_sq {f g : SF} {ρ ρ' : En} {Q : Fl × En → Prop} {E : Ex → En → Prop} (h : f ρ = .ok (.next, ρ')) (k : WP (g ρ') Q E) : WP (sSeq f g ρ) Q E := by
  rw [WP_seq, h, WP_ok]; exact k
theorem WP_set {i : Nat} {f : EF} {g : SF} {ρ ρ' : En} {d : D} {Q : Fl × En → Prop} {E : Ex → En → Prop} (h : f ρ = .ok (d, ρ')) (k : WP (g (ρ'.set i (some d))) Q E) : WP (sSeq (sSet i f) g ρ) Q E :=
  WP_sq (by show (f ρ >>= _) = _; rw [h]; rfl) k
theorem WP_sqr {f g : SF} {ρ ρ' : En} {d : D} {Q : Fl × En → Prop} {E : Ex → En → Prop} (h : f ρ = .ok (.ret d, ρ')) (k : Q (.ret d, ρ')) : WP (sSeq f g ρ) Q E := by
  rw [WP_seq, h, WP_ok]; exact k
theorem WP_sif {t : TF} {f g k : SF} {ρ ρ' : En} {b : Bool} {Q : Fl × En → Prop} {E : Ex → En → Prop} (h : t ρ = .ok (b, ρ')) (k1 : b = true → WP (sSeq f k ρ') Q E) (k2 : b = false → WP (sSeq g k ρ') Q E) : WP (sSeq (sIf t f g) k ρ) Q E := by
  have e : sIf t f g ρ = if b = true then f ρ' else g ρ' := by
    show (t ρ >>= _) = _
    rw [h]; rfl
  rw [WP_seq, e]
  cases b with
  | true => rw [if_pos rfl, ← WP_seq]; exact k1 rfl
  | false => rw [if_neg (by decide), ← WP_seq]; exact k2 rfl
theorem WP_if {t : TF} {f g : SF} {ρ ρ' : En} {b : Bool} {Q : Fl × En → Prop} {E : Ex → En → Prop} (h : t ρ = .ok (b, ρ')) (k1 : b = true → WP (f ρ') Q E) (k2 : b = false → WP (g ρ') Q E) : WP (sIf t f g ρ) Q E := by
  have e : sIf t f g ρ = if b = true then f ρ' else g ρ' := by
    show (t ρ >>= _) = _
    rw [h]; rfl
  rw [e]
  cases b with
  | true => rw [if_pos rfl]; exact k1 rfl
  | false => rw [if_neg (by decide)]; exact k2 rfl
theorem WP_next {k : SF} {ρ : En} {Q : Fl × En → Prop} {E : Ex → En → Prop} (h : WP (k ρ) Q E) : WP (sSeq sNext k ρ) Q E := by rw [WP_seq, sNext_ap, WP_ok]; exact h
/-- a loop ahead of other things -/
theorem WP_sqW {f g : SF} {ρ : En} {Q : Fl × En → Prop} {E : Ex → En → Prop} (h : WP (f ρ) (fun p => nextP p.1 (WP (g p.2) Q E) (Q p)) E) : WP (sSeq f g ρ) Q E := by
  rw [WP_seq]; exact h
/-- what a turn of a loop must leave -/
def turnP (fl : Fl) (I : Prop) (Q : Fl → Prop) : Prop := match fl with
  | .next => I
  | .cont => I
  | .brk => Q .next
  | .ret v => Q (.ret v)
@[simp] theorem turnP_next {I : Prop} {Q : Fl → Prop} : turnP .next I Q = I := rfl
@[simp] theorem turnP_cont {I : Prop} {Q : Fl → Prop} : turnP .cont I Q = I := rfl
@[simp] theorem turnP_brk {I : Prop} {Q : Fl → Prop} : turnP .brk I Q = Q .next := rfl
@[simp] theorem turnP_ret {I : Prop} {Q : Fl → Prop} {v : D} : turnP (.ret v) I Q = Q (.ret v) := rfl
theorem WP_loop {g : GF} {b : SF} {Q : Fl × En → Prop} {E : Ex → En → Prop} (I : Nat → En → Prop) : ∀ {ds : List D} {k : Nat} {ρ : En}, I k ρ →
    (∀ j d ρ, ds[j]? = some d → I (k + j) ρ → WP (g d ρ) (fun ρ1 => WP (b ρ1) (fun q => turnP q.1 (I (k + j + 1) q.2) fun fl => Q (fl, q.2)) E) E) → (∀ ρ, I (k + ds.length) ρ → Q (.next, ρ)) → WP (loop g b ds ρ) Q E
  | [], k, ρ, h, _, q => ⟨q ρ h⟩
  | d :: ds, k, ρ, h, st, q => by
    have h1 := st 0 d ρ rfl h
    have ih : ∀ ρ2, I (k + 1) ρ2 → WP (loop g b ds ρ2) Q E := fun ρ2 h2 => WP_loop I (ds := ds) (k := k + 1) (ρ := ρ2) h2 (fun j d' ρ hd hI => by
      have := st (j + 1) d' ρ (by simpa using hd) (by rwa [show k + (j + 1) = k + 1 + j by omega])
      rwa [show k + (j + 1) + 1 = k + 1 + j + 1 by omega] at this) (fun ρ hI => q ρ (by rwa [show k + (d :: ds).length = k + 1 + ds.length by simp; omega]))
    show WP (g d ρ >>= fun ρ1 => b ρ1 >>= fun q => match q.1 with
      | .next => loop g b ds q.2
      | .cont => loop g b ds q.2
      | .brk => .ok (.next, q.2)
      | .ret v => .ok (.ret v, q.2)) Q E
    rw [WP_bind]
    refine WP_mono h1 fun ρ1 h2 => ?_
    rw [WP_bind]
    refine WP_mono h2 fun q h3 => ?_
    obtain ⟨fl, ρ2⟩ := q
    cases fl with
    | next => exact ih ρ2 h3
    | cont => exact ih ρ2 h3
    | brk => exact ⟨h3⟩
    | ret v => exact ⟨h3⟩
/-- a for loop over data that encode xs -/
theorem WP_for {β : Type} {enc : β → D} {xs : List β} {src : IF} {g : GF} {b : SF} {ρ ρ0 : En} {Q : Fl × En → Prop} {E : Ex → En → Prop} (I : Nat → En → Prop) (hs : src ρ = .ok (xs.map enc, ρ0)) (h0 : I 0 ρ0)
    (st : ∀ j x ρ, xs[j]? = some x → I j ρ → WP (g (enc x) ρ) (fun ρ1 => WP (b ρ1) (fun q => turnP q.1 (I (j + 1) q.2) fun fl => Q (fl, q.2)) E) E) (hq : ∀ ρ, I xs.length ρ → Q (.next, ρ)) : WP (sFor src g b ρ) Q E := by
  unfold sFor
  rw [hs]
  refine WP_loop I (k := 0) h0 (fun j d ρ hd hI => ?_) (fun ρ hI => hq ρ (by rwa [Nat.zero_add, List.length_map] at hI))
  rw [List.getElem?_map] at hd
  obtain ⟨x, hx, rfl⟩ := Option.map_eq_some_iff.mp hd
  rw [Nat.zero_add] at hI ⊢
  exact st j x ρ hx hI
theorem WP_for0 {src : IF} {g : GF} {b : SF} {ρ ρ0 : En} {ds : List D} {Q : Fl × En → Prop} {E : Ex → En → Prop} (I : Nat → En → Prop) (hs : src ρ = .ok (ds, ρ0)) (h0 : I 0 ρ0)
    (st : ∀ j x ρ, ds[j]? = some x → I j ρ → WP (g x ρ) (fun ρ1 => WP (b ρ1) (fun q => turnP q.1 (I (j + 1) q.2) fun fl => Q (fl, q.2)) E) E) (hq : ∀ ρ, I ds.length ρ → Q (.next, ρ)) : WP (sFor src g b ρ) Q E :=
  WP_for (enc := id) I (by rw [List.map_id]; exact hs) h0 st hq
/-- for j, x in enumerate(..) -/
theorem WP_enum {β : Type} {enc : β → D} {xs : List β} {fe : EF} {g : GF} {b : SF} {ρ ρ0 : En} {Q : Fl × En → Prop} {E : Ex → En → Prop} (I : Nat → En → Prop) (hs : fe ρ = .ok (.lst (xs.map enc), ρ0)) (h0 : I 0 ρ0)
    (st : ∀ j x ρ, xs[j]? = some x → I j ρ → WP (g (.tup [.int (j : Nat), enc x]) ρ) (fun ρ1 => WP (b ρ1) (fun q => turnP q.1 (I (j + 1) q.2) fun fl => Q (fl, q.2)) E) E) (hq : ∀ ρ, I xs.length ρ → Q (.next, ρ)) : WP (sFor (iEnumF [fe]) g b ρ) Q E := by
  have len : ∀ (xs : List β) (k : Nat), (enumD k (xs.map enc)).length = xs.length := fun xs => by
    induction xs with
    | nil => intro k; rfl
    | cons x xs ih => intro k; show (enumD (k + 1) (xs.map enc)).length + 1 = _; rw [ih]; rfl
  have get : ∀ (xs : List β) (k j : Nat) (d : D), (enumD k (xs.map enc))[j]? = some d → ∃ x, xs[j]? = some x ∧ d = .tup [.int ((k + j : Nat)), enc x] := fun xs => by
    induction xs with
    | nil => intro k j d h; cases j <;> cases h
    | cons x xs ih =>
      intro k j d h
      cases j with
      | zero => cases h; exact ⟨x, rfl, rfl⟩
      | succ j =>
        obtain ⟨y, h1, h2⟩ := ih (k + 1) j d h
        exact ⟨y, h1, by rw [h2, show k + 1 + j = k + (j + 1) by omega]⟩
  refine WP_for0 (ds := enumD 0 (xs.map enc)) I ?_ h0 (fun j d ρ hd hI => ?_) (fun ρ hI => hq ρ (by rwa [len] at hI))
  · show (eArgs [fe] ρ >>= _) = _
    rw [eArgs_cons, hs]
    rfl
  · obtain ⟨x, h1, rfl⟩ := get xs 0 j d hd
    rw [Nat.zero_add]
    exact st j x ρ h1 hI
theorem WP_zip {β γ : Type} {enc : β → D} {enc2 : γ → D} {xs : List β} {ys : List γ} {fe fe2 : EF} {g : GF} {b : SF} {ρ ρ0 ρ1 : En} {Q : Fl × En → Prop} {E : Ex → En → Prop} (I : Nat → En → Prop) (hs : fe ρ = .ok (.lst (xs.map enc), ρ0)) (hs2 : fe2 ρ0 = .ok (.lst (ys.map enc2), ρ1)) (h0 : I 0 ρ1)
    (st : ∀ j x y ρ, xs[j]? = some x → ys[j]? = some y → I j ρ → WP (g (.tup [enc x, enc2 y]) ρ) (fun ρ1 => WP (b ρ1) (fun q => turnP q.1 (I (j + 1) q.2) fun fl => Q (fl, q.2)) E) E) (hq : ∀ ρ, I (min xs.length ys.length) ρ → Q (.next, ρ)) : WP (sFor (iZipF [fe, fe2]) g b ρ) Q E := by
  have zz : ∀ (xs : List β) (ys : List γ), zipD (xs.map enc) (ys.map enc2) = (xs.zip ys).map fun p => .tup [enc p.1, enc2 p.2] := fun xs => by
    induction xs with
    | nil => intro ys; cases ys <;> rfl
    | cons x xs ih =>
      intro ys
      cases ys with
      | nil => rfl
      | cons y ys => show _ :: zipD (xs.map enc) (ys.map enc2) = _; rw [ih]; rfl
  refine WP_for (xs := xs.zip ys) (enc := fun p => .tup [enc p.1, enc2 p.2]) I ?_ h0 (fun j p ρ hd hI => ?_) (fun ρ hI => hq ρ (by rwa [List.length_zip] at hI))
  · show (eArgs [fe, fe2] ρ >>= _) = _
    rw [eArgs_cons, hs, Rs.ok_bind, eArgs_cons, hs2, Rs.ok_bind, eArgs_nil, Rs.ok_bind, Rs.ok_bind, Rs.ok_bind, ← zz]
  · rw [List.getElem?_zip_eq_some] at hd
    exact st j p.1 p.2 ρ hd.1 hd.2 hI
theorem WP_whileN {t : TF} {b : SF} {Q : Fl × En → Prop} {E : Ex → En → Prop} (I : Nat → En → Prop)
    (st : ∀ m ρ, I m ρ → WP (t ρ) (fun p => if p.1 = true then WP (b p.2) (fun q => turnP q.1 (∃ m', m' < m ∧ I m' q.2) fun fl => Q (fl, q.2)) E else Q (.next, p.2)) E) : ∀ {n m : Nat} {ρ : En}, m < n → I m ρ → WP (whileN t b n ρ) Q E
  | 0, m, ρ, hm, _ => absurd hm (Nat.not_lt_zero _)
  | n + 1, m, ρ, hm, h => by
    show WP (t ρ >>= fun p => if p.1 = true then (b p.2 >>= fun q => match q.1 with
      | .next => whileN t b n q.2
      | .cont => whileN t b n q.2
      | .brk => .ok (.next, q.2)
      | .ret v => .ok (.ret v, q.2)) else .ok (.next, p.2)) Q E
    rw [WP_bind]
    refine WP_mono (st m ρ h) fun p hp => ?_
    by_cases hb : p.1 = true
    · rw [if_pos hb] at hp ⊢
      rw [WP_bind]
      refine WP_mono hp fun q hq => ?_
      obtain ⟨fl, ρ2⟩ := q
      cases fl with
      | next => obtain ⟨m', h1, h2⟩ := hq; exact WP_whileN I st (by omega) h2
      | cont => obtain ⟨m', h1, h2⟩ := hq; exact WP_whileN I st (by omega) h2
      | brk => exact ⟨hq⟩
      | ret v => exact ⟨hq⟩
    · rw [if_neg hb] at hp ⊢
      exact ⟨hp⟩
/-- a while loop: m bounds the turns that are left -/
theorem WP_while {t : TF} {b : SF} {ρ : En} {Q : Fl × En → Prop} {E : Ex → En → Prop} (I : Nat → En → Prop) (m : Nat) (hm : m < 100000) (h0 : I m ρ)
    (st : ∀ m ρ, I m ρ → WP (t ρ) (fun p => if p.1 = true then WP (b p.2) (fun q => turnP q.1 (∃ m', m' < m ∧ I m' q.2) fun fl => Q (fl, q.2)) E else Q (.next, p.2)) E) : WP (sWhile t b ρ) Q E :=
  WP_whileN I st (show m < fuel from hm) h0
/-- what a def hands back -/
def finP (ms : List Pm) (p : Fl × En) (d : D) (rs : List D) : Prop := match p.1 with
  | .ret v => v = d ∧ refsOf ms p.2 = some rs
  | .next => .non = d ∧ refsOf ms p.2 = some rs
  | _ => False
@[simp] theorem finP_ret {ms : List Pm} {ρ : En} {v d : D} {rs : List D} : finP ms (.ret v, ρ) d rs = (v = d ∧ refsOf ms ρ = some rs) := rfl
@[simp] theorem finP_next {ms : List Pm} {ρ : En} {d : D} {rs : List D} : finP ms (.next, ρ) d rs = (.non = d ∧ refsOf ms ρ = some rs) := rfl
theorem run_wp {n : Nat} {ms : List Pm} {body : SF} {ds : List D} {d : D} {rs : List D} (h : WP (body (ds.map some ++ List.replicate (n - ds.length) none)) (fun p => finP ms p d rs) NoE) : runF n ms body ds = .ok (d, rs) := by
  obtain ⟨⟨fl, ρ⟩, e, h⟩ := of_WPE h
  unfold runF
  rw [e]
  cases fl with
  | next => obtain ⟨rfl, h2⟩ := h; show (Rs.of (refsOf ms ρ) >>= _) = _; rw [h2]; rfl
  | ret v => obtain ⟨rfl, h2⟩ := h; show (Rs.of (refsOf ms ρ) >>= _) = _; rw [h2]; rfl
  | brk => exact h.elim
  | cont => exact h.elim
/-- what a def hands back satisfies P -/
def finQ (ms : List Pm) (P : D → List D → Prop) (p : Fl × En) : Prop := match p.1 with
  | .ret v => ∃ rs, refsOf ms p.2 = some rs ∧ P v rs
  | .next => ∃ rs, refsOf ms p.2 = some rs ∧ P .non rs
  | _ => False
@[simp] theorem finQ_ret {ms : List Pm} {P : D → List D → Prop} {ρ : En} {v : D} : finQ ms P (.ret v, ρ) = ∃ rs, refsOf ms ρ = some rs ∧ P v rs := rfl
@[simp] theorem finQ_next {ms : List Pm} {P : D → List D → Prop} {ρ : En} : finQ ms P (.next, ρ) = ∃ rs, refsOf ms ρ = some rs ∧ P .non rs := rfl
theorem run_wpQ {n : Nat} {ms : List Pm} {body : SF} {ds : List D} {P : D → List D → Prop} (h : WP (body (ds.map some ++ List.replicate (n - ds.length) none)) (finQ ms P) NoE) : ∃ d rs, runF n ms body ds = .ok (d, rs) ∧ P d rs := by
  obtain ⟨⟨fl, ρ⟩, e, h⟩ := of_WPE h
  unfold runF
  rw [e]
  cases fl with
  | next => obtain ⟨rs, h2, h3⟩ := h; exact ⟨_, rs, by show (Rs.of (refsOf ms ρ) >>= _) = _; rw [h2]; rfl, h3⟩
  | ret v => obtain ⟨rs, h2, h3⟩ := h; exact ⟨_, rs, by show (Rs.of (refsOf ms ρ) >>= _) = _; rw [h2]; rfl, h3⟩
  | brk => exact h.elim
  | cont => exact h.elim
/-! ### the call of a def: only an equation about it is used -/
def callK (is : List Nat) (ρ : En) (r : Rs (D × List D)) : Rs (D × En) := match r with
  | .ok r => .ok (r.1, agBack is r.2 ρ)
  | _ => .bad
@[simp] theorem callK_ok {is : List Nat} {ρ : En} {d : D} {rs : List D} : callK is ρ (.ok (d, rs)) = .ok (d, agBack is rs ρ) := rfl
theorem eCall_apK {f : FF} {gs : List Ag} {ρ : En} : eCall f gs ρ = (agEval gs ρ >>= fun q => Rs.of (agFill q.1 q.2) >>= fun ds => callK (refsA gs) q.2 (f ds)) := rfl
def callKN (rm : Md) (is : List Nat) (ρ : En) (r : Rs (D × List D)) : Rs (D × En) := match r with
  | .ok r => if (flatM rm r.1 && r.2.all (flatM (.ow .im))) = true then .ok (r.1, agBack is r.2 ρ) else .bad
  | _ => .bad
@[simp] theorem callKN_ok {rm : Md} {is : List Nat} {ρ : En} {d : D} {rs : List D} : callKN rm is ρ (.ok (d, rs)) = if (flatM rm d && rs.all (flatM (.ow .im))) = true then .ok (d, agBack is rs ρ) else .bad := rfl
theorem eCallN_apK {rm : Md} {f : FF} {gs : List Ag} {ρ : En} : eCallN rm f gs ρ = (agEval gs ρ >>= fun q => Rs.of (agFill q.1 q.2) >>= fun ds => callKN rm (refsA gs) q.2 (f ds)) := rfl
def callOK (is : List Nat) (ρ : En) (r : Rs (D × List D)) : Rs (D × En) := match r with
  | .ok r => .ok (r.1, agBack is r.2.tail ρ)
  | _ => .bad
@[simp] theorem callOK_ok {is : List Nat} {ρ : En} {d : D} {rs : List D} : callOK is ρ (.ok (d, rs)) = .ok (d, agBack is rs.tail ρ) := rfl
@[simp] theorem eCallO_apK {f : FF} {fo : EF} {gs : List Ag} {ρ : En} : eCallO f fo gs ρ = (fo ρ >>= fun p => agEval gs p.2 >>= fun q => Rs.of (agFill q.1 q.2) >>= fun ds => callOK (refsA gs) q.2 (f (p.1 :: ds))) := rfl
/-! ### comprehensions over one name -/
section
variable {β : Type} {enc : β → D} {xs : List β} {i : Nat} {src : IF} {t : TF} {e : EF} {ρ ρ1 : En}
theorem map_filter_enc {b : β → Bool} {φ : β → D} : ∀ (xs : List β) (B : D → Bool) (F : D → D), (∀ x ∈ xs, B (enc x) = b x) → (∀ x ∈ xs, F (enc x) = φ x) → ((xs.map enc).filter B).map F = (xs.filter b).map φ
  | [], _, _, _, _ => rfl
  | x :: xs, B, F, h1, h2 => by
    have ih := map_filter_enc xs B F (fun y hy => h1 y (List.mem_cons_of_mem _ hy)) (fun y hy => h2 y (List.mem_cons_of_mem _ hy))
    rw [List.map_cons, List.filter_cons, List.filter_cons, h1 x List.mem_cons_self]
    split
    · rw [List.map_cons, List.map_cons, ih, h2 x List.mem_cons_self]
    · exact ih
theorem compN_map {b : β → Bool} {φ : β → D} : ∀ {xs : List β} {ρ : En} {acc : List D}, ρ.set i none = ρ1.set i none →
    (∀ x ∈ xs, t (ρ1.set i (some (enc x))) = .ok (b x, ρ1.set i (some (enc x))) ∧ (b x = true → e (ρ1.set i (some (enc x))) = .ok (φ x, ρ1.set i (some (enc x))))) →
    ∃ ρ', compN [i] (gSet i) t e (xs.map enc) ρ acc = .ok (acc ++ (xs.filter b).map φ, ρ') ∧ ρ'.set i none = ρ1.set i none
  | [], ρ, acc, h, _ => ⟨ρ, by simp [compN], h⟩
  | x :: xs, ρ, acc, h, k => by
    obtain ⟨k1, k2⟩ := k x List.mem_cons_self
    have e0 : gSet i (enc x) (wipeE ρ [i]) = .ok (ρ1.set i (some (enc x))) := by
      show Rs.ok ((ρ.set i none).set i (some (enc x))) = _
      rw [h, List.set_set]
    have hs : (ρ1.set i (some (enc x))).set i none = ρ1.set i none := by rw [List.set_set]
    rw [List.map_cons]
    unfold compN
    rw [e0]
    show ∃ ρ', (t (ρ1.set i (some (enc x))) >>= fun p => if p.1 = true then e p.2 >>= fun q => compN [i] (gSet i) t e (xs.map enc) q.2 (acc ++ [q.1]) else compN [i] (gSet i) t e (xs.map enc) p.2 acc) = _ ∧ _
    rw [k1]
    cases hb : b x with
    | true =>
      obtain ⟨ρ', e1, e2⟩ := compN_map (xs := xs) (ρ := ρ1.set i (some (enc x))) (acc := acc ++ [φ x]) hs fun d hd => k d (List.mem_cons_of_mem _ hd)
      refine ⟨ρ', ?_, e2⟩
      show (e (ρ1.set i (some (enc x))) >>= fun q => compN [i] (gSet i) t e (xs.map enc) q.2 (acc ++ [q.1])) = _
      rw [k2 hb]
      refine e1.trans ?_
      rw [List.filter_cons, if_pos hb, List.map_cons, List.append_assoc]
      rfl
    | false =>
      obtain ⟨ρ', e1, e2⟩ := compN_map (xs := xs) (ρ := ρ1.set i (some (enc x))) (acc := acc) hs fun d hd => k d (List.mem_cons_of_mem _ hd)
      refine ⟨ρ', ?_, e2⟩
      refine e1.trans ?_
      rw [List.filter_cons, if_neg (by rw [hb]; decide)]
theorem comp_map (b : β → Bool) (φ : β → D) (hs : src ρ = .ok (xs.map enc, ρ1)) (hl : xs.length ≤ 16777216)
    (k : ∀ x ∈ xs, t (ρ1.set i (some (enc x))) = .ok (b x, ρ1.set i (some (enc x))) ∧ (b x = true → e (ρ1.set i (some (enc x))) = .ok (φ x, ρ1.set i (some (enc x))))) : eComp [i] src (gSet i) t e ρ = .ok (.lst ((xs.filter b).map φ), ρ1) := by
  obtain ⟨ρ', e1, e2⟩ := compN_map (ρ := ρ1) (acc := []) rfl k
  unfold eComp
  rw [hs]
  show (if (xs.map enc).length ≤ LINE then compN [i] (gSet i) t e (xs.map enc) ρ1 [] >>= fun q => Rs.ok (D.lst q.1, backE ρ1 q.2 [i]) else Rs.bad) = _
  rw [if_pos (by rw [List.length_map]; exact hl), e1]
  show Rs.ok (D.lst ([] ++ _), ρ'.set i ((ρ1[i]?).getD none)) = _
  have : ρ'.set i ((ρ1[i]?).getD none) = ρ1 := by
    rw [← List.set_set (a := none), e2, List.set_set, set_self]
  rw [this]
  rfl
/-- without a test -/
theorem comp_map1 (φ : β → D) (hs : src ρ = .ok (xs.map enc, ρ1)) (hl : xs.length ≤ 16777216)
    (k : ∀ x ∈ xs, e (ρ1.set i (some (enc x))) = .ok (φ x, ρ1.set i (some (enc x)))) : eComp [i] src (gSet i) tYesF e ρ = .ok (.lst (xs.map φ), ρ1) := by
  have := comp_map (t := tYesF) (fun _ => true) φ hs hl fun x hx => ⟨rfl, fun _ => k x hx⟩
  rwa [List.filter_eq_self.mpr (fun _ _ => rfl)] at this
end
section
variable {ρ : En} {d : D} {a0 a1 a2 a3 a4 a5 a6 a7 a8 a9 a10 a11 a12 a13 a14 a15 a16 : Option D}
@[simp] theorem eName_8 : eName 8 (a0 :: a1 :: a2 :: a3 :: a4 :: a5 :: a6 :: a7 :: some d :: ρ) = .ok (d, a0 :: a1 :: a2 :: a3 :: a4 :: a5 :: a6 :: a7 :: some d :: ρ) := rfl
@[simp] theorem eName_9 : eName 9 (a0 :: a1 :: a2 :: a3 :: a4 :: a5 :: a6 :: a7 :: a8 :: some d :: ρ) = .ok (d, a0 :: a1 :: a2 :: a3 :: a4 :: a5 :: a6 :: a7 :: a8 :: some d :: ρ) := rfl
@[simp] theorem eName_10 : eName 10 (a0 :: a1 :: a2 :: a3 :: a4 :: a5 :: a6 :: a7 :: a8 :: a9 :: some d :: ρ) = .ok (d, a0 :: a1 :: a2 :: a3 :: a4 :: a5 :: a6 :: a7 :: a8 :: a9 :: some d :: ρ) := rfl
@[simp] theorem eName_11 : eName 11 (a0 :: a1 :: a2 :: a3 :: a4 :: a5 :: a6 :: a7 :: a8 :: a9 :: a10 :: some d :: ρ) = .ok (d, a0 :: a1 :: a2 :: a3 :: a4 :: a5 :: a6 :: a7 :: a8 :: a9 :: a10 :: some d :: ρ) := rfl
@[simp] theorem eName_12 : eName 12 (a0 :: a1 :: a2 :: a3 :: a4 :: a5 :: a6 :: a7 :: a8 :: a9 :: a10 :: a11 :: some d :: ρ) = .ok (d, a0 :: a1 :: a2 :: a3 :: a4 :: a5 :: a6 :: a7 :: a8 :: a9 :: a10 :: a11 :: some d :: ρ) := rfl
@[simp] theorem eName_13 : eName 13 (a0 :: a1 :: a2 :: a3 :: a4 :: a5 :: a6 :: a7 :: a8 :: a9 :: a10 :: a11 :: a12 :: some d :: ρ) = .ok (d, a0 :: a1 :: a2 :: a3 :: a4 :: a5 :: a6 :: a7 :: a8 :: a9 :: a10 :: a11 :: a12 :: some d :: ρ) := rfl
@[simp] theorem eName_14 : eName 14 (a0 :: a1 :: a2 :: a3 :: a4 :: a5 :: a6 :: a7 :: a8 :: a9 :: a10 :: a11 :: a12 :: a13 :: some d :: ρ) = .ok (d, a0 :: a1 :: a2 :: a3 :: a4 :: a5 :: a6 :: a7 :: a8 :: a9 :: a10 :: a11 :: a12 :: a13 :: some d :: ρ) := rfl
end
/-! ### more of the operations -/
section
variable {xs ys : List D} {a b : Bool} {i j : Int} {x y : PySem.Str}
def lstK {α : Type} (d : D) (x : Rs α) : Rs α := match d with
  | .lst _ => x
  | _ => .bad
@[simp] theorem lstK_lst {α : Type} {x : Rs α} : lstK (.lst xs) x = x := rfl
@[simp] theorem eMth_ap {g : List D → Option D} {fo : EF} {fs : List EF} {ρ : En} : eMth g fo fs ρ = (fo ρ >>= fun p => lstK p.1 (eArgs fs p.2 >>= fun q => Rs.of (g (p.1 :: q.1)) >>= fun z => .ok (z, q.2))) := by
  unfold eMth
  cases fo ρ with
  | ok p => obtain ⟨d, ρ'⟩ := p; cases d <;> rfl
  | err x ρ' => rfl
  | bad => rfl
@[simp] theorem neD_non : neD .non .non = some (.bl false) := rfl
@[simp] theorem eqD_non : eqD .non .non = some (.bl true) := rfl
@[simp] theorem neD_non_int : neD .non (.int i) = some (.bl true) := rfl
@[simp] theorem neD_int_non : neD (.int i) .non = some (.bl true) := rfl
@[simp] theorem eqD_non_int : eqD .non (.int i) = some (.bl false) := rfl
@[simp] theorem eqD_int_non : eqD (.int i) .non = some (.bl false) := rfl
@[simp] theorem eqD_bl : eqD (.bl a) (.bl b) = some (.bl (a == b)) := rfl
@[simp] theorem neD_bl : neD (.bl a) (.bl b) = some (.bl (!(a == b))) := rfl
@[simp] theorem eqD_str : eqD (.str x) (.str y) = some (.bl (x == y)) := rfl
@[simp] theorem neD_str : neD (.str x) (.str y) = some (.bl (!(x == y))) := rfl
@[simp] theorem isND_str : isND (.str x) .non = some (.bl false) := rfl
@[simp] theorem isND_lst : isND (.lst xs) .non = some (.bl false) := rfl
@[simp] theorem notND_lst : notND (.lst xs) .non = some (.bl true) := rfl
@[simp] theorem absD_int : absD [.int i] = some (.int (if i < 0 then -i else i)) := rfl
@[simp] theorem listD_tup : listD [.tup xs] = some (.lst xs) := rfl
@[simp] theorem tupD_lst : tupD [.lst xs] = some (.tup xs) := rfl
end
@[simp] theorem gTup2_ap {i j : Nat} {a b : D} {ρ : En} : gTupF [gSet i, gSet j] (.tup [a, b]) ρ = .ok ((ρ.set i (some a)).set j (some b)) := rfl
@[simp] theorem gTup3_ap {i j k : Nat} {a b c : D} {ρ : En} : gTupF [gSet i, gSet j, gSet k] (.tup [a, b, c]) ρ = .ok (((ρ.set i (some a)).set j (some b)).set k (some c)) := rfl
/-! ### ranges: never by reduction -/
def rng1K (ρ : En) (ds : List D) : Rs (List D × En) := match ds with
  | [.int j] => if smallI j = true then .ok (rangeD 0 j.toNat, ρ) else .bad
  | _ => .bad
def rng2K (ρ : En) (ds : List D) : Rs (List D × En) := match ds with
  | [.int i, .int j] => if (smallI i && smallI j) = true then .ok (rangeD i (j - i).toNat, ρ) else .bad
  | _ => .bad
def rngMK (ρ : En) (ds : List D) : Rs (List D × En) := match ds with
  | [.int i, .int j, .int k] => if (smallI i && smallI j && decide (k = -1)) = true then .ok ((List.range (i - j).toNat).map fun k => .int (i - (k : Nat)), ρ) else .bad
  | _ => .bad
theorem iRange1_ap {fs : List EF} {ρ : En} : iRange1 fs ρ = (eArgs fs ρ >>= fun p => rng1K p.2 p.1) := Eq.trans (b := iRange1 fs ρ) rfl rfl
theorem iRange2_ap {fs : List EF} {ρ : En} : iRange2 fs ρ = (eArgs fs ρ >>= fun p => rng2K p.2 p.1) := Eq.trans (b := iRange2 fs ρ) rfl rfl
theorem iRangeM_ap {fs : List EF} {ρ : En} : iRangeM fs ρ = (eArgs fs ρ >>= fun p => rngMK p.2 p.1) := Eq.trans (b := iRangeM fs ρ) rfl rfl
theorem smallI_bd {i : Int} (h1 : -1000000000 ≤ i) (h2 : i ≤ 1000000000) : smallI i = true := by
  unfold smallI
  rw [Bool.and_eq_true, decide_eq_true_eq, decide_eq_true_eq]
  have e : (2 : Int) ^ 62 = 4611686018427387904 := by decide
  rw [e]
  omega
theorem rangeD_enc {n : Nat} : rangeD 0 n = (List.range n).map fun k => D.int (k : Nat) := by
  unfold rangeD
  refine List.map_congr_left fun k _ => ?_
  rw [Int.zero_add]
def lrg2K (ρ : En) (ds : List D) : Rs (D × En) := match ds with
  | [.int i, .int j] => if (j ≤ 16777216 ∧ -16777216 ≤ j) ∧ 0 ≤ i ∧ i ≤ 16777216 then .ok (.lst (rangeD i (j - i).toNat), ρ) else .bad
  | _ => .bad
def lrg1K (ρ : En) (ds : List D) : Rs (D × En) := match ds with
  | [.int j] => if j ≤ 16777216 ∧ -16777216 ≤ j then .ok (.lst (rangeD 0 j.toNat), ρ) else .bad
  | _ => .bad
theorem eListRange1_ap {fs : List EF} {ρ : En} : eListRange1 fs ρ = (eArgs fs ρ >>= fun p => lrg1K p.2 p.1) := Eq.trans (b := eListRange1 fs ρ) rfl rfl
theorem eListRange2_ap {fs : List EF} {ρ : En} : eListRange2 fs ρ = (eArgs fs ρ >>= fun p => lrg2K p.2 p.1) := Eq.trans (b := eListRange2 fs ρ) rfl rfl
theorem lrg1K_nat {n : Nat} {ρ : En} (h : n ≤ 1000000) : lrg1K ρ [.int (n : Nat)] = .ok (.lst ((List.range n).map fun k => D.int (k : Nat)), ρ) := by
  unfold lrg1K
  refine (if_pos ⟨by omega, by omega⟩).trans ?_
  rw [rangeD_enc, Int.toNat_natCast]
theorem lrg2K_nat {i j : Nat} {ρ : En} (h : i ≤ 1000000) (h2 : j ≤ 1000000) : lrg2K ρ [.int (i : Nat), .int (j : Nat)] = .ok (.lst ((List.range (j - i)).map fun k => D.int ((i + k : Nat))), ρ) := by
  unfold lrg2K
  refine (if_pos ⟨⟨by omega, by omega⟩, by omega, by omega⟩).trans ?_
  rw [show ((j : Int) - (i : Int)).toNat = j - i by omega]
  rfl
theorem rng1K_int {i : Int} {ρ : En} (h : i ≤ 1000000000) (h0 : -1000000000 ≤ i) : rng1K ρ [.int i] = .ok ((List.range i.toNat).map fun k => D.int (k : Nat), ρ) := by
  unfold rng1K
  rw [← rangeD_enc]
  exact if_pos (smallI_bd h0 h)
theorem rng1K_nat {n : Nat} {ρ : En} (h : n ≤ 1000000000) : rng1K ρ [.int (n : Nat)] = .ok ((List.range n).map fun k => D.int (k : Nat), ρ) := by
  have := rng1K_int (i := n) (ρ := ρ) (by omega) (by omega)
  rwa [Int.toNat_natCast] at this
theorem rng2K_int {i j : Int} {ρ : En} (h : i ≤ 1000000000) (h0 : -1000000000 ≤ i) (h1 : j ≤ 1000000000) (h2 : -1000000000 ≤ j) : rng2K ρ [.int i, .int j] = .ok ((List.range (j - i).toNat).map fun k => D.int (i + (k : Nat)), ρ) := by
  unfold rng2K
  refine (if_pos ?_).trans rfl
  rw [smallI_bd h0 h, smallI_bd h2 h1]; rfl
theorem rngMK_int {i j : Int} {ρ : En} (h : i ≤ 1000000000) (h0 : -1000000000 ≤ i) (h1 : j ≤ 1000000000) (h2 : -1000000000 ≤ j) : rngMK ρ [.int i, .int j, .int (-1)] = .ok ((List.range (i - j).toNat).map fun k => D.int (i - (k : Nat)), ρ) := by
  unfold rngMK
  refine (if_pos ?_).trans rfl
  rw [smallI_bd h0 h, smallI_bd h2 h1]; rfl
@[simp] theorem gSet_ap {i : Nat} {d : D} {ρ : En} : gSet i d ρ = .ok (ρ.set i (some d)) := rfl
end VL
namespace VL
open PySem
/-! ### places, lending -/
theorem ixGet_mem {ds : List D} {r : Int} (h0 : 0 ≤ r) (h1 : r < ds.length) : ∃ d, d ∈ ds ∧ ixGet (.lst ds) (.int r) = some d := by
  have hr : r.toNat < ds.length := by omega
  refine ⟨ds[r.toNat], List.getElem_mem hr, ?_⟩
  have := ixGet_nat (List.getElem?_eq_getElem hr)
  rwa [show ((r.toNat : Nat) : Int) = r by omega] at this
@[simp] theorem borBack_0 {m : Md} {d : D} {a : Option D} {ρ ρ' : En} : borBack [(0, m)] (a :: ρ) (some d :: ρ') = if flatM m d = true then some (some d :: ρ) else none := by
  show ((some (a :: ρ)).bind fun z => if flatM m d = true then some (z.set 0 (some d)) else none) = _
  rfl
theorem sSetIx_nat {i k : Nat} {fk f : EF} {ρ ρ1 ρ2 : En} {v : D} {es ds : List D} (hf : f ρ = .ok (v, ρ1)) (h1 : ρ1[i]? = some (some (.lst es))) (hk : fk ρ1 = .ok (.int (k : Nat), ρ2)) (h2 : ρ2[i]? = some (some (.lst ds))) (hl : k < ds.length) :
    sSetIx i fk f ρ = .ok (.next, ρ2.set i (some (.lst (ds.set k v)))) := by
  unfold sSetIx
  rw [hf]
  show (match ρ1[i]? with
    | some (some (.lst _)) => fk ρ1 >>= fun q => (match q.2[i]?, q.1 with
      | some (some (.lst ds)), .int k => (match ixD ds.length k with
        | some j => Rs.ok (Fl.next, q.2.set i (some (.lst (ds.set j v))))
        | none => .bad)
      | _, _ => .bad)
    | _ => .bad) = _
  rw [h1]
  show (fk ρ1 >>= fun q => _) = _
  rw [hk]
  show (match ρ2[i]?, D.int (k : Nat) with
      | some (some (.lst ds)), .int k => (match ixD ds.length k with
        | some j => Rs.ok (Fl.next, ρ2.set i (some (.lst (ds.set j v))))
        | none => .bad)
      | _, _ => .bad) = _
  rw [h2]
  show (match ixD ds.length (k : Int) with
        | some j => Rs.ok (Fl.next, ρ2.set i (some (.lst (ds.set j v))))
        | none => .bad) = _
  rw [ixD_nat hl]
@[simp] theorem eRepr_ap {fa : EF} {ρ : En} : eRepr fa ρ = (fa ρ >>= fun p => Rs.of (reprD p.1) >>= fun z => .ok (z, p.2)) := rfl
@[simp] theorem eIsiT_ap {Ts : List String} {fa : EF} {ρ : En} : eIsiT Ts fa ρ = (fa ρ >>= fun p => .ok (.bl (Ts.any fun T => isiD T p.1), p.2)) := rfl
@[simp] theorem sParN_ap {is : List Nat} {fs : List EF} {ρ : En} : sParN is fs ρ = (eArgs fs ρ >>= fun q => .ok (.next, setAll is q.1 q.2)) := rfl
@[simp] theorem setAll_nil {ds : List D} {ρ : En} : setAll [] ds ρ = ρ := rfl
@[simp] theorem setAll_cons {i : Nat} {is : List Nat} {d : D} {ds : List D} {ρ : En} : setAll (i :: is) (d :: ds) ρ = setAll is ds (ρ.set i (some d)) := rfl
@[simp] theorem sAsg_ap {g : GF} {f : EF} {ρ : En} : sAsg g f ρ = (f ρ >>= fun p => g p.1 p.2 >>= fun ρ' => .ok (.next, ρ')) := rfl
/-! ### what may be shown -/
mutual
theorem okR_okD : ∀ (n k : Nat) (d : D), okR n d = true → okD (n + k) d = true
  | n, k, .non, _ => by cases n <;> cases k <;> rfl
  | n, k, .bl _, _ => by cases n <;> cases k <;> rfl
  | n, k, .int _, _ => by cases n <;> cases k <;> rfl
  | n, k, .str x, h => by
    have h : strOkD x = true := by cases n <;> exact h
    generalize n + k = m
    cases m <;> exact h
  | 0, k, .lst ds, h => by simp [okR] at h
  | 0, k, .tup ds, h => by simp [okR] at h
  | 0, k, .dct ds, h => by simp [okR] at h
  | n + 1, k, .dct ds, h => by simp [okR] at h
  | 0, k, .obj c ds, h => by simp [okR] at h
  | n + 1, k, .obj c ds, h => by simp [okR] at h
  | n + 1, k, .lst ds, h => by
    rw [show n + 1 + k = (n + k) + 1 by omega]
    exact okRA_okA n k ds (by simpa [okR] using h)
  | n + 1, k, .tup ds, h => by
    rw [show n + 1 + k = (n + k) + 1 by omega]
    exact okRA_okA n k ds (by simpa [okR] using h)
theorem okRA_okA : ∀ (n k : Nat) (ds : List D), okRA n ds = true → okA (n + k) ds = true
  | n, k, [], _ => by unfold okA; rfl
  | n, k, d :: ds, h => by
    have h : (okR n d && okRA n ds) = true := by simpa [okRA] using h
    rw [Bool.and_eq_true] at h
    show (okD (n + k) d && okA (n + k) ds) = true
    rw [okR_okD n k d h.1, okRA_okA n k ds h.2]
    rfl
end
mutual
theorem okR_mono : ∀ (n k : Nat) (d : D), okR n d = true → okR (n + k) d = true
  | n, k, .non, _ => by cases n <;> cases k <;> rfl
  | n, k, .bl _, _ => by cases n <;> cases k <;> rfl
  | n, k, .int i, h => by
    have h : shortI i = true := by cases n <;> exact h
    generalize n + k = m
    cases m <;> exact h
  | n, k, .str x, h => by
    have h : strOkD x = true := by cases n <;> exact h
    generalize n + k = m
    cases m <;> exact h
  | 0, k, .lst ds, h => by simp [okR] at h
  | 0, k, .tup ds, h => by simp [okR] at h
  | 0, k, .dct ds, h => by simp [okR] at h
  | n + 1, k, .dct ds, h => by simp [okR] at h
  | 0, k, .obj c ds, h => by simp [okR] at h
  | n + 1, k, .obj c ds, h => by simp [okR] at h
  | n + 1, k, .lst ds, h => by
    rw [show n + 1 + k = (n + k) + 1 by omega]
    exact okRA_mono n k ds (by simpa [okR] using h)
  | n + 1, k, .tup ds, h => by
    rw [show n + 1 + k = (n + k) + 1 by omega]
    exact okRA_mono n k ds (by simpa [okR] using h)
theorem okRA_mono : ∀ (n k : Nat) (ds : List D), okRA n ds = true → okRA (n + k) ds = true
  | n, k, [], _ => by unfold okRA; rfl
  | n, k, d :: ds, h => by
    have h : (okR n d && okRA n ds) = true := by simpa [okRA] using h
    rw [Bool.and_eq_true] at h
    show (okR (n + k) d && okRA (n + k) ds) = true
    rw [okR_mono n k d h.1, okRA_mono n k ds h.2]
    rfl
end
theorem okRA_all {n : Nat} : ∀ {ds : List D}, (∀ d ∈ ds, okR n d = true) → okRA n ds = true
  | [], _ => by unfold okRA; rfl
  | d :: ds, h => by
    show (okR n d && okRA n ds) = true
    rw [h d List.mem_cons_self, okRA_all fun e he => h e (List.mem_cons_of_mem _ he)]
    rfl
theorem rszA_le {z : Nat} : ∀ {ds : List D}, (∀ d ∈ ds, rsz d ≤ z) → rszA ds ≤ ds.length * (z + 2)
  | [], _ => Nat.zero_le _
  | d :: ds, h => by
    have h1 := h d List.mem_cons_self
    have h2 := rszA_le (z := z) fun e he => h e (List.mem_cons_of_mem _ he)
    show rsz d + 2 + rszA ds ≤ (ds.length + 1) * (z + 2)
    rw [Nat.add_mul, Nat.one_mul]
    omega
theorem reprD_of {d : D} {n : Nat} (h : okR n d = true) (hn : n ≤ 60) (hz : rsz d ≤ 16000000) : reprD d = some (.str (reprS d)) := by
  have h2 : okR 60 d = true := by
    have := okR_mono n (60 - n) d h
    rwa [show n + (60 - n) = 60 by omega] at this
  unfold reprD
  rw [if_pos (by unfold reprOk; rw [h2, decide_eq_true hz]; rfl)]
theorem eqD_any {x y : D} {n m : Nat} (hx : okR n x = true) (hy : okR m y = true) (hn : n ≤ 60) (hm : m ≤ 60) : eqD x y = some (.bl (if (isS x && isS y) = true then eqS x y else eqvD x y)) := by
  unfold eqD
  by_cases h : (isS x && isS y) = true
  · rw [if_pos h, if_pos h]
  · rw [if_neg h, if_neg h, if_pos]
    have e1 := okR_okD n (64 - n) x hx
    have e2 := okR_okD m (64 - m) y hy
    rw [show n + (64 - n) = 64 by omega] at e1
    rw [show m + (64 - m) = 64 by omega] at e2
    rw [e1, e2]
    rfl
theorem shortI_of {i : Int} (h : i.natAbs < 2 ^ 1000) : shortI i = true := by
  unfold shortI
  refine decide_eq_true ?_
  by_cases h0 : i.natAbs = 0
  · rw [h0]; decide
  · have := (Nat.log2_lt h0).mpr h
    omega
theorem strI_ok {i : Int} : strOkD (strI i) = true := by
  unfold strI strOkD
  rw [Array.all_eq_true_iff_forall_mem]
  intro c hc
  refine decide_eq_true ?_
  have : (toString i : Str) = Str.ofString (toString i) := rfl
  rw [this, Str.ofString_eq_toList] at hc
  simp only [List.mem_toArray, List.mem_map] at hc
  obtain ⟨a, _, rfl⟩ := hc
  have := a.valid
  rcases this with h | h
  · have : a.val.toNat < 0xd800 := h
    show a.val.toNat < 0x110000
    omega
  · exact h.2
theorem strI_len {i : Int} (h : shortI i = true) : (strI i).length ≤ 1921 := by
  unfold shortI at h
  have := int_text_length_le (a := i) (k := 1920) (by decide) (of_decide_eq_true h)
  unfold strI
  show (Str.ofString (toString i)).length ≤ 1921
  rw [ofString_length]
  exact this
@[simp] theorem strD_int {i : Int} : strD [.int i] = if shortI i = true then some (.str (strI i)) else none := rfl
end VL
namespace VL
open PySem
/-! ### evaluation by hand -/
section
variable {fa fb f : EF} {fs : List EF} {ρ ρ1 ρ2 : En} {xs ys ds : List D} {d : D} {i : Nat}
theorem eCat_at (ha : fa ρ = .ok (.lst xs, ρ1)) (hb : fb ρ1 = .ok (.lst ys, ρ2)) (h : xs.length + ys.length ≤ 16777216) : eOp2 catD fa fb ρ = .ok (.lst (xs ++ ys), ρ2) := by
  rw [eOp2_ap, ha, Rs.ok_bind, hb, Rs.ok_bind]
  show (Rs.of (if xs.length + ys.length ≤ LINE then some (D.lst (xs ++ ys)) else none) >>= _) = _
  rw [if_pos h]
  rfl
theorem eArgs_at (h : f ρ = .ok (d, ρ1)) (h2 : eArgs fs ρ1 = .ok (ds, ρ2)) : eArgs (f :: fs) ρ = .ok (d :: ds, ρ2) := by
  rw [eArgs_cons, h, Rs.ok_bind, h2]
  rfl
theorem eLst_at (h : eArgs fs ρ = .ok (ds, ρ1)) : eLst fs ρ = .ok (.lst ds, ρ1) := by
  rw [eLst_ap, h]
  rfl
theorem eTup_at (h : eArgs fs ρ = .ok (ds, ρ1)) : eTup fs ρ = .ok (.tup ds, ρ1) := by
  rw [eTup_ap, h]
  rfl
theorem eOp2_at {g : D → D → Option D} {x y z : D} (ha : fa ρ = .ok (x, ρ1)) (hb : fb ρ1 = .ok (y, ρ2)) (h : g x y = some z) : eOp2 g fa fb ρ = .ok (z, ρ2) := by
  rw [eOp2_ap, ha, Rs.ok_bind, hb, Rs.ok_bind, h]
  rfl
theorem eOp1_at {g : D → Option D} {x z : D} (ha : fa ρ = .ok (x, ρ1)) (h : g x = some z) : eOp1 g fa ρ = .ok (z, ρ1) := by
  rw [eOp1_ap, ha, Rs.ok_bind, h]
  rfl
theorem eOpN_at {g : List D → Option D} {z : D} (ha : eArgs fs ρ = .ok (ds, ρ1)) (h : g ds = some z) : eOpN g fs ρ = .ok (z, ρ1) := by
  rw [eOpN_ap, ha, Rs.ok_bind, h]
  rfl
theorem eCall_at {g : FF} {gs : List Ag} {qs : List Aq} {rs : List D} (ha : agEval gs ρ = .ok (qs, ρ1)) (hf : agFill qs ρ1 = some ds) (h : g ds = .ok (d, rs)) : eCall g gs ρ = .ok (d, agBack (refsA gs) rs ρ1) := by
  rw [eCall_apK, ha, Rs.ok_bind, hf, Rs.of_some, Rs.ok_bind, h]
  rfl
theorem repD_nat {xs : List D} {k : Nat} (h : k ≤ 1000000) (h2 : xs.length * k ≤ 16777216) : repD (.lst xs) (.int (k : Nat)) = some (.lst (List.replicate k xs).flatten) := by
  unfold repD
  refine (if_pos ?_).trans (by rw [Int.toNat_natCast])
  rw [smallI_bd (by omega) (by omega), Int.toNat_natCast]
  exact decide_eq_true h2
end
end VL
namespace VL
open PySem
def strK {α : Type} (d : D) (x : Rs α) : Rs α := match d with
  | .str _ => x
  | _ => .bad
@[simp] theorem strK_str {α : Type} {a : Str} {x : Rs α} : strK (.str a) x = x := rfl
@[simp] theorem eMthS_ap {g : List D → Option D} {fo : EF} {fs : List EF} {ρ : En} : eMthS g fo fs ρ = (fo ρ >>= fun p => strK p.1 (eArgs fs p.2 >>= fun q => Rs.of (g (p.1 :: q.1)) >>= fun z => .ok (z, q.2))) := by
  unfold eMthS
  cases fo ρ with
  | ok p => obtain ⟨d, ρ'⟩ := p; cases d <;> rfl
  | err x ρ' => rfl
  | bad => rfl
theorem splitD_str {a b : Str} (h : (b.length == 0) = false) (h2 : a.length + 2 ≤ 16777216) : splitD [.str a, .str b] = some (.lst ((Txt.split a b).map .str)) := if_pos ⟨h, h2⟩
@[simp] theorem countSD_str {a b : Str} : countSD [.str a, .str b] = some (.int (Txt.count a b)) := rfl
theorem rstripD_str {a b : Str} (h : a.length ≤ 16777216) : rstripD [.str a, .str b] = some (.str (Txt.rstripChars a b)) := if_pos h
theorem lenD_str {a : Str} (h : a.length ≤ 16777216) : lenD [.str a] = some (.int a.length) := if_pos h
@[simp] theorem isi_str {T : String} {a : Str} : isiD T (.str a) = ("str" == T || (T == "int" && false)) := rfl
end VL
namespace VL
open PySem
/-! ### comprehensions over two names -/
section
variable {β : Type} {a c : β → D} {xs : List β} {i j : Nat} {src : IF} {t : TF} {e : EF} {ρ ρ1 : En}
theorem wipe_two (hij : i ≠ j) {x y : Option D} : ((wipeE ρ [i, j]).set i x).set j y = (ρ.set i x).set j y := by
  show ((((ρ.set j none).set i none).set i x).set j y) = _
  rw [List.set_set, List.set_comm _ _ (Ne.symm hij), List.set_set]
theorem wipe_set (hij : i ≠ j) {x y : Option D} : wipeE ((ρ.set i x).set j y) [i, j] = wipeE ρ [i, j] := by
  show ((((ρ.set i x).set j y).set j none).set i none) = (ρ.set j none).set i none
  rw [List.set_set, List.set_comm _ _ hij, List.set_set]
theorem compN_map2 {φ : β → D} (hij : i ≠ j) : ∀ {xs : List β} {ρ : En} {acc : List D}, wipeE ρ [i, j] = wipeE ρ1 [i, j] →
    (∀ x ∈ xs, e ((ρ1.set i (some (a x))).set j (some (c x))) = .ok (φ x, (ρ1.set i (some (a x))).set j (some (c x)))) →
    ∃ ρ', compN [i, j] (gTupF [gSet i, gSet j]) tYesF e (xs.map fun x => .tup [a x, c x]) ρ acc = .ok (acc ++ xs.map φ, ρ') ∧ wipeE ρ' [i, j] = wipeE ρ1 [i, j]
  | [], ρ, acc, h, _ => ⟨ρ, by simp [compN], h⟩
  | x :: xs, ρ, acc, h, k => by
    have k1 := k x List.mem_cons_self
    have e0 : gTupF [gSet i, gSet j] (.tup [a x, c x]) (wipeE ρ [i, j]) = .ok ((ρ1.set i (some (a x))).set j (some (c x))) := by
      rw [gTup2_ap, h, wipe_two hij]
    obtain ⟨ρ', e1, e2⟩ := compN_map2 hij (xs := xs) (ρ := (ρ1.set i (some (a x))).set j (some (c x))) (acc := acc ++ [φ x]) (wipe_set hij) fun y hy => k y (List.mem_cons_of_mem _ hy)
    refine ⟨ρ', ?_, e2⟩
    rw [List.map_cons]
    unfold compN
    rw [e0]
    show (e ((ρ1.set i (some (a x))).set j (some (c x))) >>= fun q => compN [i, j] (gTupF [gSet i, gSet j]) tYesF e (xs.map fun x => .tup [a x, c x]) q.2 (acc ++ [q.1])) = _
    rw [k1]
    refine e1.trans ?_
    rw [List.append_assoc]
    rfl
theorem comp_map2 (hij : i ≠ j) (φ : β → D) (hs : src ρ = .ok (xs.map fun x => .tup [a x, c x], ρ1)) (hl : xs.length ≤ 16777216)
    (k : ∀ x ∈ xs, e ((ρ1.set i (some (a x))).set j (some (c x))) = .ok (φ x, (ρ1.set i (some (a x))).set j (some (c x)))) : eComp [i, j] src (gTupF [gSet i, gSet j]) tYesF e ρ = .ok (.lst (xs.map φ), ρ1) := by
  obtain ⟨ρ', e1, e2⟩ := compN_map2 (acc := []) hij rfl k
  unfold eComp
  rw [hs]
  show (if (xs.map fun x => D.tup [a x, c x]).length ≤ LINE then compN [i, j] (gTupF [gSet i, gSet j]) tYesF e (xs.map fun x => .tup [a x, c x]) ρ1 [] >>= fun q => Rs.ok (D.lst q.1, backE ρ1 q.2 [i, j]) else Rs.bad) = _
  rw [if_pos (by rw [List.length_map]; exact hl), e1]
  show Rs.ok (D.lst ([] ++ _), (ρ'.set j ((ρ1[j]?).getD none)).set i ((ρ1[i]?).getD none)) = _
  have : (ρ'.set j ((ρ1[j]?).getD none)).set i ((ρ1[i]?).getD none) = ρ1 := by
    rw [List.set_comm _ _ (Ne.symm hij), ← wipe_two hij, e2, wipe_two hij, set_self, set_self]
  rw [this]
  rfl
end
theorem zipD_map {β γ : Type} {f : β → D} {g : γ → D} : ∀ (xs : List β) (ys : List γ), zipD (xs.map f) (ys.map g) = (xs.zip ys).map fun p => .tup [f p.1, g p.2]
  | [], ys => by cases ys <;> rfl
  | x :: xs, [] => rfl
  | x :: xs, y :: ys => by
    show _ :: zipD (xs.map f) (ys.map g) = _
    rw [zipD_map xs ys]
    rfl
theorem allD_true {l : List D} (h : ∀ d ∈ l, d = .bl true) : allD [.lst l] = some (.bl true) := by
  have : ∀ {l : List D}, (∀ d ∈ l, d = .bl true) → boolsD l = some (l.map fun _ => true) := fun {l} => by
    induction l with
    | nil => intro _; rfl
    | cons d l ih =>
      intro h
      rw [h d List.mem_cons_self]
      show (boolsD l).map (true :: ·) = _
      rw [ih fun e he => h e (List.mem_cons_of_mem _ he)]
      rfl
  show (boolsD l).map (fun bs => D.bl (bs.all id)) = _
  rw [this h]
  simp
theorem strsD_map {l : List Str} : strsD (l.map D.str) = some l := by
  induction l with
  | nil => rfl
  | cons x l ih =>
    show (strsD (l.map D.str)).map (x :: ·) = _
    rw [ih]
    rfl
theorem joinD_strs {a : Str} {l : List Str} (h : (l.map (·.length)).sum + l.length * a.length ≤ 16777216) : joinD [.str a, .lst (l.map D.str)] = some (.str (Txt.join a l)) := by
  show ((strsD (l.map D.str)).bind fun ys => if (ys.map (·.length)).sum + ys.length * a.length ≤ LINE then some (D.str (Txt.join a ys)) else none) = _
  rw [strsD_map]
  exact if_pos h
end VL
namespace VL
open PySem
theorem sPop_at {i : Nat} {ρ : En} {ds : List D} (h : ρ[i]? = some (some (.lst ds))) (hn : ds ≠ []) : sPop i ρ = .ok (.next, ρ.set i (some (.lst ds.dropLast))) := by
  cases ds with
  | nil => exact absurd rfl hn
  | cons d ds =>
    unfold sPop
    rw [h]
theorem sRev_at {i : Nat} {ρ : En} {ds : List D} (h : ρ[i]? = some (some (.lst ds))) : sRev i ρ = .ok (.next, ρ.set i (some (.lst ds.reverse))) := by
  unfold sRev
  rw [h]
section
theorem sExtend_at {i : Nat} {f : EF} {ρ ρ1 : En} {ds0 ds es : List D} (h0 : ρ[i]? = some (some (.lst ds0))) (h : f ρ = .ok (.lst es, ρ1)) (h1 : ρ1[i]? = some (some (.lst ds))) (hl : ds.length + es.length ≤ 16777216) : sExtend i f ρ = .ok (.next, ρ1.set i (some (.lst (ds ++ es)))) := by
  unfold sExtend
  rw [h0]
  show (f ρ >>= fun p => _) = _
  rw [h]
  show (match ρ1[i]?, D.lst es with
    | some (some (.lst ds)), .lst es => if ds.length + es.length ≤ LINE then Rs.ok (Fl.next, ρ1.set i (some (.lst (ds ++ es)))) else .bad
    | _, _ => .bad) = _
  rw [h1]
  exact if_pos hl
end
end VL

set_option Elab.async false
set_option linter.all false
set_option maxRecDepth 100000
set_option maxHeartbeats 4000000
/-! R87: what k87 draws, and its errors' marks. -/
namespace VG
open VL PySem VL.Pure
/-- a bag that has been asked at most n times -/
def Src (n : Nat) (d : D) : Prop := ∃ s0 s1 : Int, d = .lst [.int s0, .int s1] ∧ 0 ≤ s0 ∧ 0 ≤ s1 ∧ s1 ≤ n
@[simp] theorem stK_2 {v a b : D} {ρ : En} : stK 0 v (some (.lst [a, b]) :: ρ) = .ok (.next, some (.lst [v, b]) :: ρ) := rfl
theorem draw_ok {n : Nat} {d : D} {c : Int} (h : Src n d) (hn : n < 2 ^ 50) (h1 : 1 ≤ c) (h2 : c < 1073741824) : ∃ r d', f__law_draw_k84 [d, .int c] = .ok (.int r, [d']) ∧ 0 ≤ r ∧ r < c ∧ Src (n + 1) d' := by
  obtain ⟨s0, s1, rfl, a0, a1, b1⟩ := h
  have hc : 0 < c := by omega
  have p18 : powD (.int 10) (.int 18) = some (.int (10 ^ 18)) := powD_int (by decide) (by decide) (by decide)
  have en : ((10 : Int) ^ 18) = 1000000000000000000 := by decide
  rw [en] at p18
  have aug : ∀ ρ : En, sAugK 0 1 1 (some (.lst [.int s0, .int s1]) :: ρ) = .ok (.next, some (.lst [.int s0, .int (s1 + 1)]) :: ρ) := fun ρ => rfl
  by_cases h0 : (1000000000000000000 : Int) ≤ s0
  · refine ⟨s0 % c, .lst [.int (s0 / c), .int (s1 + 1)], ?_, Int.emod_nonneg _ (by omega), Int.emod_lt_of_pos _ hc, s0 / c, s1 + 1, rfl, Int.ediv_nonneg a0 (by omega), by omega, by omega⟩
    simp -implicitDefEqProofs [f__law_draw_k84, b__law_draw_k84, aug, p18, h0, hc, h2]
  · have m1 : mulOk 104729 (s1 + 1) = true := mulOk_l (by decide)
    have m2 : mulOk 40692 (s1 + 1) = true := mulOk_l (by decide)
    generalize hX : (s0 % 2147483629 + 104729 * (s1 + 1) + 1) % 2147483587 = X
    have x0 : 0 ≤ X := by rw [← hX]; exact Int.emod_nonneg _ (by decide)
    have x1 : X < 2147483587 := by rw [← hX]; exact Int.emod_lt_of_pos _ (by decide)
    have m3 : mulOk X X = true := mulOk_l (by omega)
    generalize hY : (X * X % 2147483587 + 40692 * (s1 + 1)) % 2147483563 = Y
    have y0 : 0 ≤ Y := by rw [← hY]; exact Int.emod_nonneg _ (by decide)
    have y1 : Y < 2147483563 := by rw [← hY]; exact Int.emod_lt_of_pos _ (by decide)
    have m4 : mulOk Y Y = true := mulOk_l (by omega)
    refine ⟨Y * Y % 2147483563 / 8 % c, .lst [.int s0, .int (s1 + 1)], ?_, Int.emod_nonneg _ (by omega), Int.emod_lt_of_pos _ hc, s0, s1 + 1, rfl, a0, by omega, by omega⟩
    simp -implicitDefEqProofs [f__law_draw_k84, b__law_draw_k84, aug, p18, h0, hc, h2, m1, m2, m3, m4, hX, hY]
theorem bag_ok (c : Int) (k : Nat) (hk : k < 100) : ∃ d, f__law_bag_k84 [.int c, .int (k : Nat)] = .ok (d, []) ∧ Src 4000 d := by
  have m1 : mulOk 37 (k : Int) = true := mulOk_l (by decide)
  by_cases h : c < 0
  · refine ⟨.lst [.int (-c), .int (37 * k + 18)], ?_, -c, 37 * k + 18, rfl, by omega, by omega, by omega⟩
    simp -implicitDefEqProofs [f__law_bag_k84, b__law_bag_k84, h, m1]
  · refine ⟨.lst [.int c, .int (37 * k)], ?_, c, 37 * k, rfl, by omega, by omega, by omega⟩
    simp -implicitDefEqProofs [f__law_bag_k84, b__law_bag_k84, h, m1]
/-- the error that the law makes at each place -/
def errs (n : Int) : List D := [.obj "EmptyHistoryError" [], .obj "HiddenError" [(.inr "turn", .int n)], .obj "InvalidClicksError" [], .obj "InvalidFormatError" [], .obj "InvalidNumberError" [], .obj "InvalidPlanError" [],
  .obj "InvalidSectionError" [], .obj "InvalidSectionsError" [], .obj "InvalidStateError" [], .obj "InvalidViewsError" [], .obj "NotFittingError" []]
def mark (k : Nat) : List D := (List.range 11).map fun j => .bl (decide (j = k))
theorem marks_ok (n : Int) : ∀ k, k < 11 → ∃ e, (errs n)[k]? = some e ∧ f__law_marks_k87 [e] = .ok (.lst (mark k), []) ∧ isxD (isTab "AccordionsError") e = some (.bl true) ∧ isxD isVE e = some (.bl true)
  | 0, _ => ⟨_, rfl, by kernel_rfl, by kernel_rfl, by kernel_rfl⟩
  | 1, _ => ⟨_, rfl, by kernel_rfl, by kernel_rfl, by kernel_rfl⟩
  | 2, _ => ⟨_, rfl, by kernel_rfl, by kernel_rfl, by kernel_rfl⟩
  | 3, _ => ⟨_, rfl, by kernel_rfl, by kernel_rfl, by kernel_rfl⟩
  | 4, _ => ⟨_, rfl, by kernel_rfl, by kernel_rfl, by kernel_rfl⟩
  | 5, _ => ⟨_, rfl, by kernel_rfl, by kernel_rfl, by kernel_rfl⟩
  | 6, _ => ⟨_, rfl, by kernel_rfl, by kernel_rfl, by kernel_rfl⟩
  | 7, _ => ⟨_, rfl, by kernel_rfl, by kernel_rfl, by kernel_rfl⟩
  | 8, _ => ⟨_, rfl, by kernel_rfl, by kernel_rfl, by kernel_rfl⟩
  | 9, _ => ⟨_, rfl, by kernel_rfl, by kernel_rfl, by kernel_rfl⟩
  | 10, _ => ⟨_, rfl, by kernel_rfl, by kernel_rfl, by kernel_rfl⟩
  | k + 11, h => absurd h (by omega)
theorem marks_base : f__law_marks_k87 [.obj "AccordionsError" []] = .ok (.lst (List.replicate 11 (.bl false)), []) := by kernel_rfl
end VG

set_option Elab.async false
set_option linter.all false
set_option maxRecDepth 100000
set_option maxHeartbeats 4000000
/-! L87: the law of k87. -/
namespace VG
open VL PySem VL.Pure
@[simp] theorem eCall_ap87 {f : FF} {gs : List Ag} {ρ : En} : eCall f gs ρ = (agEval gs ρ >>= fun q => Rs.of (agFill q.1 q.2) >>= fun ds => match f ds with
  | .ok r => .ok (r.1, agBack (refsA gs) r.2 q.2)
  | _ => .bad) := rfl
@[simp] theorem agEval_nil87 {ρ : En} : agEval [] ρ = .ok ([], ρ) := rfl
@[simp] theorem agEval_e87 {f : EF} {gs : List Ag} {ρ : En} : agEval (.e f :: gs) ρ = (f ρ >>= fun p => agEval gs p.2 >>= fun q => .ok (.e p.1 :: q.1, q.2)) := rfl
@[simp] theorem agFill_nil87 {ρ : En} : agFill [] ρ = some [] := rfl
@[simp] theorem agFill_e87 {d : D} {qs : List Aq} {ρ : En} : agFill (.e d :: qs) ρ = (agFill qs ρ).map (d :: ·) := rfl
@[simp] theorem refsA_nil87 : refsA [] = [] := rfl
@[simp] theorem refsA_e87 {f : EF} {gs : List Ag} : refsA (.e f :: gs) = refsA gs := rfl
@[simp] theorem refsA_r87 {i : Nat} {gs : List Ag} : refsA (.r i :: gs) = i :: refsA gs := rfl
@[simp] theorem agBack_nil87 {ds : List D} {ρ : En} : agBack [] ds ρ = ρ := rfl
@[simp] theorem agEval_r3 {a b c : Option D} {d : D} {gs : List Ag} {ρ : En} : agEval (.r 3 :: gs) (a :: b :: c :: some d :: ρ) = (agEval gs (a :: b :: c :: some d :: ρ) >>= fun q => .ok (.r 3 :: q.1, q.2)) := rfl
@[simp] theorem agFill_r3 {a b c : Option D} {d : D} {qs : List Aq} {ρ : En} : agFill (.r 3 :: qs) (a :: b :: c :: some d :: ρ) = (agFill qs (a :: b :: c :: some d :: ρ)).map (d :: ·) := rfl
@[simp] theorem agBack_3 {a b c : Option D} {d d' : D} {is : List Nat} {ds : List D} {ρ : En} : agBack (3 :: is) (d :: ds) (a :: b :: c :: some d' :: ρ) = agBack is ds (a :: b :: c :: some d :: ρ) := rfl
@[simp] theorem eMkX_ap {c : PySem.Str} {f : EF} {ρ : En} : eMkX c f ρ = (f ρ >>= fun p => .ok (.obj c [], p.2)) := rfl
@[simp] theorem eMkF_ap {c fd : PySem.Str} {f : EF} {ρ : En} : eMkF c fd f ρ = (f ρ >>= fun p => .ok (.obj c [(.inr fd, p.1)], p.2)) := rfl
@[simp] theorem eIsX_ap {L : List (PySem.Str × Bool)} {f : EF} {ρ : En} : eIsX L f ρ = (f ρ >>= fun p => Rs.of (isxD L p.1) >>= fun z => .ok (z, p.2)) := rfl
theorem cutD_take87 {α : Type} (xs : List α) (k : Nat) : cutD xs none (some (k : Nat)) = xs.take k := by
  unfold cutD
  have e1 : sIxD xs.length 0 none = 0 := rfl
  have e2 : sIxD xs.length xs.length (some (k : Nat)) = min k xs.length := by simp [sIxD]; omega
  rw [e1, e2]
  simp [List.take_eq_take_iff]
theorem range_at87 {n j x : Nat} (h : (List.range n)[j]? = some x) : x = j ∧ j < n := by
  obtain ⟨h1, h2⟩ := List.getElem?_eq_some_iff.mp h
  rw [List.length_range] at h1
  rw [List.getElem_range] at h2
  exact ⟨h2.symm, h1⟩
theorem okA_Ints87 : ∀ (n : Nat) (l : List Int), okA n (l.map D.int) = true
  | _, [] => rfl
  | n, x :: l => by
    show (okD n (.int x) && okA n (l.map D.int)) = true
    rw [okA_Ints87 n l]
    cases n <;> rfl
theorem eqD_Ints87 {l : List Int} : eqD (.lst (l.map D.int)) (.lst []) = some (.bl (decide (l = []))) := by
  unfold eqD
  rw [if_neg (by simp [isS]), if_pos (by show (okA 63 (l.map D.int) && okA 63 []) = true; rw [okA_Ints87]; rfl)]
  cases l with
  | nil => rfl
  | cons x l => simp [eqvD, eqvA]
theorem eqD_pair87 (n : Int) : eqD (.lst [.int n, .int n]) (.lst [.int n, .int n]) = some (.bl true) := by
  unfold eqD
  rw [if_neg (by simp [isS]), if_pos (by show (okA 63 ([n, n].map D.int) && okA 63 ([n, n].map D.int)) = true; rw [okA_Ints87]; rfl)]
  show some (D.bl (((n == n) && ((n == n) && true)))) = _
  simp
theorem mulD_str87 {x : PySem.Str} {k : Int} (h : (smallI k && decide (x.length * k.toNat ≤ LINE)) = true) : mulD (.str x) (.int k) = some (.str (Txt.mul x k)) := if_pos h
theorem LINE87 : LINE = 16777216 := rfl
theorem right_ok (msg : PySem.Str) (n : Int) : f__law_right_k87 [.str msg, .int n] = .ok (.bl true, []) := by
  refine run_wp ?_
  unfold b__law_right_k87
  refine WP_sq (ρ' := [some (.str msg), some (.int n), some (.lst ((errs n).take 3)), none, none, none]) (by kernel_rfl) ?_
  refine WP_sq (ρ' := [some (.str msg), some (.int n), some (.lst ((errs n).take 6)), none, none, none]) (by kernel_rfl) ?_
  refine WP_sq (ρ' := [some (.str msg), some (.int n), some (.lst ((errs n).take 9)), none, none, none]) (by kernel_rfl) ?_
  refine WP_sq (ρ' := [some (.str msg), some (.int n), some (.lst (errs n)), none, none, none]) (by kernel_rfl) ?_
  refine WP_sqW ?_
  refine WP_for (xs := List.range 11) (enc := fun k => D.int (k : Nat)) (ρ0 := [some (.str msg), some (.int n), some (.lst (errs n)), none, none, none]) (fun j ρ => ∃ x3, ρ = [some (.str msg), some (.int n), some (.lst (errs n)), x3, none, none]) (by kernel_rfl) ⟨_, rfl⟩ ?_ ?_
  · intro j x ρ hx ⟨x3, hρ⟩
    subst hρ
    obtain ⟨rfl, hj⟩ := range_at87 hx
    obtain ⟨e, e1, e2, e3, e4⟩ := marks_ok n x hj
    have eix : ixGet (.lst (errs n)) (.int (x : Nat)) = some e := ixGet_nat e1
    rw [gSet_ap, WP_ok]
    have hc : ∀ ρ1 : En, ρ1 = [some (.str msg), some (.int n), some (.lst (errs n)), some (.int (x : Nat)), none, none] → eComp [5] (iRange1 [(eC (.int 11))]) (gSet 5) tYesF (eOp2 eqD (eName 5) (eName 3)) ρ1 = .ok (.lst (mark x), ρ1) := fun ρ1 h1 => by
      subst h1
      refine comp_map1 (xs := List.range 11) (enc := fun k => D.int (k : Nat)) (fun k => .bl (decide (k = x))) (by kernel_rfl) (by decide) fun k hk => ?_
      simp -implicitDefEqProofs
      omega
    refine WP_sif (b := false) (ρ' := [some (.str msg), some (.int n), some (.lst (errs n)), some (.int (x : Nat)), none, none]) ?_ (fun z => by cases z) fun _ => WP_next ?_
    · have hq : neD (.lst (mark x)) (.lst (mark x)) = some (.bl false) := by
        match x, hj with
        | 0, _ => kernel_rfl
        | 1, _ => kernel_rfl
        | 2, _ => kernel_rfl
        | 3, _ => kernel_rfl
        | 4, _ => kernel_rfl
        | 5, _ => kernel_rfl
        | 6, _ => kernel_rfl
        | 7, _ => kernel_rfl
        | 8, _ => kernel_rfl
        | 9, _ => kernel_rfl
        | 10, _ => kernel_rfl
        | k + 11, h => omega
      simp -implicitDefEqProofs [eix, e2, hc _ rfl, hq]
    · refine WP_if (b := false) (ρ' := [some (.str msg), some (.int n), some (.lst (errs n)), some (.int (x : Nat)), none, none]) (by simp -implicitDefEqProofs [eix, e3, e4]) (fun z => by cases z) fun _ => ?_
      rw [sNext_ap, WP_ok]
      exact ⟨_, rfl⟩
  · intro ρ ⟨x3, hρ⟩
    subst hρ
    rw [nextP_next]
    have ef : ∀ m : Int, eFldX "HiddenError" "turn" (eMkF "HiddenError" "turn" (eName 1)) [some (.str msg), some (.int m), some (.lst (errs n)), x3, none, none] = .ok (.int m, [some (.str msg), some (.int m), some (.lst (errs n)), x3, none, none]) := fun m => by kernel_rfl
    refine WP_sq (ρ' := [some (.str msg), some (.int n), some (.lst (errs n)), x3, some (.lst [.int n, .int n]), none]) (by simp -implicitDefEqProofs [ef]) ?_
    have hm : f__law_marks_k87 [.obj "AccordionsError" []] = .ok (.lst (List.replicate 11 (.bl false)), []) := marks_base
    have hn : notInD (.bl true) (.lst [.bl false, .bl false, .bl false, .bl false, .bl false, .bl false, .bl false, .bl false, .bl false, .bl false, .bl false]) = some (.bl true) := by kernel_rfl
    have hr : repD (.lst [.int n]) (.int 2) = some (.lst [.int n, .int n]) := by kernel_rfl
    simp -implicitDefEqProofs [hr, eqD_pair87, hm, hn]
theorem law87 : ∀ ns : List Int, ns.length ≤ 63 → ∃ rs, VL.Pure.f_law_k87 [.lst (ns.map .int)] = .ok (.bl true, rs) := by
  intro ns hn
  refine ⟨[], ?_⟩
  refine run_wp ?_
  unfold b_law_k87
  have hcut : cutD (ns.map D.int) none (some (12 : Int)) = (ns.take 12).map D.int := by
    have := cutD_take87 (ns.map D.int) 12
    rw [← List.map_take] at this
    exact this
  have hl12 : (ns.take 12).length ≤ 12 := by rw [List.length_take]; exact Nat.min_le_left _ _
  obtain ⟨T, hT⟩ : ∃ T, ns.take 12 = T := ⟨_, rfl⟩
  rw [hT] at hcut hl12
  obtain ⟨b, hb⟩ : ∃ b, decide (ns = []) = b := ⟨_, rfl⟩
  have heq : eqD (.lst (ns.map D.int)) (.lst []) = some (.bl b) := by rw [eqD_Ints87, hb]
  obtain ⟨R, hR, hRl⟩ : ∃ R : List Int, repD (.lst [.int 0]) (.int (if b = true then 1 else 0)) = some (.lst (R.map D.int)) ∧ R.length ≤ 1 := by
    cases b with
    | true => exact ⟨[0], by kernel_rfl, by decide⟩
    | false => exact ⟨[], by kernel_rfl, by decide⟩
  have hcat : catD (.lst (T.map D.int)) (.lst (R.map D.int)) = some (.lst ((T ++ R).map D.int)) := by
    rw [catD_lst, if_pos (by rw [List.length_map, List.length_map]; show _ ≤ 16777216; omega), List.map_append]
  obtain ⟨cs, hcs⟩ : ∃ cs, T ++ R = cs := ⟨_, rfl⟩
  have hcl : cs.length ≤ 13 := by rw [← hcs, List.length_append]; omega
  rw [hcs] at hcat
  refine WP_sq (ρ' := [some (.lst (ns.map D.int)), some (.lst (cs.map D.int)), none, none, none]) (by simp -implicitDefEqProofs [hcut, heq, hR, hcat, -catD_lst]) ?_
  have hlen : lenD [.lst (cs.map D.int)] = some (.int (cs.length : Nat)) := by rw [lenD_lst, List.length_map]
  refine WP_sqW ?_
  refine WP_for (xs := List.range cs.length) (enc := fun k => D.int (k : Nat)) (ρ0 := [some (.lst (ns.map D.int)), some (.lst (cs.map D.int)), none, none, none]) (fun j ρ => ∃ x2 x3 x4, ρ = [some (.lst (ns.map D.int)), some (.lst (cs.map D.int)), x2, x3, x4]) (by
    have hr : ∀ ρ1 : En, rng1K ρ1 [.int (cs.length : Nat)] = .ok ((List.range cs.length).map fun k => D.int (k : Nat), ρ1) := fun ρ1 => rng1K_nat (by omega)
    simp -implicitDefEqProofs [iRange1_ap, hlen, hr, -lenD_lst]) ⟨_, _, _, rfl⟩ ?_ ?_
  · intro j x ρ hx ⟨x2, x3, x4, hρ⟩
    subst hρ
    obtain ⟨rfl, hj⟩ := range_at87 hx
    rw [gSet_ap, WP_ok]
    have e1 : ixGet (.lst (cs.map D.int)) (.int (x : Nat)) = some (.int cs[x]) := ixGet_nat (by rw [List.getElem?_map, List.getElem?_eq_getElem hj]; rfl)
    obtain ⟨d0, e2, s0⟩ := bag_ok cs[x] x (by omega)
    obtain ⟨r1, d1, e3, a1, b1, s1⟩ := draw_ok s0 (by decide) (c := 4) (by decide) (by decide)
    obtain ⟨r2, d2, e4, a2, b2, s2⟩ := draw_ok s1 (by decide) (c := 60) (by decide) (by decide)
    obtain ⟨r3, d3, e5, a3, b3, s3⟩ := draw_ok s2 (by decide) (c := 1000000000) (by decide) (by decide)
    have p9 : powD (.int 10) (.int 9) = some (.int 1000000000) := by kernel_rfl
    obtain ⟨ch, e6⟩ : ∃ ch : PySem.Str, ixGet (.str "a| ~") (.int r1) = some (.str ch) ∧ ch.length = 1 := by
      obtain ⟨q, rfl⟩ := Int.eq_ofNat_of_zero_le a1
      have hq : q < 4 := by omega
      match q, hq with
      | 0, _ => exact ⟨"a", by kernel_rfl, by kernel_rfl⟩
      | 1, _ => exact ⟨"|", by kernel_rfl, by kernel_rfl⟩
      | 2, _ => exact ⟨" ", by kernel_rfl, by kernel_rfl⟩
      | 3, _ => exact ⟨"~", by kernel_rfl, by kernel_rfl⟩
      | k + 4, h => omega
    obtain ⟨e6, hch⟩ := e6
    obtain ⟨msg, e7⟩ : ∃ msg : PySem.Str, mulD (.str ch) (.int r2) = some (.str msg) := by
      obtain ⟨q, rfl⟩ := Int.eq_ofNat_of_zero_le a2
      have hs : smallI (q : Int) = true := smallI_bd (by omega) (by omega)
      have hz : (smallI (q : Int) && decide (ch.length * (q : Int).toNat ≤ LINE)) = true := by
        rw [hs, hch, Int.toNat_natCast, LINE87]
        exact decide_eq_true (by omega)
      exact ⟨Txt.mul ch (q : Nat), mulD_str87 hz⟩
    have e8 := right_ok msg r3
    refine WP_sq (ρ' := [some (.lst (ns.map D.int)), some (.lst (cs.map D.int)), some (.int (x : Nat)), some d0, x4]) (by simp -implicitDefEqProofs [e1, e2]) ?_
    refine WP_sq (ρ' := [some (.lst (ns.map D.int)), some (.lst (cs.map D.int)), some (.int (x : Nat)), some d2, some (.str msg)]) (by simp -implicitDefEqProofs [e3, e4, e6, e7]) ?_
    refine WP_if (b := false) (ρ' := [some (.lst (ns.map D.int)), some (.lst (cs.map D.int)), some (.int (x : Nat)), some d3, some (.str msg)]) (by simp -implicitDefEqProofs [p9, e5, e8]) (fun z => by cases z) fun _ => ?_
    rw [sNext_ap, WP_ok]
    exact ⟨_, _, _, rfl⟩
  · intro ρ ⟨x2, x3, x4, hρ⟩
    subst hρ
    rw [nextP_next]
    simp -implicitDefEqProofs
end VG

theorem PySem.Challenge.cw_accordions_k87_errors_are_distinct_holds : PySem.Challenge.rw_accordions_k87_errors_are_distinct.Holds :=
  VL.K87.holds_of VG.law87
