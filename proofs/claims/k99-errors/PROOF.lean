import PyProof.Rows.All
import Wide.All
import OpenK.AllK
import Wide.FinOn
import KE.KExcIs
import HandS.Base
import HandS.Call
import HandS.List
import HandS.Exc
import HandS.ExcInit
import HandS.IsInst
import HandS.Words
import HandS.ExcField
import HandS.MakeKw
import HandS.ExcValue
import HandS.ExcCtx
import HandS.MakeKwOnly
import HandS.Comp
import HandS.Iter
import HandS.HotCalls
import KE.KTryMore
import HandS.WordsDict
import HandS.Wide
import HandS.Text
import HandS.Style
import HandS.Zip
import KE.KStateDown
import HandS.Ends
import HandS.More
import HandS.WordsExc
import HandS.Defaults
import HandS.Head0
import HandS.Head1
import HandS.Head2
import HandS.HeadEnd
import HandS.HeadHook1
import HandS.HeadHook2
import PySem.Challenge.RW_autobench_k99_errors
import HandS.Flow
import HandS.TupAny
set_option Elab.async false
set_option linter.all false
set_option maxRecDepth 100000
set_option maxHeartbeats 4000000
/-! Errors that are held as values: made by a call (by place, by name), their attributes, isinstance. -/
namespace PySem.KwX
open PySem.W PySem.Calls PyProof.Rows PySem.HandSPX
section
variable {M : Model} {A : Around} {E : Value → Shared → Prop} {h : Heap} {g : Array GenState} {d : Drawn} {t : Nat} {os : OsState}
variable {nm q : Str} {C N : Addr} {bs bm bmB : List Value} {hdct : Bool} {sn : List Str} {sub : List Value} {ab : Bool} {col : Option Bool} {dd : Option Addr} {k0 k1 k2 k3 k5 : Option Value} {B newId initId : String}
theorem newCheck (F : ExcBaseFacts B newId initId bmB) (hT : ∀ X : String, bm.contains (.type X) = bmB.contains (.type X)) {rest : List Value} {kw : List (Str × Value)} {Q : Unit → Shared → Prop}
    (hC : h.get? C = some (excClassObj nm q C N bs bm hdct sn sub ab col dd k0 k1 k2 k3 k5 newId)) (hq : Q () ⟨h, g, d, t, os⟩) : wpAny M A (checkBuiltinCall newId ⟨.ref C :: rest, kw⟩) Q E ⟨h, g, d, t, os⟩ := by
  have c1 : (Value.ref C :: bm).contains (.type B) = true := by rw [List.contains_cons, hT, F.hasB, Bool.or_true]
  have c2 := F.noStar
  simp only [checkBuiltinCall, F.newKind, F.newSplit, F.newRow]
  repeat (first | refine wpAny_loadPart_at hC ?_ | (refine wpAny_isSubtype_exc hC ?_; rw [c1]) | refine wpAny_staticBase_exc hC ?_ | refine wpAny_madeBy_exc hC ?_ | simp only [bne_self_eq_false, Bool.false_eq_true, if_false] | wp_step)
  exact hq
end
section
variable {prog : Program} {w : World} {A : Around} {E : Value → Shared → Prop} {R : Result → Shared → Prop} {h : Heap} {g : Array GenState} {d : Drawn} {t : Nat} {os : OsState}
variable {nm q : Str} {C N : Addr} {bs bm bmB : List Value} {hdct : Bool} {sn : List Str} {sub : List Value} {ab : Bool} {col : Option Bool} {dd : Option Addr} {k0 k1 k2 k3 k5 : Option Value} {B newId initId : String}
theorem newKw (F : ExcBaseFacts B newId initId bmB) (hT : ∀ X : String, bm.contains (.type X) = bmB.contains (.type X)) {rest : List Value} {kw : List (Str × Value)}
    (hC : h.get? C = some (excClassObj nm q C N bs bm hdct sn sub ab col dd k0 k1 k2 k3 k5 newId))
    (hq : R (.ok (.ret (.ref (h.objs.size + 1)))) ⟨(h.push { cls := .type "tuple", data := .seq rest.toArray }).push
      { cls := .ref C, data := .fields #[.ref h.objs.size, .none, .none, .none, .bool false, .none] }, g, d, t, os⟩) (hrest : rest.length ≤ sizeLine) :
    codeAny (model prog w) A (.builtin newId ⟨.ref C :: rest, kw⟩) R ⟨h, g, d, t, os⟩ := by
  have he := F.ends
  have c1 : (Value.ref C :: bm).contains (.type B) = true := by rw [List.contains_cons, hT, F.hasB, Bool.or_true]
  have c2 : (Value.ref C :: bm).contains (.type "AttributeError") = false := by rw [List.contains_cons, hT, F.noAttr]; rfl
  have c3 : (Value.ref C :: bm).contains (.type "NameError") = false := by rw [List.contains_cons, hT, F.noName]; rfl
  refine codeAny_builtinAt F.entry ?_
  unfold Builtin.«BaseException.__new__»
  refine wpAt_bind ?_
  show wpAt _ _ _ (stack >>= _) _ _ _
  refine wpAt_bind (wpAt_stack fun p below => wpAt_of_wpAny ?_)
  wp_walk
  refine wpAt_of_wpAny ?_
  rw [F.owner]
  repeat (first | with_reducible refine wpAny_madeHere_exc F.canon hC ?_ | with_reducible refine wpAny_loadPart_at hC ?_ | (with_reducible refine wpAny_isSubtype_exc hC ?_; first | rw [c1] | rw [c2] | rw [c3]) | wp_step)
  show R _ _
  rw [Heap.size_push]
  exact hq
theorem typeCallKw (F : ExcBaseFacts B newId initId bmB) (hT : ∀ X : String, bm.contains (.type X) = bmB.contains (.type X)) {rest : List Value} {kw : List (Str × Value)} {fI : Value} {Q : Fin → Shared → Prop}
    (hC : h.get? C = some (excClassObj nm q C N bs bm hdct sn sub ab col dd k0 k1 k2 k3 k5 newId))
    (hi : W.Looks (model prog w) h (typeLookup (.ref C) "__init__") (some fI)) (hb : ∀ self, W.Looks (model prog w) h (bindSpecial fI (.ref self)) (fI, [.ref self])) (hrest : rest.length ≤ sizeLine)
    (hq : codeAny (model prog w) A (.call fI ⟨.ref (h.objs.size + 1) :: rest, kw⟩)
      (fun r s' => match r with | .ok (.ret v) => v = .none ∧ Q (.done (.ret (.ref (h.objs.size + 1)))) s' | .ok _ => False | .error e => E e s')
      ⟨(h.push (W.kdv_tup rest)).push (excO C h.objs.size), g, d, t, os⟩) :
    wpAny (model prog w) A (Builtin.«type.__call__» ⟨.ref C :: rest, kw⟩) Q E ⟨h, g, d, t, os⟩ := by
  repeat (first | with_reducible refine wpAny_loadPart_at hC ?_ | with_reducible refine wpAny_madeBy_exc hC ?_ | wp_step)
  refine codeAny_call_builtin_code (Code.quiet_builtin _ F.quiet) (newCheck F hT hC ?_)
  refine newKw F hT hC ?_ hrest
  show wpAny _ _ _ _ _ _
  have k : ∀ b o, h.get? b = some o → ((h.push (W.kdv_tup rest)).push (excO C h.objs.size)).get? b = some o := fun b o e => Heap.get?_push_of_some _ (Heap.get?_push_of_some _ e)
  have p1 := k _ _ hC
  have p2 : ((h.push (W.kdv_tup rest)).push (excO C h.objs.size)).get? (h.objs.size + 1) = some (excO C h.objs.size) := by heap_get
  have p3 : (Value.ref C :: bm).contains (.ref C) = true := by simp
  have i1 := hi.keeps k
  have b1 := (hb (h.objs.size + 1)).keeps k
  unfold isInstance
  repeat (first | with_reducible refine wpAny_loadPart_at p2 ?_ | (with_reducible refine wpAny_isSubtype_exc p1 ?_; rw [p3]) | wp_step)
  show wpAny _ _ (typeLookup (.ref C) _) _ _ _
  refine i1.at ?_
  refine wpAny_holding (wpAny_bind (b1.at ?_))
  refine wpAny_bind (wpAny_call (codeAny_mono hq fun r s' z => ?_))
  rcases r with e | (v | _ | _ | _) <;> first | exact z | exact z.elim | skip
  obtain ⟨rfl, z⟩ := z
  first
    | exact wpAny_pure (wpAny_pure z)
    | (wp_walk; exact z)
theorem callKw (F : ExcBaseFacts B newId initId bmB) (hT : ∀ X : String, bm.contains (.type X) = bmB.contains (.type X)) {rest : List Value} {kw : List (Str × Value)} {fI : Value}
    (hC : h.get? C = some (excClassObj nm q C N bs bm hdct sn sub ab col dd k0 k1 k2 k3 k5 newId))
    (hi : W.Looks (model prog w) h (typeLookup (.ref C) "__init__") (some fI)) (hb : ∀ self, W.Looks (model prog w) h (bindSpecial fI (.ref self)) (fI, [.ref self])) (hrest : rest.length ≤ sizeLine)
    (hq : codeAny (model prog w) (A.under (.builtin "type.__call__" ⟨.ref C :: rest, kw⟩)) (.call fI ⟨.ref (h.objs.size + 1) :: rest, kw⟩) (W.InitBack (h.objs.size + 1) R)
      ⟨(h.push (W.kdv_tup rest)).push (excO C h.objs.size), g, d, t, os⟩) :
    codeAny (model prog w) A (.call (.ref C) ⟨rest, kw⟩) R ⟨h, g, d, t, os⟩ := by
  have f1 := tc_lookup
  have f2 := tc_bind (.ref C)
  have hTy : (⟨h, g, d, t, os⟩ : Shared).TypeIs (.ref C) "type" := ⟨_, hC, rfl⟩
  refine codeAny_of_tree ?_
  show wpAny _ _ (callAny (.ref C) _) _ _ _
  repeat (any_goals (first | assumption | with_reducible refine wpAny_loadPart_at hC ?_ | wp_step))
  refine ⟨rfl, ?_⟩
  refine codeAny_call_builtin_at (Code.quiet_builtin _ (by decide +kernel)) entry_typeCall (wpAny_check_type_call_sub hC (typeCallKw F hT hC hi hb hrest ?_))
  refine codeAny_mono hq fun r s' z => ?_
  rcases r with e | (v | _ | _ | _) <;> exact z
end
end PySem.KwX

set_option Elab.async false
set_option linter.all false
set_option maxRecDepth 100000
set_option maxHeartbeats 4000000
namespace Kx
open PySem PySem.Spec PyProof.Rows L2
abbrev St := L2.St

/-! ### an error as a value -/
/-- at a: an error of the class at C, its own dict at d -/
def exv (a C : Addr) (d : Option Addr) : HO := .ext fun h => ∃ (oe : Obj) (vs : Array Value), h.get? a = some oe ∧ Zc (.ref C) d oe ∧ oe.data = .fields vs ∧ vs[1]? = some .none ∧ vs[2]? = some .none
theorem exv_ok {P : Program} {w : World} {H : Hp} {h : Heap} {a C : Addr} {d : Option Addr} {oe : Obj} {vs : Array Value} (e : h.get? a = some oe) (z : Zc (.ref C) d oe) (f : oe.data = .fields vs) (f1 : vs[1]? = some .none) (f2 : vs[2]? = some .none) : ObjOk P w H h a (exv a C d) :=
  ⟨⟨oe, vs, e, z, f, f1, f2⟩, ⟨_, e⟩, fun _ _ ⟨o, v, p, q, r⟩ k => ⟨o, v, k _ p, q, r⟩⟩
theorem exv_at {P : Program} {w : World} {H : Hp} {h : Heap} {a C : Addr} {d : Option Addr} (ok : HOk P w H h) (e : H a = some (exv a C d)) : ∃ (oe : Obj) (vs : Array Value), h.get? a = some oe ∧ Zc (.ref C) d oe ∧ oe.data = .fields vs ∧ vs[1]? = some .none ∧ vs[2]? = some .none := by
  have x : ObjOk P w H h a (.ext fun h => ∃ (oe : Obj) (vs : Array Value), h.get? a = some oe ∧ Zc (.ref C) d oe ∧ oe.data = .fields vs ∧ vs[1]? = some .none ∧ vs[2]? = some .none) := ok a _ e
  exact x.1
theorem exv_xd {a C : Addr} {d : Option Addr} {fs : List (Str × V)} : exv a C d ≠ .xd fs := fun z => by
  have z' : HO.ext _ = HO.xd fs := z
  cases z'
/-- it is a value of the heap, or the error that is handled -/
def EV (pn : List (Addr × Obj)) (H : Hp) (a C : Addr) (d : Option Addr) : Prop := H a = some (exv a C d) ∨ ∃ oe, (a, oe) ∈ pn ∧ Zc (.ref C) d oe ∧ ∃ vs, oe.data = .fields vs
section
variable {X : Cx} {pins : List (Addr × Obj)} {σ : St} {H : Hp} {s : Shared}
theorem EV.get {a C : Addr} {d : Option Addr} (e : EV X.pn H a C d) (I : Inv X pins σ H s) : ∃ (oe : Obj) (vs : Array Value), s.heap.get? a = some oe ∧ Zc (.ref C) d oe ∧ oe.data = .fields vs := by
  rcases e with e | ⟨oe, hm, z, vs, f⟩
  · obtain ⟨oe, vs, h1, h2, h3, _⟩ := exv_at I.hok e
    exact ⟨oe, vs, h1, h2, h3⟩
  · exact ⟨oe, vs, (I.pin _ (List.mem_append_left _ hm)).1, z, f⟩
end

/-! ### what the text says of a class -/
structure ExF (K : PySem.W.Frag) (C : Addr) : Prop where
  oex : OexC K C
  xf : XfC K C
  ha : PySem.W.findIn K (.ref C) "__class__" = some (some (.builtin "object.__class__"))
  hn : PySem.W.specialIn K (.builtin "object.__class__") "__get__" = some (some (.builtin "getset_descriptor.__get__"))
  ht : PySem.W.takesIn K (.builtin "object.__class__") = some true
  hm : PySem.W.mroIn K C (.type "object") = some true
def oexB (K : PySem.W.Frag) (C : Addr) : Bool := match K.lookup C with
  | some ⟨.type t, _, .cls cd, sl⟩ => (match cd.mro, sl.toList with
    | .ref D :: bm, [_, _, _, _, some (.builtin n), _] => decide (t = "type") && decide (D = C) && decide (n = "ValueError.__new__") && !cd.hasDel && cd.hasDict && PySem.HandSPX.refsVE bm
    | _, _ => false)
  | _ => false
theorem oexB_ok {K : PySem.W.Frag} {C : Addr} (h : oexB K C = true) : ∃ nm q N bs bm sn sub ab col dd k0 k1 k2 k3 k5, K.lookup C = some (excClassObj nm q C N bs bm true sn sub ab col dd k0 k1 k2 k3 k5 "ValueError.__new__") ∧ PySem.HandSPX.refsVE bm = true := by
  unfold oexB at h
  split at h
  · rename_i t dd cd sl e
    split at h
    · rename_i D bm k0 k1 k2 k3 n k5 em es
      simp only [Bool.and_eq_true, Bool.not_eq_true', decide_eq_true_eq] at h
      obtain ⟨⟨⟨⟨⟨h1, h2⟩, h3⟩, h4⟩, h5⟩, h6⟩ := h
      obtain ⟨nm, bs, mro, ns, qn, hd, sn, sb, ab, col, del⟩ := cd
      dsimp only at h4 h5 em
      have es' : sl = #[k0, k1, k2, k3, some (.builtin n), k5] := by rw [← es, Array.toArray_toList]
      subst h1 h2 h3 h4 h5 em es'
      exact ⟨_, _, _, _, _, _, _, _, _, _, _, _, _, _, _, e, h6⟩
    · cases h
  · cases h
def exB (K : PySem.W.Frag) (C : Addr) : Bool :=
  oexB K C && (decide (PySem.W.findIn K (.ref C) "__setattr__" = some (some (.builtin "object.__setattr__"))) && (decide (PySem.W.subIn K (.ref C) (.type "BaseException") = some true) && (decide (PySem.W.typeIn K (.ref C) = some (.type "type")) && (PySem.W.keepIn K (.ref C) && (xfB K C &&
    (decide (PySem.W.findIn K (.ref C) "__class__" = some (some (.builtin "object.__class__"))) && (decide (PySem.W.specialIn K (.builtin "object.__class__") "__get__" = some (some (.builtin "getset_descriptor.__get__"))) &&
    (decide (PySem.W.takesIn K (.builtin "object.__class__") = some true) && decide (PySem.W.mroIn K C (.type "object") = some true)))))))))
theorem exB_ok {K : PySem.W.Frag} {C : Addr} (h : exB K C = true) : ExF K C := by
  unfold exB at h
  simp only [Bool.and_eq_true, decide_eq_true_eq] at h
  obtain ⟨h1, h2, h3, h4, h5, h6, h7, h8, h9, h10⟩ := h
  exact ⟨⟨oexB_ok h1, h2, h3, h4, h5⟩, xfB_ok h6, h7, h8, h9, h10⟩

/-! ### e.name -/
def tEvf (K : PySem.W.Frag) (pn : List (Addr × Obj)) (n : Str) (te : TE) : TE := fun σ H Q => te σ H fun x H1 => ∃ (a C d : Addr) (fs : List (Str × V)) (v : V), x = .ref a ∧ EV pn H1 a C (some d) ∧ ExF K C ∧ PySem.W.findIn K (.ref C) n = some none ∧ H1 d = some (.xd fs) ∧ fs.lookup n = some v ∧ Q v H1
section
variable {X : Cx}
theorem inst_at {K : PySem.W.Frag} {P : Program} {w : World} {H : Hp} {h : Heap} {a C d : Addr} {fs : List (Str × V)} {oe : Obj} {vs : Array Value} (ok : HOk P w H h) (e : h.get? a = some oe) (z : Zc (.ref C) (some d) oe) (f : oe.data = .fields vs) (ed : H d = some (.xd fs)) :
    ∃ od, PySem.W.InstAt h a oe C (some od) ∧ ∀ n v, fs.lookup n = some v → ∃ u, PySem.W.lookIn n od = some (some u) ∧ RelV v u := by
  have hx : ObjOk P w H h d (.xd fs) := ok d _ ed
  obtain ⟨mA, hns, hr⟩ := hx
  obtain ⟨od, ho, hl⟩ := lookIn_ns hns
  refine ⟨od, ⟨e, z.1, by unfold PySem.W.notCls; rw [f] <;> rfl, by rw [z.2]; exact ho⟩, fun n v l => ?_⟩
  obtain ⟨u, hu, ru⟩ := RelO.some_of (v := v) (o := mA n) (by rw [← l]; exact hr n)
  exact ⟨u, by rw [hl, hu], ru⟩
theorem pe_evf {e : Expr} {te : TE} {pos : Pos} {n : Str} (he : PE X e te) (hb : attributeBase e n X.env (eval e X.env) = eval e X.env := by rfl) : PE X (.Attribute e n pos) (tEvf X.K X.pn n te) := by
  refine ⟨fun pins s σ H Q I h => attr_of hb (thn (he.run pins s σ H _ I h) fun u s1 hh => ?_)⟩
  obtain ⟨x, H1, I1, rx, a, C, d, fs, v, ex, ev, T, hno, ed, l, q⟩ := hh
  subst ex
  obtain rfl : u = Value.ref a := rx
  obtain ⟨oe, vs, g, z, f⟩ := ev.get I1
  obtain ⟨od, J, k⟩ := inst_at (K := X.K) I1.hok g z f ed
  obtain ⟨u, hu, ru⟩ := k n v l
  exact HandSPX.exc_get I1.kIn J T.xf.ga T.xf.gg T.xf.exC (PySem.W.findObj_own T.xf.hdC hno rfl hu) (handed_of ru) ⟨v, H1, I1.tok _, ru, q⟩

/-! ### isinstance -/
inductive TyE (K : PySem.W.Frag) (pn : List (Addr × Obj)) (H : Hp) : V → Value → Prop where
  | base {x : V} {t : Value} (h : TyX K H x t) : TyE K pn H x t
  | exc {a C : Addr} {d : Option Addr} (e : EV pn H a C d) (T : ExF K C) (k : ∀ b, d = some b → ∃ fs, H b = some (.xd fs)) : TyE K pn H (.ref a) (.ref C)
theorem kit_ofE {pins : List (Addr × Obj)} {σ : St} {H : Hp} {s : Shared} {x : V} {u t : Value} (I : Inv X pins σ H s) (rx : RelV x u) (ty : TyE X.K X.pn H x t) : ∃ P : Heap → Prop, PySem.W.KitX X.K u t P ∧ P s.heap ∧ u ≠ .builtin "__main__.__loader__#opaque" := by
  cases ty with
  | base b => exact kit_of I rx b
  | @exc a C d ev T k =>
    obtain rfl : u = Value.ref a := rx
    obtain ⟨oe, vs, g, z, f⟩ := ev.get I
    have hc : (PySem.W.clsIn X.K C).isSome = true := by
      obtain ⟨nm, q, N, bs, bm, sn, sub, ab, col, dd, k0, k1, k2, k3, k5, e, _⟩ := T.oex.cls
      unfold PySem.W.clsIn
      rw [e]
      rfl
    have kx := fun od => PySem.W.kitx_exc (x := a) (ox := oe) (od := od) hc T.xf.ga T.xf.gg T.xf.exC T.ha T.hn T.ht T.hm
    cases d with
    | none => exact ⟨_, kx none, ⟨g, z.1, by unfold PySem.W.notCls; rw [f] <;> rfl, by rw [z.2]; exact True.intro⟩, fun q => nomatch q⟩
    | some d =>
      obtain ⟨fs, ed⟩ := k d rfl
      obtain ⟨od, J, _⟩ := inst_at (K := X.K) I.hok g z f ed
      exact ⟨_, kx (some od), J, fun q => nomatch q⟩
def rIsX (K : PySem.W.Frag) (pn : List (Addr × Obj)) : List V → Hp → VK → Prop := fun xs H Q => ∃ (x c : V) (t u : Value) (b : Bool), xs = [x, c] ∧ ClsV c u ∧ TyE K pn H x t ∧ PySem.W.kitOne K t u = some b ∧ Q (.bl b) H
def rIsXT (K : PySem.W.Frag) (pn : List (Addr × Obj)) : List V → Hp → VK → Prop := fun xs H Q => ∃ (x : V) (tp : Addr) (cs : List V) (t : Value) (us : List Value) (b : Bool), xs = [x, .ref tp] ∧ H tp = some (.tup cs) ∧ Paired ClsV cs us ∧ TyE K pn H x t ∧ PySem.W.kitAny K t us = some b ∧ Q (.bl b) H
theorem call_isX : CallR X (.builtin "isinstance") (rIsX X.K X.pn) := fun pins s σ H xs us Q I r h => by
  obtain ⟨x, c, t, u, b, rfl, k, ty, e, q⟩ := h
  obtain ⟨u1, u2, rfl, r1, r2⟩ := vals2 r
  obtain rfl := k.eq r2
  obtain ⟨P, Z, p, hx⟩ := kit_ofE I r1 ty
  exact PySem.W.kia_one Z I.kIn p e hx fun tk => ⟨.bl b, H, I.tok tk, rfl, q⟩
theorem call_isXT : CallR X (.builtin "isinstance") (rIsXT X.K X.pn) := fun pins s σ H xs us Q I r h => by
  obtain ⟨x, tp, cs, t, ws, b, rfl, hT, k, ty, e, q⟩ := h
  obtain ⟨u1, u2, rfl, r1, r2⟩ := vals2 r
  obtain rfl : u2 = Value.ref tp := r2
  obtain ⟨P, Z, p, hx⟩ := kit_ofE I r1 ty
  have ot : ObjOk X.prog X.w H s.heap tp (.tup cs) := I.hok tp _ hT
  obtain ⟨_, its, rv, o, h1, h2, n, h3⟩ := ot
  obtain rfl := ClsV.all k rv
  obtain ⟨oc, od, dt, sl⟩ := o
  simp only at h2 h3
  subst h2 h3
  exact PySem.W.kia_tup Z I.kIn p h1 e hx fun tk => ⟨.bl b, H, I.tok tk, rfl, q⟩
end
end Kx

set_option Elab.async false
set_option linter.all false
set_option maxRecDepth 100000
set_option maxHeartbeats 4000000
namespace Kx
open PySem PySem.Spec PyProof.Rows L2
/-! ### an error is made and kept -/
theorem exv_of {P : Program} {w : World} {H : Hp} {h : Heap} {a C d : Addr} {fs : List (Str × V)} (ok : HOk P w H h) (ea : H a = some (exo a C (some d))) (ed : H d = some (exd d fs)) :
    a ≠ d ∧ (∃ (oe : Obj) (vs : Array Value), h.get? a = some oe ∧ Zc (.ref C) (some d) oe ∧ oe.data = .fields vs ∧ vs[1]? = some .none ∧ vs[2]? = some .none) ∧ ∃ mA, h.Ns1 d mA ∧ ∀ f, RelO (fs.lookup f) (mA f) := by
  obtain ⟨t1, ha⟩ := exo_at ok ea
  obtain ⟨mA, hn, hr⟩ := exd_at ok ed
  refine ⟨fun z => ?_, ⟨_, _, ha, ⟨rfl, rfl⟩, rfl, rfl, rfl⟩, mA, hn, hr⟩
  subst z
  obtain ⟨o, es, ep, ho, hd, _⟩ := hn
  rw [ha] at ho
  cases ho
  cases hd
def kept (H : Hp) (a C d : Addr) (fs : List (Str × V)) : Hp := upd (upd H d (.xd fs)) a (exv a C (some d))
theorem Inv.kept' {X : Cx} {pins : List (Addr × Obj)} {σ : St} {H : Hp} {s : Shared} {a C d : Addr} {fs : List (Str × V)} (I : Inv X pins σ H s) (ea : H a = some (exo a C (some d))) (ed : H d = some (exd d fs)) : Inv X pins σ (kept H a C d fs) s := by
  obtain ⟨ne, ⟨oe, vs, ha, hz, hv, hv1, hv2⟩, mA, hn, hr⟩ := exv_of I.hok ea ed
  have hd' : ∃ u, s.heap.get? d = some u := by
    obtain ⟨o, es, ep, ho, _⟩ := hn
    exact ⟨o, ho⟩
  have m1 : Mut (H d) := by rw [ed]; exact True.intro
  have I1 : Inv X pins σ (upd H d (.xd fs)) s := I.write (h' := s.heap) (t' := s.toks) (o := .xd fs) m1 (.inl rfl) (fun b u _ e => e) hd' ⟨mA, hn, hr⟩
  have m2 : Mut (upd H d (.xd fs) a) := by rw [upd_ne ne, ea]; exact True.intro
  exact I1.write (h' := s.heap) (t' := s.toks) (o := exv a C (some d)) m2 (.inl rfl) (fun b u _ e => e) ⟨_, ha⟩ (exv_ok ha hz hv hv1 hv2)
section
variable {X : Cx} {CX : CXT} {k n : Nat} {fI C : Addr} {fd : FuncData} {ps ks : List Str} {sp : Sp} {x : Str} {p pos : Pos} {e : Expr} {es : List Expr} {kws : List Keyword} {t tk : TA} {g : List Value → List Value → List Value} {gV : List V → List V → List V}
def MkOk (C : Addr) (n m : Nat) (sp : Sp) (gV : List V → List V → List V) (vs zs : List V) (H : Hp) (Q : VK) : Prop := vs.length = n ∧ zs.length = m ∧ n ≤ 1000 ∧ ∀ a, H a = none → sp (gV (.ref a :: vs) zs) (upd H a (exo a C none))
  (fun v H2 => v = .non ∧ ∃ (d : Addr) (fs : List (Str × V)), H2 a = some (exo a C (some d)) ∧ H2 d = some (exd d fs) ∧ Q (.ref a) (kept H2 a C d fs)) (fun _ _ _ => False)
theorem run_mk {pins : List (Addr × Obj)} {σ : St} {H : Hp} {s : Shared} {Q : VK} {us ws : List Value} {vs zs : List V} (T : OexC X.K C) (iC : PySem.W.findIn X.K (.ref C) "__init__" = some (some (.ref fI))) (tI : PySem.W.typeIn X.K (.ref fI) = some (.type "function"))
    (F1 : FnOk X.prog X.w X.K X.mg X.base CX k fI fd ps sp) (hr : Room (k + 1) X.A) (hb : KBn X.K fd ps (n + 1) ks g gV) (hx : Passes CX X (fun _ _ _ => False))
    (I : Inv X pins σ H s) (r : Vals vs us) (rz : Vals zs ws) (h : MkOk C n ks.length sp gV vs zs H Q) : wpAny (model X.prog X.w) X.A (call (.ref C) us (ks.zip ws)) (EP X pins σ Q) X.xe s := by
  obtain ⟨l1, l2, ln, h⟩ := h
  obtain ⟨nm, q, N, bs, bm, sn, sub, ab, col, dd, k0, k1, k2, k3, k5, hC, hbm⟩ := T.cls
  obtain ⟨hp, gs, dr, tk, os⟩ := s
  have hsz : hp.objs.size ≤ hp.objs.size + 1 := Nat.le_succ _
  have hq := h (hp.objs.size + 1) (I.hok.fresh hsz)
  have hget : ((hp.push (PySem.W.kdv_tup us)).push (PySem.HandSPX.excO C hp.objs.size)).get? (hp.objs.size + 1) = some (PySem.HandSPX.excO C hp.objs.size) := by heap_get
  have I2 : Inv X pins σ (upd H (hp.objs.size + 1) (exo (hp.objs.size + 1) C none)) ⟨(hp.push (PySem.W.kdv_tup us)).push (PySem.HandSPX.excO C hp.objs.size), gs, dr, tk, os⟩ :=
    I.laid (t' := tk) (fun b o e => Heap.get?_push_of_some _ (Heap.get?_push_of_some _ e)) hsz (exo_ok hget)
  have r1 : Vals (V.ref (hp.objs.size + 1) :: vs) (Value.ref (hp.objs.size + 1) :: us) := .cons rfl r
  have n1 : (Value.ref (hp.objs.size + 1) :: us).length = n + 1 := by rw [List.length_cons, ← r.length, l1]
  have hus : us.length ≤ sizeLine := by
    rw [← Paired.length r, sizeLine_eq, l1]
    omega
  refine wpAny_call (PySem.KwX.callKw F.excBase_ValueError (fun Y => PySem.HandSPX.refsVE_contains Y bm hbm) (I.kIn _ _ hC) (PySem.W.looks_findIn I.kIn iC) (fun self => PySem.W.bind_fn I.kIn (.ref self) tI) hus
    (codeAny_mono (F1.run _ X.stack _ _ ⟨Value.ref (hp.objs.size + 1) :: us, ks.zip ws⟩ (g (Value.ref (hp.objs.size + 1) :: us) ws) _ _ (fun _ _ _ => False) (hr.make C us (ks.zip ws)) (I2.env0.make C us (ks.zip ws))
      (hb.to _ _ ws I2.kIn n1 (rz.length.symm.trans l2)) (hb.rel r1 rz) hq) fun r s' hq' => ?_))
  cases r with
  | error er => exact hx pins σ _ _ er s' I2 hq'
  | ok fl =>
    cases fl with
    | ret u =>
      obtain ⟨v, H3, I3, rv, ev, d, fs, ea, ed, q2⟩ := I2.after hq'
      subst ev
      exact ⟨rv, .ref (hp.objs.size + 1), _, Inv.kept' I3 ea ed, rfl, q2⟩
    | next => exact False.elim hq'
    | brk => exact False.elim hq'
    | cont => exact False.elim hq'
def tMkX (C : Addr) (n m : Nat) (sp : Sp) (gV : List V → List V → List V) (t tk : TA) : TE := fun σ H Q => t σ H fun vs H1 => tk σ H1 fun zs H2 => MkOk C n m sp gV vs zs H2 Q
variable (T : OexC X.K C) (iC : PySem.W.findIn X.K (.ref C) "__init__" = some (some (.ref fI))) (tI : PySem.W.typeIn X.K (.ref fI) = some (.type "function"))
  (F1 : FnOk X.prog X.w X.K X.mg X.base CX k fI fd ps sp) (hr : Room (k + 1) X.A) (hb : KBn X.K fd ps (n + 1) ks g gV) (hx : Passes CX X (fun _ _ _ => False)) (hg : Gl X x) (hm : X.mg x = some (.ref C))
include T iC tI F1 hr hb hx hg hm
/-- C(e, ..) -/
theorem pe_mkP (hks : ks = []) (ha : PA X (e :: es) t) (hdb : (x == ("__debug__" : Str)) = false := by decide) (he : starEach (e :: es) X.env = (false, eval e X.env) :: starEach es X.env := by rfl) (hpl : (backTo pos (starEach es X.env)).any (·.1) = false := by rfl) :
    PE X (.Call (.Name x p) (e :: es) [] pos) (tMkX C n 0 sp gV t tNil) := by
  subst hks
  refine ⟨fun pins s σ H Q I h => ?_⟩
  refine wpAny_Call_Name_kw (ld_glob I hg hm ?_ hdb)
  refine PySem.W.callWith_K (h₀ := X.base) I.ok.mod.kin T.kC (thn (ha.run pos pins s σ H _ I h) fun us s1 ⟨vs, H1, I1, r1, q1⟩ => ⟨I1.kIn, ?_⟩) he hpl
  exact run_mk (ws := []) T iC tI F1 hr hb hx I1 r1 .nil q1
/-- C(k = e, ..) -/
theorem pe_mkK (hn : n = 0) (hkw : PK X kws tk) (hall : (backToKw pos (keywordEach kws X.env)).all (·.1.isSome) = true := by rfl) (hks : (backToKw pos (keywordEach kws X.env)).filterMap (·.1) = ks := by rfl) (hdb : (x == ("__debug__" : Str)) = false := by decide)
    (hpl : ((backTo pos (starEach [] X.env)).any (·.1) || (backToKw pos (keywordEach kws X.env)).any (·.1.isNone)) = false := by rfl) : PE X (.Call (.Name x p) [] kws pos) (tMkX C n ks.length sp gV tNil tk) := by
  subst hn
  refine ⟨fun pins s σ H Q I h => ?_⟩
  refine wpAny_Call_Name_kw (ld_glob I hg hm ?_ hdb)
  refine PySem.W.callWith_KW0 (h₀ := X.base) I.ok.mod.kin T.kC hall ?_ hpl
  refine thn (hkw.run pos pins s σ H _ I h) fun ws s2 ⟨zs, H2, I2, rz, q2⟩ => ⟨I2.kIn, ?_⟩
  rw [hks]
  exact run_mk (us := []) (vs := []) T iC tI F1 hr hb hx I2 .nil rz q2
/-- C(e, .., k = e, ..) -/
theorem pe_mkM (ha : PA X (e :: es) t) (hkw : PK X kws tk) (hall : (backToKw pos (keywordEach kws X.env)).all (·.1.isSome) = true := by rfl) (hks : (backToKw pos (keywordEach kws X.env)).filterMap (·.1) = ks := by rfl) (hdb : (x == ("__debug__" : Str)) = false := by decide)
    (he : starEach (e :: es) X.env = (false, eval e X.env) :: starEach es X.env := by rfl) (hpl : ((backTo pos (starEach (e :: es) X.env)).any (·.1) || (backToKw pos (keywordEach kws X.env)).any (·.1.isNone)) = false := by rfl) :
    PE X (.Call (.Name x p) (e :: es) kws pos) (tMkX C n ks.length sp gV t tk) := by
  refine ⟨fun pins s σ H Q I h => ?_⟩
  refine wpAny_Call_Name_kw (ld_glob I hg hm ?_ hdb)
  refine PySem.W.callWith_KW (h₀ := X.base) I.ok.mod.kin T.kC hall (thn (ha.run pos pins s σ H _ I h) fun us s1 ⟨vs, H1, I1, r, q⟩ => ?_) hpl he
  refine thn (hkw.run pos pins s1 σ H1 _ I1 q) fun ws s2 ⟨zs, H2, I2, rz, q2⟩ => ⟨I2.kIn, ?_⟩
  rw [hks]
  exact run_mk T iC tI F1 hr hb hx I2 r rz q2
end
/-- C(), a class without an __init__ of its own -/
theorem pe_mk0 {X : Cx} {C : Addr} {bmB : List Value} {B newId initId : String} {x : Str} {p pos : Pos} (F : ExcBaseFacts B newId initId bmB) (q : PySem.W.excIn X.K C bmB newId = true) (gC : X.mg x = some (.ref C)) (kC : PySem.W.keepIn X.K (.ref C) = true) (hg : Gl X x) (hdb : (x == ("__debug__" : Str)) = false := by decide) :
    PE X (.Call (.Name x p) [] [] pos) (fun _ H Q => ∀ a, H a = none → Q (.ref a) (upd H a (exv a C none))) := by
  refine ⟨fun pins s σ H Q I h => ?_⟩
  refine wpAny_Call_Name_kw (ld_glob I hg gC ?_ hdb)
  refine PySem.W.callWith_K0 I.kIn kC ?_
  obtain ⟨bm, N, nm, qn, bs, hdct, sn, sub, ab, col, dd, k0, k1, k2, k3, k5, mN, hC, hN, hni, T⟩ := exc_obj I.kIn q
  refine wpAny_call_exc_subT F T hC hN hni (fun h' a hm => ?_) (Nat.zero_le _)
  have hn : H a = none := I.hok.gone hm.new
  obtain ⟨t, ht, _, _⟩ := hm.there
  exact ⟨.ref a, _, I.laidN hm.keeps hm.new hn (exv_ok ht ⟨rfl, rfl⟩ rfl rfl rfl), rfl, h a hn⟩
/-- an error that is made is raised -/
theorem pmk_pe {X : Cx} {e : Expr} {te : TE} (hx : X.ex = []) (he : PE X e te) : L2N.PMk X e (fun σ H Q => te σ H fun x H1 => ∃ (a C : Addr) (d : Option Addr), x = .ref a ∧ H1 a = some (exv a C d) ∧ Fr0 X.H_0 a ∧ Raises X (.ref C) ∧ Q (.ref C) d (delH H1 a)) := fun pins s σ H Q I h => by
  refine thn (he.run pins s σ H _ I h) fun u s1 ⟨x, H1, I1, rx, a, C, d, ex, ha, h0, r, q⟩ => ?_
  subst ex
  obtain rfl : u = Value.ref a := rx
  obtain ⟨oe, vs, hg, hz, hd, h1, h2⟩ := exv_at I1.hok ha
  obtain ⟨G, k, hn, J⟩ := Inv.untrack I1 ha h0 hx
  refine ⟨a, oe, vs, { s1 with heap := G }, delH H1 a, .ref C, d, rfl, J, k, hn, hg, ⟨hz.1, hz.2, fun vs' e => ?_⟩, hd, h1, delH_same, rfl, J.bare, r, q⟩
  rw [hd] at e
  cases e
  exact h2
end Kx

set_option Elab.async false
set_option linter.all false
set_option maxRecDepth 100000
set_option maxHeartbeats 4000000
namespace Kx
open PySem PySem.Spec PyProof.Rows L2 L2H HotX
/-! ### two modes: nothing is handled; the error p is handled -/
abbrev Md := Option (Addr × Obj)
def pnOf : Md → List (Addr × Obj)
  | none => []
  | some p => [p]
def calmOf : Md → Bool
  | none => true
  | some _ => false
structure RoomM (m : Md) (k : Nat) (A : Around) : Prop where
  r : RoomH k A
  c : m = none → A.handled = none
  h : ∀ p, m = some p → Hot1 A p
theorem RoomM.mono {m : Md} {j k : Nat} {A : Around} (r : RoomM m k A) (h : j ≤ k) : RoomM m j A := ⟨r.r.mono h, r.c, r.h⟩
theorem RoomM.room {k : Nat} {A : Around} (r : RoomM none k A) : Room k A := ⟨r.c rfl, r.r.dp, r.r.un⟩
theorem roomM_of {k : Nat} {A : Around} (r : Room k A) : RoomM none k A := ⟨roomH_of r, fun _ => r.hd, fun _ z => nomatch z⟩
theorem RoomM.hu {m : Md} {k : Nat} {A : Around} (r : RoomM m k A) : A.units + 64 < cLine := by
  have h := r.r.un
  omega
/-- the context stands in the mode -/
structure MdOk (m : Md) (X : Cx) : Prop where
  pn : X.pn = pnOf m
  c : m = none → X.calm = true
  h : ∀ p, m = some p → Hot1 X.A p
theorem MdOk.hot {p : Addr × Obj} {X : Cx} (o : MdOk (some p) X) : HotC X := ⟨p, o.h p rfl, by rw [o.pn]; exact List.mem_cons_self⟩
abbrev cxM (m : Md) (CX : CXT) (P : Program) (w : World) (K : PySem.W.Frag) (mg : Str → Option Value) (base : Heap) (N : List Str) (qual : Str) (scope : Scope) (f : Addr) (cd : Value) (A : Around) (outer : List Env) (s : Shared) (H : Hp) (E : XK) : Cx :=
  { cxOf CX P w K mg base N qual scope f cd A outer s H E with calm := calmOf m, pn := pnOf m }
structure FnM (m : Md) (P : Program) (w : World) (K : PySem.W.Frag) (mg : Str → Option Value) (base : Heap) (CX : CXT) (k : Nat) (f : Addr) (fd : FuncData) (ps : List Str) (sp : Sp) : Prop where
  len : ∀ vs H Q E, sp vs H Q E → vs.length = ps.length
  run : ∀ (A : Around) (outer : List Env) (s : Shared) (H : Hp) (args : Args) (us : List Value) (vs : List V) (Q : VK) (E : XK), RoomM m k A → (∀ p, m = some p → PinOk outer H s p) → Env0 P w K mg base A outer s H → BindsTo s fd args (ps.zip us) → Vals vs us → sp vs H Q E →
    codeAny (model P w) A (.call (.ref f) args) (CR CX outer P w H s Q E) s
theorem FnM.ok {P : Program} {w : World} {K : PySem.W.Frag} {mg : Str → Option Value} {base : Heap} {CX : CXT} {k : Nat} {f : Addr} {fd : FuncData} {ps : List Str} {sp : Sp} (F : FnM none P w K mg base CX k f fd ps sp) : FnOk P w K mg base CX k f fd ps sp :=
  ⟨F.len, fun A outer s H args us vs Q E hr e0 b r h => F.run A outer s H args us vs Q E (roomM_of hr) (fun _ z => nomatch z) e0 b r h⟩
theorem FnM.mono {m : Md} {P : Program} {w : World} {K : PySem.W.Frag} {mg : Str → Option Value} {base : Heap} {CX : CXT} {j k : Nat} {f : Addr} {fd : FuncData} {ps : List Str} {sp : Sp} (F : FnM m P w K mg base CX j f fd ps sp) (h : j ≤ k) : FnM m P w K mg base CX k f fd ps sp :=
  ⟨F.len, fun A outer s H args us vs Q E hr => F.run A outer s H args us vs Q E (hr.mono h)⟩
/-- a def in both modes, by its body -/
theorem fnM_of {m : Md} {CX : CXT} {P : Program} {w : World} {K : PySem.W.Frag} {mg : Str → Option Value} {base : Heap} {x qual : Str} {st : Stmt} {f : Addr} {fd : FuncData} {N ps : List Str} {k : Nat} {sp : Sp} (F : Fun K x qual st f fd) (S : FnScope N ps (defScope st))
    (len : ∀ vs H Q E, sp vs H Q E → vs.length = ps.length)
    (hbody : ∀ (cdv : Value) (A : Around) (outer : List Env) (s : Shared) (H : Hp) (vs : List V) (Q : VK) (E : XK), RoomM m k (A.deeper (envOfC qual (defScope st) s.heap.objs.size f cdv)) → MdOk m (cxM m CX P w K mg base N qual (defScope st) f cdv A outer s H E) → sp vs H Q E →
      ∃ t, PSs (cxM m CX P w K mg base N qual (defScope st) f cdv A outer s H E) (defBody st) t ∧ t { nx := fun _ H' => Q .non H', rt := Q } (L2.start N vs) H) : FnM m P w K mg base CX (k + 1) f fd ps sp := by
  obtain ⟨oc, od, kV, doc, pm, an, cdv, ct, osl, rfl, lk, hcd⟩ := F.ex
  cases m with
  | none =>
    have G : FnOk P w K mg base CX (k + 1) f (PySem.W.fnOf x qual (defArgs st) (defBody st) (defScope st) .none kV doc pm an cdv ct) ps sp :=
      fn_of lk hcd S len fun A outer s H vs Q E hr hsp => hbody cdv A outer s H vs Q E (roomM_of hr) ⟨rfl, fun _ => rfl, fun _ z => nomatch z⟩ hsp
    exact ⟨len, fun A outer s H args us vs Q E hr _ e0 b r h => G.run A outer s H args us vs Q E hr.room e0 b r h⟩
  | some p =>
    refine ⟨len, fun A outer s H args us vs Q E hr hpin e0 hb r hsp => ?_⟩
    have hot := hr.h p rfl
    have hl := len _ _ _ _ hsp
    have KX : K.In s.heap := e0.mod.kin.keeps fun b o e => (e0.bs b o e).1
    have lim : s.heap.NoLimit := e0.mod.nolimit.keeps fun b o e => (e0.bs b o e).1
    have hkind : ∀ y ∈ ps.zip us, (defScope st).names.lookup y.1 = some .local ∨ ((defScope st).names.lookup y.1 = some .cell ∧ ((cellsFrom (s.heap.objs.size + 1) (defScope st).names []).lookup y.1).isSome = true) := by
      rintro ⟨n, v⟩ hy
      rcases S.par n (List.of_mem_zip hy).1 with q | q
      · exact .inl q
      · exact .inr ⟨q, PySem.W.cellsFrom_some _ _ _ (.inl q)⟩
    refine codeAny_call_function hr.r.depth (KX _ _ lk) rfl S.co S.gen rfl (PySem.W.codeRec_of KX hcd) (hb _ _ _ _ ?_)
    refine wpAny_newFunctionEnv_cells S.kind hkind fun env he s1 x1 => ?_
    subst he
    refine ⟨lim.keeps x1.toInCall.keep, codeAny_func ?_⟩
    obtain ⟨t, ht, hq⟩ := hbody cdv A outer s H vs Q E ⟨hr.r.deeper _, (fun z => nomatch z), fun q e => hr.h q e⟩ ⟨rfl, (fun z => nomatch z), fun q e => hr.h q e⟩ hsp
    have I := inv_startH (CX := CX) (E := E) S (hpin p rfl) e0 hl r x1
    refine wpAny_mono (ht.run [] s1 (L2.start N vs) H _ I hq) (fun fl s' hs => ?_) fun e s' hs => hs
    cases fl with
    | ret u =>
      obtain ⟨v, σ', H', J, rv, q⟩ := hs
      exact ⟨v, H', J.os, J.bare, J.base, J.hok, rv, q⟩
    | next =>
      obtain ⟨σ', H', J, q⟩ := hs
      exact ⟨V.non, H', J.os, J.bare, J.base, J.hok, rfl, q⟩
    | brk =>
      obtain ⟨_, _, _, q⟩ := hs
      exact q.elim
    | cont =>
      obtain ⟨_, _, _, q⟩ := hs
      exact q.elim
section
variable {X : Cx} {m : Md} {k : Nat} {f : Addr} {fd : FuncData} {ps : List Str} {sp : Sp} {x : Str} {q pos : Pos} {e : Expr} {es : List Expr} {t : TA}
theorem run_fnM {CX : CXT} {E : XK} {pins : List (Addr × Obj)} {σ : St} {H : Hp} {s : Shared} {Q : VK} {us : List Value} {vs : List V} (F : FnM m X.prog X.w X.K X.mg X.base CX k f fd ps sp) (o : MdOk m X) (hr : RoomM m k X.A) (hb : Binds X.K fd ps []) (hx : Passes CX X E)
    (I : Inv X pins σ H s) (r : Vals vs us) (h : sp vs H Q E) : wpAny (model X.prog X.w) X.A (call (.ref f) us) (EP X pins σ Q) X.xe s := by
  have hl : us.length = ps.length := by rw [← r.length]; exact F.len _ _ _ _ h
  have b := hb s us I.kIn (by rw [List.append_nil]; exact hl)
  rw [List.append_nil] at b
  have hpin : ∀ p, m = some p → PinOk X.stack H s p := fun p e => by
    have P1 := I.pin p (List.mem_append_left _ (by rw [o.pn, e]; exact List.mem_cons_self))
    exact ⟨P1.1, P1.2.1, fun hm => (List.mem_cons.mp (I.stkSub p.1 hm)).elim P1.2.2.1 P1.2.2.2.1, P1.2.2.2.2⟩
  refine wpAny_call (codeAny_mono (F.run X.A X.stack s H ⟨us, []⟩ us vs Q E hr hpin I.env0 b r h) fun r s' hq => ?_)
  cases r with
  | error e => exact hx pins σ H s e s' I hq
  | ok fl =>
    cases fl with
    | ret u => exact I.after hq
    | next => exact False.elim hq
    | brk => exact False.elim hq
    | cont => exact False.elim hq
theorem pe_callM (F : FnM m X.prog X.w X.K X.mg X.base CX0 k f fd ps sp) (o : MdOk m X) (hr : RoomM m k X.A) (hg : Gl X x) (hm : X.mg x = some (.ref f)) (hk : PySem.W.keepIn X.K (.ref f) = true) (hb : Binds X.K fd ps []) (ha : PA X (e :: es) t)
    (hdb : (x == ("__debug__" : Str)) = false := by decide) (he : starEach (e :: es) X.env = (false, eval e X.env) :: starEach es X.env := by rfl) (hpl : (backTo pos (starEach es X.env)).any (·.1) = false := by rfl) :
    PE X (.Call (.Name x q) (e :: es) [] pos) (tCall sp [] E0 t) := by
  refine ⟨fun pins s σ H Q I h => ?_⟩
  refine wpAny_Call_Name_kw (ld_glob I hg hm ?_ hdb)
  refine PySem.W.callWith_K (h₀ := X.base) I.ok.mod.kin hk (thn (ha.run pos pins s σ H _ I h) fun us s1 ⟨vs, H1, I1, r1, q1⟩ => ⟨I1.kIn, ?_⟩) he hpl
  have q2 : sp (vs ++ []) H1 Q E0 := q1
  rw [List.append_nil] at q2
  exact run_fnM F o hr hb pass0 I1 r1 q2
end
end Kx

set_option Elab.async false
set_option linter.all false
set_option maxRecDepth 100000
set_option maxHeartbeats 4000000
namespace Kx
open PySem PySem.Spec PyProof.Rows L2 L2H HotX
/-! ### what a comprehension walks, in a mode -/
structure TurnM (m : Md) (P : Program) (w : World) (K : PySem.W.Frag) (tg : Expr) (J : It) (fp : List Addr) (it : Addr) (tn : Nat → Heap → Prop) : Prop where
  obj : ∀ i h, tn i h → ∀ b ∈ fp, ∃ o, h.get? b = some o ∧ ∀ v, o.data ≠ .cell v
  keep : ∀ i h h', tn i h → (∀ b ∈ fp, ∀ o, h.get? b = some o → h'.get? b = some o) → tn i h'
  item : ∀ (X : Cx), X.prog = P → X.w = w → X.K = K → MdOk m X → ∀ (i : Nat) (pins : List (Addr × Obj)) (s : Shared) (σ : St) (H : Hp) (E : Value → Shared → Prop), Inv X pins σ H s → (∀ b ∈ fp, FpOk X pins H b) → tn i s.heap → J.go i H →
    wpAny (model P w) X.A (pyNext (.ref it)) (fun r s1 => ∃ u, r = some u ∧
      wpAny (model P w) X.A (letOwnedTupleGo tg (.ref it) u) (fun _ s2 => ∃ x H', Inv X pins σ H' s2 ∧ RelV x u ∧ J.yld i H x H' ∧ tn (i + 1) s2.heap ∧ ∀ b ∈ fp, H' b = none) E s1) E s
  done : ∀ (X : Cx), X.prog = P → X.w = w → X.K = K → MdOk m X → ∀ (i : Nat) (pins : List (Addr × Obj)) (s : Shared) (σ : St) (H : Hp) (E : Value → Shared → Prop), Inv X pins σ H s → (∀ b ∈ fp, FpOk X pins H b) → tn i s.heap → J.stop i H →
    wpAny (model P w) X.A (pyNext (.ref it)) (fun r s1 => r = none ∧ Inv X pins σ H s1) E s
  self : ∀ (A : Around) (i : Nat) (s : Shared) (Q : Value → Shared → Prop) (E : Value → Shared → Prop), tn i s.heap → Q (.ref it) s → wpAny (model P w) A (pyIter (.ref it)) Q E s
theorem TurnM.cold {P : Program} {w : World} {K : PySem.W.Frag} {tg : Expr} {J : It} {fp : List Addr} {it : Addr} {tn : Nat → Heap → Prop} (T : Turn P w K tg J fp it tn) : TurnM none P w K tg J fp it tn :=
  ⟨T.obj, T.keep, fun X a b c o => T.item X a b c (o.c rfl), fun X a b c o => T.done X a b c (o.c rfl), T.self⟩
theorem TurnM.ofH {p : Addr × Obj} {P : Program} {w : World} {K : PySem.W.Frag} {tg : Expr} {J : It} {fp : List Addr} {it : Addr} {tn : Nat → Heap → Prop} (T : TurnH P w K tg J fp it tn) : TurnM (some p) P w K tg J fp it tn :=
  ⟨T.obj, T.keep, fun X a b c o => T.item X a b c o.hot, fun X a b c o => T.done X a b c o.hot, T.self⟩
def PIEM (m : Md) (X : Cx) (pins : List (Addr × Obj)) (σ : St) (tg : Expr) (R : It → Hp → Prop) (itv : Value) (s2 : Shared) : Prop :=
  ∃ (it : Addr) (fp : List Addr) (tn : Nat → Heap → Prop) (J : It) (H' : Hp), itv = .ref it ∧ Inv X pins σ H' s2 ∧ TurnM m X.prog X.w X.K tg J fp it tn ∧ tn 0 s2.heap ∧ (∀ b ∈ fp, FpOk X pins H' b) ∧ R J H'
structure PIM (m : Md) (X : Cx) (tg iter : Expr) (wi : TI) : Prop where
  run : ∀ (pins : List (Addr × Obj)) (s : Shared) (σ : St) (H : Hp) (R : It → Hp → Prop), Inv X pins σ H s → wi σ H R →
    wpAny (model X.prog X.w) X.A (eval iter X.env) (fun v s1 => wpAny (model X.prog X.w) X.A (pyIter v) (PIEM m X pins σ tg R) X.xe s1) X.xe s
/-- the block of a comprehension, what is pinned still pinned -/
abbrev blkM (X : Cx) (s : Shared) (H : Hp) (scope : Scope) (cenv : Env) (fp : List Addr) : Cx := { X.blk s H scope cenv fp with pn := X.pn }
theorem MdOk.blk {m : Md} {X : Cx} (o : MdOk m X) (s : Shared) (H : Hp) (scope : Scope) (cenv : Env) (fp : List Addr) : MdOk m (blkM X s H scope cenv fp) := ⟨o.pn, o.c, o.h⟩
section
variable {X : Cx} {pins : List (Addr × Obj)} {σ : St} {H : Hp} {s : Shared}
theorem blkM_start {scope : Scope} {own : List (Str × Nat)} {fp : List Addr} (I : Inv X pins σ H s) (ok : BlkOk X.N X.env.scope scope own) (hN : X.N.Nodup) (hfp : ∀ b ∈ fp, FpOk X pins H b ∧ b < s.heap.objs.size) :
    Inv (blkM X s H scope (compEnvC scope (cellsFrom (s.heap.objs.size + 1) scope.names (cloFrom X.env.cells scope.names [])) s.heap.objs.size X.env) fp) [] (wipe σ (own.map (·.2))) H { s with heap := pushCells (s.heap.push { cls := .type "dict", data := .dict #[] }) scope.names } := by
  have B := block_start I ok hN hfp
  refine ⟨⟨B.ok.mod, B.ok.kind, B.ok.glob, B.ok.blt, B.ok.above, B.ok.inj, B.ok.has, B.ok.cab, B.ok.hd, B.ok.frames, B.ok.stk, B.ok.exf, B.ok.bs, B.ok.bsz, B.ok.noex, B.ok.exfs, B.ok.funs, B.ok.frf⟩, B.os, B.bare, B.base, B.loc, B.cell, B.free, B.freeC, fun p hp => ?_, B.hok, B.len⟩
  have hp' : p ∈ X.pn ++ pins := by
    rw [List.append_nil] at hp
    exact List.mem_append_left _ hp
  obtain ⟨p1, p2, p3, p4, p5⟩ := I.pin p hp'
  exact ⟨pushCells_keeps _ _ _ _ (Heap.get?_push_of_some _ p1), p2, Nat.ne_of_lt (Heap.lt_size p1), fun hm => (List.mem_cons.mp (I.stkSub p.1 hm)).elim p3 p4, p5⟩
end
section
variable {X : Cx} {m : Md}
theorem pe_lcM {elt tg iter : Expr} {ifs : List Expr} {scope : Scope} {own : List (Str × Nat)} {pos : Pos} {wi : TI} {g : TG} {tt : TT} {te : TE} (mo : MdOk m X) (hN : X.N.Nodup) (hi : PIM m X tg iter wi) (ok : BlkOk X.N X.env.scope scope own)
    (hg : ∀ (s : Shared) (H : Hp) (C : Addr) (cl : List (Str × Addr)) (fp : List Addr), PG (blkM X s H scope (compEnvC scope cl C X.env) fp) tg g)
    (ht : ∀ (s : Shared) (H : Hp) (C : Addr) (cl : List (Str × Addr)) (fp : List Addr), PTs (blkM X s H scope (compEnvC scope cl C X.env) fp) ifs tt)
    (he : ∀ (s : Shared) (H : Hp) (C : Addr) (cl : List (Str × Addr)) (fp : List Addr), PE (blkM X s H scope (compEnvC scope cl C X.env) fp) elt te) (hs : ∀ x, foldedSetIterable iter X.env x = pure x := by intro _; rfl) :
    PE X (.ListComp elt [⟨tg, iter, ifs, 0⟩] scope pos) (tLc wi g tt te (own.map (·.2))) := by
  refine ⟨fun pins s σ H Q I h => ?_⟩
  rw [eval_ListComp]
  have hfree : ∀ y ∈ scope.names, y.2 = .free → ∃ c, X.env.cells.lookup y.1 = some c := fun y hy e =>
    (ok.free y hy e).elim (fun k => I.ok.has _ (.inl k)) fun k => I.ok.has _ (.inr k)
  refine wpAny_comprehension_free (use := none) rfl hs (closure_ok hfree) ok.kind (fun y hy e => by rw [ok.uniq y hy, e]) (thn (hi.run pins s σ H _ I h) fun xv s1 hx => thn hx fun itv s2 h2 => ?_)
  obtain ⟨it, fp, tn, J, H2, rfl, I2, T, st2, f2, q⟩ := h2
  refine wpAny_newObj_type (newEnv_comp ?_) (Nat.zero_le _)
  -- the list that is being made, at D
  generalize hD : s2.heap.objs.size = D
  obtain ⟨W, ⟨m0, w0⟩, turn⟩ := q D (I2.hok.fresh (Nat.le_of_eq hD))
  generalize hs3 : ({ s2 with heap := s2.heap.push { cls := .type "list", data := .seq ([] : List Value).toArray } } : Shared) = s3
  have h3 : s3.heap = s2.heap.push { cls := .type "list", data := .seq ([] : List Value).toArray } := by rw [← hs3]
  have I3 : Inv X pins σ (upd H2 D (.lst [])) s3 := by
    subst hs3 hD
    exact I2.laid (t' := s2.toks) (fun b o e => Heap.get?_push_of_some _ e) (Nat.le_refl _) ⟨Nat.zero_le _, [], 0, .nil, Heap.get?_push_size _ rfl⟩
  have f3 : ∀ b ∈ fp, FpOk X pins (upd H2 D (.lst [])) b ∧ b < s3.heap.objs.size := fun b hb => by
    obtain ⟨o, e, _⟩ := T.obj _ _ st2 b hb
    have lt : b < s2.heap.objs.size := Heap.lt_size e
    have z := f2 b hb
    refine ⟨⟨?_, z.2⟩, by rw [h3, Heap.size_push]; exact Nat.lt_succ_of_lt lt⟩
    rw [upd_ne (by rw [← hD]; exact Nat.ne_of_lt lt)]
    exact z.1
  have I4 := blkM_start I3 ok hN f3
  have st3 : tn 0 s3.heap := T.keep _ _ _ st2 fun b _ o e => by rw [h3]; exact Heap.get?_push_of_some _ e
  generalize hC : s3.heap.objs.size = C at I4
  generalize hcl : cellsFrom (C + 1) scope.names (cloFrom X.env.cells scope.names []) = cl at I4
  have pg := hg s3 (upd H2 D (.lst [])) C cl fp
  have pt := ht s3 (upd H2 D (.lst [])) C cl fp
  have pe := he s3 (upd H2 D (.lst [])) C cl fp
  have mb := mo.blk s3 (upd H2 D (.lst [])) scope (compEnvC scope cl C X.env) fp
  generalize hY : blkM X s3 (upd H2 D (.lst [])) scope (compEnvC scope cl C X.env) fp = Y at I4 pg pt pe mb
  have yL : Y.env.locals = C := by rw [← hY] <;> rfl
  have yp : Y.prog = X.prog := by rw [← hY]
  have yw : Y.w = X.w := by rw [← hY]
  have yK : Y.K = X.K := by rw [← hY]
  have yA : Y.A = X.A := by rw [← hY]
  have yx : Y.xe = fun _ _ => False := by rw [← hY]
  have ye : Y.env = compEnvC scope cl C X.env := by rw [← hY]
  generalize hs4 : ({ s3 with heap := pushCells (s3.heap.push { cls := .type "dict", data := .dict #[] }) scope.names } : Shared) = s4 at I4
  have st4 : tn 0 s4.heap := T.keep _ _ _ st3 fun b _ o e => by rw [← hs4]; exact pushCells_keeps _ _ _ _ (Heap.get?_push_of_some _ e)
  have stat : ∀ {σ' : St} {H' : Hp} {s' : Shared}, Inv Y [] σ' H' s' → (∀ b ∈ fp, H' b = none) → ∀ b ∈ fp, FpOk Y [] H' b := fun {σ' H' s'} I' hn b hb => by
    have k := f3 b hb
    have z := I'.ok.exf b (by rw [← hY]; exact hb)
    refine ⟨hn b hb, z.1, I'.ok.exfs b (by rw [← hY]; exact hb), .inl (by rw [← hY]; exact hb), fun x c e => z.2 x c e, fun p hp => k.1.2.2.2.2.2 p ?_⟩
    rw [List.append_nil, ← hY] at hp
    exact List.mem_append_left _ hp
  have back : ∀ {σ' : St} {H' : Hp} {s' : Shared}, Inv Y [] σ' H' s' → Inv X pins σ H' s' := fun {σ' H' s'} I' => by
    have os := I'.os
    have ba := I'.base
    have hok := I'.hok
    rw [← hY] at os ba hok
    exact I3.call' (ch := fp) os ba hok I'.bare fun b hb => ⟨(f3 b hb).1.2.2.2.1, (f3 b hb).1.2.1, (f3 b hb).1.2.2.2.2.1, (f3 b hb).1.2.2.2.2.2⟩
  subst hC
  show codeAny _ _ (.compStart (.ListComp elt [⟨tg, iter, ifs, 0⟩] scope pos) 0 (.ref it) (.ref D) (compEnvC scope cl s3.heap.objs.size X.env)) _ s4
  rw [← ye]
  have finish : ∀ s' H', Inv Y [] (wipe σ (own.map (·.2))) H' s' → Q (.ref D) H' → compPost (model X.prog X.w) X.A X.xe none (EP X pins σ Q) (.ref D) s3.heap.objs.size (.ok .next) s' := fun s' H' I' q' => by
    obtain ⟨mm, hn, _⟩ := I'.loc
    have fr := I'.free
    rw [yL] at hn fr
    have I7 := back I'
    have hC : s3.heap.objs.size < s'.heap.objs.size := hn.lt
    obtain ⟨g0, g1, g2, g3, g4, g5⟩ := I3.fpOk (Nat.le_refl _) fr
    exact ⟨mm, hn, fun h'' sb => ⟨.ref D, H', I7.turned (t' := s'.toks) (fun b o hb e => (sb.2 b hb).trans e) g0 g1 g3 g4 g5, rfl, q'⟩⟩
  rw [← yp, ← yw, ← yA] at finish ⊢
  have loop : codeAny (model Y.prog Y.w) Y.A (.compLoop (.ListComp elt [⟨tg, iter, ifs, 0⟩] scope pos) 0 (.ref it) (.ref D) Y.env) (compPost (model Y.prog Y.w) Y.A X.xe none (EP X pins σ Q) (.ref D) s3.heap.objs.size) s4 := by
    refine compLoop_any (fun n s' => ∃ i H', Inv Y [] (wipe σ (own.map (·.2))) H' s' ∧ tn i s'.heap ∧ (∀ b ∈ fp, H' b = none) ∧ W i n H') ?_ m0 ⟨0, _, I4, st4, fun b hb => (f3 b hb).1.1, w0⟩
    rintro n s5 ⟨i, H5, I5, st5, n5, w5⟩
    rcases turn i n H5 w5 with ⟨stop, qq⟩ | ⟨go, Nx, hNx, step⟩
    · have td := T.done Y yp yw yK mb i [] s5 _ H5 (fun _ _ => False) I5 (stat I5 n5) st5 stop
      rw [← yp, ← yw] at td
      refine thnF td fun r s6 z => ?_
      obtain ⟨rfl, I6⟩ := z
      exact finish s6 H5 I6 qq
    · have ti := T.item Y yp yw yK mb i [] s5 _ H5 (fun _ _ => False) I5 (stat I5 n5) st5 go
      rw [← yp, ← yw] at ti
      refine thnF ti fun r s6 z => ?_
      obtain ⟨u, rfl, h6⟩ := z
      refine thnF h6 fun _ s7 ⟨x, H7, I7, r7, y7, st7, n7⟩ => ?_
      have I7' := I7.pinned (stat I7 n7) (T.obj _ _ st7)
      have p8 := pg.run _ s7 _ H7 x u _ I7' r7 (step x H7 y7)
      rw [yx] at p8
      refine thnF p8 fun _ s8 ⟨σ8, H8, I8, hw8, q8⟩ => ?_
      have p9 := pt.run _ s8 σ8 H8 _ I8 q8
      rw [yx] at p9
      refine thnF p9 fun b s9 ⟨H9, I9, q9⟩ => ?_
      have fin : ∀ {s' : Shared} {H' : Hp}, Inv Y ([] ++ pinsAt fp s7.heap) σ8 H' s' → Nx H' → ∃ k, k < n ∧ ∃ i H', Inv Y [] (wipe σ (own.map (·.2))) H' s' ∧ tn i s'.heap ∧ (∀ b ∈ fp, H' b = none) ∧ W i k H' := fun {s' H'} I' nx => by
        obtain ⟨k, hk, w'⟩ := hNx H' nx
        have there : ∀ b ∈ fp, ∀ o, s7.heap.get? b = some o → s'.heap.get? b = some o ∧ H' b = none := fun b hb o e => by
          have z := I'.pin (b, o) (List.mem_append_right _ (List.mem_append_right _ (mem_pinsAt hb e)))
          exact ⟨z.1, z.2.1⟩
        have hl : (wipe σ (own.map (·.2))).length = σ8.length := by rw [← hw8, wipe_length]
        refine ⟨k, hk, i + 1, H', (I'.unpinned (pins := [])).weak hl (fun j v e => ?_), T.keep _ _ _ st7 fun b hb o e => (there b hb o e).1, fun b hb => ?_, w'⟩
        · rw [← hw8] at e
          exact (wipe_some e).1
        · obtain ⟨o, e, _⟩ := T.obj _ _ st7 b hb
          exact (there b hb o e).2
      cases b with
      | false => exact fin I9 (by simpa using q9)
      | true =>
        have q10 : te σ8 H9 fun y H4 => ∃ acc, H4 D = some (.lst acc) ∧ acc.length < sizeLine ∧ Nx (upd H4 D (.lst (acc ++ [y]))) := by simpa using q9
        have p10 := pe.run _ s9 σ8 H9 _ I9 q10
        rw [yx] at p10
        refine thnF p10 fun z s10 ⟨yv, H10, I10, r10, acc, hD10, hz10, nx⟩ => ?_
        exact app_ok (X := Y) I10 hD10 hz10 r10 fun s11 I11 => fin I11 nx
  have self := T.self Y.A 0 s4 (fun it' s' => codeAny (model Y.prog Y.w) Y.A (.compLoop (.ListComp elt [⟨tg, iter, ifs, 0⟩] scope pos) 0 it' (.ref D) Y.env) (compPost (model Y.prog Y.w) Y.A X.xe none (EP X pins σ Q) (.ref D) s3.heap.objs.size) s')
  rw [← yp, ← yw] at self
  exact codeAny_compStart_list loop (self _ st4 loop)
end
end Kx

set_option Elab.async false
set_option linter.all false
set_option maxRecDepth 100000
set_option maxHeartbeats 4000000
namespace Kx
open PySem PySem.Spec PyProof.Rows L2 L2H HotX
section
variable {prog : Program} {w : World} {A : Around} {E : Value → Shared → Prop} {s : Shared}
/-- the end of a walk over a dict's keys, while an error is handled -/
theorem keys_end_hot {it d x1 : Addr} {i n ep : Nat} {od : Obj} {es : Array DictEntry} {Q : Option Value → Shared → Prop} (hot : HotAt A x1 s.heap) (hne : x1 ≠ it) (hit : s.heap.IsKeyIter it d i n ep) (hod : s.heap.get? d = some od) (hdd : od.data = .dict es ep)
    (hsz : es.size = n) (hge : n ≤ i) (hQ : ∀ h', (∀ b o, b ≠ it → s.heap.get? b = some o → h'.get? b = some o) → Q none { s with heap := h' }) : wpAny (model prog w) A (pyNext (.ref it)) Q E s := by
  obtain ⟨hh, o1, vs1, h1, d1, c1⟩ := hot
  obtain ⟨o, ho, hc, hd⟩ := id hit
  have hge' : es.size ≤ i := by rw [hsz]; exact hge
  unfold pyNext
  refine wpAny_bind (wpAny_attempt (wpAny_callSpecial?_slot (name := Str.ofString "__next__") hit.typeIs F.slot_dict_keyiterator_next
    (wpAny_call_entry F.slot_dict_keyiterator_next hit.typeIs F.entry_dict_keyiterator_next ?_ (F.args_dict_keyiterator_next_1 _))))
  refine wpAny_bind (wpAny_pure (wpAny_bind (wpAny_bind ?_)))
  first | refine wpAny_bind (wpAny_typeNameOfWhole_keyiter hit.typeIs (wpAny_pure ?_)) | refine wpAny_bind (wpAny_typeNameOf_keyiter hit.typeIs (wpAny_pure ?_))
  refine wpAny_bind (wpAny_fieldsOf ho hd ?_)
  have own : Builtin.Dict_items.ownsTuple "dict_keyiterator" = false := by decide
  simp only [own, Bool.false_eq_true, if_false]
  show wpAny _ _ (if (Value.ref d == Value.none) = true then _ else _) _ _ s
  rw [if_neg (show ¬ ((Value.ref d == Value.none) = true) from Bool.false_ne_true)]
  refine wpAny_bind (wpAny_pure (wpAny_bind (wpAny_dictEntries hod hdd ?_)))
  rw [if_neg (by rw [hsz]; simp)]
  refine wpAny_bind (wpAny_pure (wpAny_bind (wpAny_dictEpoch hod hdd ?_)))
  rw [if_neg (by simp)]
  refine wpAny_pure ?_
  simp only [show ¬ ((i : Int) < 0) from by omega, if_false, Int.toNat_natCast, Array.getElem?_eq_none hge']
  refine wpAny_bind ?_
  first | refine wpAny_bind (wpAny_typeNameOfWhole_keyiter hit.typeIs (wpAny_pure ?_)) | refine wpAny_bind (wpAny_typeNameOf_keyiter hit.typeIs (wpAny_pure ?_))
  show wpAny _ _ (setField (.ref it) 0 .none >>= _) _ _ s
  refine wpAny_bind (wpAny_setField ho hd (by simp) ?_)
  show wpAny _ _ (newExc (.type "StopIteration") [] >>= _) _ _ _
  refine wpAny_bind ?_
  simp only [newExc, newTuple]
  refine wpAny_bind (wpAny_newObj_type ?_ (by size_fits))
  refine wpAny_bind (m := firstArgMember _ _) (wpAny_of_eq (a := Value.none) (by first | rfl | (simp only [firstArgMember]; rfl)) ?_)
  refine wpAny_newObj_type ?_ (by size_fits)
  generalize hg : (s.heap.update it (Obj.mapFields fun x => x.setIfInBounds 0 Value.none)) = hu
  have up : ∀ b ob, b ≠ it → s.heap.get? b = some ob → hu.get? b = some ob := fun b ob hb e => by
    rw [← hg, Heap.get?_update_other _ _ (Ne.symm hb)]
    exact e
  have g1 := up x1 o1 hne h1
  refine raiseNew_hot ⟨hh, o1, vs1, Heap.get?_push_of_some _ (Heap.get?_push_of_some _ g1), d1, c1⟩ (Nat.ne_of_lt (Heap.lt_size (Heap.get?_push_of_some _ g1))) (Heap.get?_push_size _ rfl) rfl (by first | (simp; done) | (simp; omega) | (simp only [Array.size_append]; simp; omega)) ?_
  refine wpAny_bind (wpAny_isInstance (T := "StopIteration") (b := true) ⟨_, Heap.get?_update_self _ (Heap.get?_push_size _ rfl) rfl, rfl⟩ isSubtype_stop ?_)
  refine wpAny_pure (hQ _ fun b ob hb e => ?_)
  have e2 := up b ob hb e
  rw [Heap.get?_update_other _ _ (Nat.ne_of_gt (Heap.lt_size (Heap.get?_push_of_some _ e2)))]
  exact Heap.get?_push_of_some _ (Heap.get?_push_of_some _ e2)
end
section
variable {P : Program} {w : World} {K : PySem.W.Frag} {tg : Expr} {d : Addr} {o : Obj} {es : Array DictEntry} {ep : Nat} {m : Md}
theorem turn_keysM {kvs : List (Key × V)} (it : Addr) (hod : o.data = .dict es ep) : TurnM m P w K tg (Itk d o kvs) [it] it (fun i h => h.IsKeyIter it d i kvs.length ep) := by
  have T := turn_keys (P := P) (w := w) (K := K) (tg := tg) (d := d) (kvs := kvs) it hod
  cases m with
  | none => exact .cold T
  | some p =>
    refine ⟨T.obj, T.keep, fun X hP hw hK mo i pins s σ H E I hf st hg => ?_, fun X hP hw hK mo i pins s σ H E I hf st hg => ?_, T.self⟩
    · subst hP hw hK
      obtain ⟨hd, hi⟩ := hg
      obtain ⟨f0, f1, f2, f3, f4, f5⟩ := hf it (by simp)
      obtain ⟨hs, hgd, hx, es', ep', vs, hdt, hsz, kv, hm⟩ := I.frzK hd
      obtain ⟨rfl, rfl⟩ := dict_ep hod hdt
      obtain ⟨⟨k, v⟩, hkv⟩ : ∃ p, kvs[i]? = some p := ⟨kvs[i], List.getElem?_eq_getElem hi⟩
      obtain ⟨u, hu, ru⟩ := kv_get kv hkv
      have hl : kvs.length = vs.length := Paired.length kv
      rw [hl] at st
      refine wpAny_pyNext_dict_item st hm hu fun key h' hkey st' sb => ?_
      have I1 : Inv X pins σ H { s with heap := h' } := I.turned (t' := s.toks) (fun b ob hb e => (sb.2 b hb).trans e) f0 f1 f3 f4 f5
      obtain ⟨oi, e, c, dd⟩ := id st'
      refine ⟨key, rfl, go_of (s := { s with heap := h' }) e c dd (by decide) ⟨kV k, H, I1, relV_key (show keyIs k key = true from hkey), ⟨rfl, k, v, hkv, rfl⟩, ?_, fun b hb => (hf b hb).1⟩⟩
      show h'.IsKeyIter it d (i + 1) kvs.length _
      rw [hl]
      exact st'
    · subst hP hw hK
      obtain ⟨hd, hi⟩ := hg
      obtain ⟨f0, f1, f2, f3, f4, f5⟩ := hf it (by simp)
      obtain ⟨hs, hgd, hx, es', ep', vs, hdt, hsz, kv, hm⟩ := I.frzK hd
      obtain ⟨rfl, rfl⟩ := dict_ep hod hdt
      have hot : HotAt X.A p.1 s.heap := by
        obtain ⟨q, vs, hv, hc⟩ := mo.h p rfl
        exact ⟨q, _, vs, (I.pin p (List.mem_append_left _ (by rw [mo.pn]; exact List.mem_cons_self))).1, hv, hc⟩
      exact keys_end_hot hot (f5 p (List.mem_append_left _ (by rw [mo.pn]; exact List.mem_cons_self))) st hgd hdt hsz hi fun h' eb => ⟨rfl, I.turned (t' := s.toks) (fun b ob hb e => eb b ob hb e) f0 f1 f3 f4 f5⟩
end
section
variable {X : Cx} {tg : Expr} {m : Md}
theorem pi_rangeM {a : Expr} {ta : TA} {p pos : Pos} (hg : Gl X "range") (hm : X.mg "range" = none) (ha : PA X [a] ta) (hs : starEach [a] X.env = [(false, eval a X.env)] := by rfl) : PIM m X tg (.Call (.Name "range" p) [a] [] pos) (iRng1 ta) := by
  refine ⟨fun pins s σ H R I h => ?_⟩
  cases m with
  | none =>
    refine thn ((pi_range1 (tg := tg) (p := p) (pos := pos) hg hm ha hs).run pins s σ H R I h) fun v s1 h1 => thn h1 fun u s2 z => ?_
    obtain ⟨it, fp, tn, J, H', z1, z2, z3, z4⟩ := z
    exact ⟨it, fp, tn, J, H', z1, z2, .cold z3, z4⟩
  | some q =>
    refine thn ((pi_range1H (tg := tg) (p := p) (pos := pos) hg hm ha hs).run pins s σ H R I h) fun v s1 h1 => thn h1 fun u s2 z => ?_
    obtain ⟨it, fp, tn, J, H', z1, z2, z3, z4⟩ := z
    exact ⟨it, fp, tn, J, H', z1, z2, .ofH z3, z4⟩
/-- over a dict that stands still (keys ints and texts) -/
def iKeyM (td : TE) : TI := fun σ H R => td σ H fun x H1 => ∃ d o kvs, x = .ref d ∧ H1 d = some (.frz o (.dK kvs)) ∧ R (Itk d o kvs) H1
theorem pi_keyM {e : Expr} {td : TE} (he : PE X e td) : PIM m X tg e (iKeyM td) := by
  refine ⟨fun pins s σ H R I h => ?_⟩
  refine thn (he.run pins s σ H _ I h) fun u s1 ⟨x, H1, I1, rx, d, o, kvs, ex, hd, q⟩ => ?_
  subst ex
  obtain rfl : u = Value.ref d := rx
  obtain ⟨hs, hgd, hx, es, ep, vs, hdt, hsz, kv, hm⟩ := I1.frzK hd
  refine iter_keys hs hgd hx hdt ?_
  refine ⟨s1.heap.objs.size, [s1.heap.objs.size], _, _, H1, rfl, I1.kept (t' := s1.toks) fun b ob e => Heap.get?_push_of_some _ e, turn_keysM _ hdt, ⟨_, Heap.get?_push_size _ rfl, rfl, ?_⟩, fun b hb => ?_, q⟩
  · rw [hsz] <;> rfl
  · obtain rfl : b = s1.heap.objs.size := by simpa using hb
    exact I1.fpOk (Nat.le_refl _) (I1.hok.fresh (Nat.le_refl _))
end
end Kx

set_option Elab.async false
set_option linter.all false
set_option maxRecDepth 100000
set_option maxHeartbeats 4000000
namespace Kx
open PySem PySem.W PySem.Calls PyProof.Rows
section
variable {M : Model} {h : Heap}
theorem for_all {α β : Type} {b0 : β} {f : α → β → Sem (ForInStep β)} : ∀ {cs : List α}, (∀ c ∈ cs, Looks M h (f c b0) (.yield b0)) → Looks M h (forIn cs b0 f) b0
  | [], _ => fun A Q E s k q => by
    rw [List.forIn_nil]
    exact wpAny_pure q
  | c :: r, hf => fun A Q E s k q => by
    rw [List.forIn_cons]
    exact wpAny_bind (hf c List.mem_cons_self A _ E s k (for_all (fun d hd => hf d (List.mem_cons_of_mem _ hd)) A Q E s k q))
theorem for_any {α β : Type} {i0 i1 : β} {f : α → β → Sem (ForInStep β)} {p : α → Bool} : ∀ {cs : List α}, (∀ c ∈ cs, Looks M h (f c i0) (if p c = true then .done i1 else .yield i0)) → Looks M h (forIn cs i0 f) (if cs.any p = true then i1 else i0)
  | [], _ => fun A Q E s k q => by
    rw [List.forIn_nil]
    exact wpAny_pure q
  | c :: r, hf => fun A Q E s k q => by
    rw [List.forIn_cons]
    refine wpAny_bind (hf c List.mem_cons_self A _ E s k ?_)
    rw [List.any_cons] at q
    cases e : p c with
    | true =>
      rw [e, Bool.true_or, if_pos rfl] at q
      rw [if_pos rfl]
      exact wpAny_pure q
    | false =>
      rw [e, Bool.false_or] at q
      rw [if_neg Bool.false_ne_true]
      exact for_any (fun d hd => hf d (List.mem_cons_of_mem _ hd)) A Q E s k q
def okOne (K : Frag) (cls c : Value) : Bool := exmOne K cls c == some true
theorem exmAny_of {K : Frag} {cls : Value} : ∀ {cs : List Value} {b : Bool}, exmAny K cls cs = some b → (∀ c ∈ cs, ∃ v, exmOne K cls c = some v) ∧ b = cs.any (okOne K cls)
  | [], b, e => by
    have e' : some false = some b := e
    cases e'
    exact ⟨fun _ z => absurd z (by simp), rfl⟩
  | c :: r, b, e => by
    obtain ⟨b1, d1, e1, e2, e3⟩ := exmAny_cons e
    obtain ⟨h1, h2⟩ := exmAny_of e2
    refine ⟨fun d hd => ?_, ?_⟩
    · rcases List.mem_cons.mp hd with rfl | hd
      · exact ⟨b1, e1⟩
      · exact h1 d hd
    · rw [e3, h2, List.any_cons]
      unfold okOne
      rw [e1]
      cases b1 <;> rfl
theorem exm_tup {K : Frag} {cs : List Value} {n : Nat} {cls : Value} {tp e : Addr} {b : Bool} (X : K.In h) (LT : Looks M h (typeOf (.ref e)) cls) (hp : h.get? tp = some { cls := .type "tuple", data := .seq cs.toArray n }) (hx : exmAny K cls cs = some b) :
    Looks M h (excMatches (.ref e) (.ref tp)) b := by
  intro A Q E s k q
  have LT0 : Looks M h (isInstance (.ref tp) (.type "tuple")) true := ((Looks.ld hp).andThen .now).andThen (Looks.of_pure isSubtype_tuple_tuple)
  obtain ⟨hv, hb⟩ := exmAny_of hx
  have one : ∀ c ∈ cs, Looks M h (isExcClass c) true ∧ Looks M h (isSubtype cls c) (okOne K cls c) := fun c hc => by
    obtain ⟨v, e⟩ := hv c hc
    have z := exm_cls (M := M) X e
    have : okOne K cls c = v := by
      unfold okOne
      rw [e]
      cases v <;> rfl
    rw [this]
    exact z
  have hp' := k _ _ hp
  unfold excMatches
  refine wpAny_bind (LT0 A _ E s k ?_)
  dsimp only
  rw [if_pos rfl]
  obtain ⟨hh, g, d, tk, os⟩ := s
  first
    | refine wpAny_bind (wpAny_seqItems hp' rfl ?_)
    | refine wpAny_bind (wpAny_bind (wpAny_seqItems hp' rfl (wpAny_pure ?_)))
  dsimp only [Option.getD_some, Option.getD, List.toList_toArray]
  refine wpAny_bind (wpAny_pure ?_)
  refine wpAny_bind (for_all (h := h) (fun c hc => ?_) A _ E _ k ?_)
  · intro A Q E s k q
    refine wpAny_bind ((one c hc).1 A _ E s k ?_)
    simp only [Bool.not_true, Bool.false_eq_true, if_false]
    exact wpAny_pure q
  · refine wpAny_bind (LT A _ E _ k ?_)
    refine wpAny_bind (for_any (h := h) (p := okOne K cls) (i1 := ⟨some true, PUnit.unit⟩) (fun c hc => ?_) A _ E _ k ?_)
    · intro A Q E s k q
      refine wpAny_bind ((one c hc).2 A _ E s k ?_)
      cases e : okOne K cls c with
      | true =>
        rw [e, if_pos rfl] at q
        simp only [if_true]
        exact wpAny_pure q
      | false =>
        rw [e, if_neg Bool.false_ne_true] at q
        simp only [Bool.false_eq_true, if_false]
        exact wpAny_pure q
    · rw [← hb]
      cases b with
      | true => exact wpAny_pure q
      | false => exact wpAny_pure q
end
end Kx

set_option Elab.async false
set_option linter.all false
set_option maxRecDepth 100000
set_option maxHeartbeats 4000000
namespace Kx
open PySem PySem.Spec PyProof.Rows L2 L2N
/-! ### try: .. except (C, D, ..) as n: .. except E as n: .. -/
theorem flying_kept {B : Heap} {l : List Env} {e : Addr} {Z : Obj → Prop} {h h' : Heap} (x : HandSPX.FlyingZ B l e Z h) (k : ∀ b o, h.get? b = some o → h'.get? b = some o) : HandSPX.FlyingZ B l e Z h' := by
  obtain ⟨x1, x2, x3, oe, vs, T, oT, ts, a1, a2, a3, a4, a5, a6, a7, a8, a9⟩ := x
  exact ⟨fun b o e => k _ _ (x1 b o e), x2, Heap.FunFrames.of_keeps (fun b o e _ => ⟨o, k b o e, rfl⟩) x3, oe, vs, T, oT, ts, k _ _ a1, a2, a3, a4, a5, a6, k _ _ a7, a8, a9⟩
/-- names of classes as they stand in a clause -/
inductive ClsNames (X : Cx) : List Expr → List Value → Prop
  | nil : ClsNames X [] []
  | cons {x : Str} {p : Pos} {c : Value} {es : List Expr} {cs : List Value} (h : L2.Names X x c) (hs : ∀ env, starEach (.Name x p :: es) env = (false, eval (.Name x p) env) :: starEach es env) (r : ClsNames X es cs) : ClsNames X (.Name x p :: es) (c :: cs)
section
variable {X : Cx}
theorem names_run {pins : List (Addr × Obj)} {σ : St} {H : Hp} {s : Shared} {E : Value → Shared → Prop} (I : Inv X pins σ H s) {x : Str} {c : Value} {p : Pos} (h : L2.Names X x c) {Q : Value → Shared → Prop} (q : Q c s) : wpAny (model X.prog X.w) X.A (eval (.Name x p) X.env) Q E s := by
  obtain ⟨hg, hdbg, hm | ⟨hm, hv, hnn⟩⟩ := h
  · exact ld_glob I hg hm q hdbg
  · exact ld_blt I hg hm hv q hnn hdbg
theorem clsNames_run {pins : List (Addr × Obj)} {σ : St} {H : Hp} {s : Shared} {E : Value → Shared → Prop} {pos : Pos} (I : Inv X pins σ H s) : ∀ {es : List Expr} {cs : List Value}, ClsNames X es cs → ∀ {Q : List Value → Shared → Prop}, Q cs s →
    wpAny (model X.prog X.w) X.A (spliced (backTo pos (starEach es X.env))) Q E s
  | _, _, .nil, Q, q => Calls.spliced_nil q
  | _, _, @ClsNames.cons _ x p c es cs h hs r, Q, q => by
    rw [hs]
    show wpAny _ _ (spliced ((false, eval (.Name x p) X.env) :: backTo pos (starEach es X.env))) _ _ _
    exact Calls.spliced_cons (names_run I h (clsNames_run I r q))
/-- the way through a suite, its name unbound behind it -/
def asEnds (D : Ends) (i : Nat) : Ends := { nx := fun σ H => D.nx (σ.set i none) H, rt := D.rt, bk := fun σ H => D.bk (σ.set i none) H, ct := fun σ H => D.ct (σ.set i none) H }
/-- ts0: the suite of the tuple of classes, ts1: the suite of the single class -/
def wTwo (K : PySem.W.Frag) (cs : List Value) (c : Value) (i : Nat) (ts0 ts1 : Addr → Value → Option Addr → TS) (D : Ends) : WX := fun cls d σ H =>
  ∃ b, PySem.W.exmAny K cls cs = some b ∧ (b = true → ∀ a, H a = none → ts0 a cls d (asEnds D i) (σ.set i (some (.ref a))) H) ∧
    (b = false → PySem.W.exmOne K cls c = some true ∧ ∀ a, H a = none → ts1 a cls d (asEnds D i) (σ.set i (some (.ref a))) H)
theorem ps_try_two {body s0 s1 : List Stmt} {b0 b1 : Stmt} {els : List Expr} {n x : Str} {i : Nat} {cs : List Value} {c : Value} {kx} {tp np p0 p1 pos : Pos} {tb : WX → TS} {ts0 ts1 : Addr → Value → Option Addr → TS}
    (hs : X.stack = X.env :: X.outer) (hf : X.env.frame = some X.env.locals) (hN : X.N.Nodup) (hi : X.N[i]? = some n) (hln : X.env.kindOf n = some .local) (hcs : ∀ A pn, ClsNames { X with A := A, calm := false, pn := pn, xe := fun _ _ => False } els cs) (hvl : cs.length ≤ sizeLine) (hc : L2.Names X x c)
    (hb : ∀ (W : WX) (pn : List (Addr × Obj)) (xe : Value → Shared → Prop), L2N.Takes (X.tr pn xe) W → PassesOwn (model X.prog X.w) X.A X.env xe → PSs (X.tr pn xe) body (tb W))
    (hs0 : ∀ (a : Addr) (oe : Obj) (cls : Value) (d : Option Addr) (pn : List (Addr × Obj)), Zn cls d oe → (∃ vs, oe.data = .fields vs) → PSs (X.suite a ((a, oe) :: pn)) (b0 :: s0) (ts0 a cls d))
    (hs1 : ∀ (a : Addr) (oe : Obj) (cls : Value) (d : Option Addr) (pn : List (Addr × Obj)), Zn cls d oe → (∃ vs, oe.data = .fields vs) → PSs (X.suite a ((a, oe) :: pn)) (b1 :: s1) (ts1 a cls d)) :
    PS X (.Try body [.ExceptHandler (some (.Tuple els kx tp)) (some n) (b0 :: s0) p0, .ExceptHandler (some (.Name x np)) (some n) (b1 :: s1) p1] [] [] pos) (fun D σ H => tb (wTwo X.K cs c i ts0 ts1 D) D σ H) := by
  refine ⟨fun pins s σ H D I h => ?_⟩
  have ok := I.ok
  have hfr : X.A.frames = some (X.env :: X.outer) := by rw [ok.frames, hs]
  have hloc : Loc X.env.scope n := .inl hln
  let HS : List ExceptHandler := [.ExceptHandler (some (.Tuple els kx tp)) (some n) (b0 :: s0) p0, .ExceptHandler (some (.Name x np)) (some n) (b1 :: s1) p1]
  refine wpAny_Try_except (wpAny_mono ((hb (wTwo X.K cs c i ts0 ts1 D) (X.pn ++ pins) (fun e s₁ => wpAny (model X.prog X.w) X.A (noteFrame e X.env) (fun _ s₂ => wpAny (model X.prog X.w) X.A (setFlight e none) (fun _ s₃ =>
    wpAny (model X.prog X.w) X.A (handleBy e X.env HS) (SP X pins D) X.xe s₃) X.xe s₂) X.xe s₁) (fun u s' xx => ?_) PassesOwn.looking).run [] s σ H D (I.toTry _) h) (fun f s1 hsp => ?_) (fun e s1 he => he))
  · obtain ⟨a, B, sI, pins', σ', H', cls, d, rfl, J', nb, up, sky, na, os, ag, ww⟩ := xx
    have J : Inv X pins σ' H' sI := J'.ofTry ok
    have sky' : L2.Sky B (X.env :: X.outer) a (Zn cls d) X.env.locals s'.heap := by rw [← hs]; exact sky
    refine L2N.Sky.land Zn.steady hfr hf sky' fun h3 fl3 up3 => ?_
    have J3 : Inv X pins σ' H' { s' with heap := h3 } := J.landed nb fl3.1 (up.trans up3) os ag
    obtain ⟨oe3, vs3, he3, hz3, hd3⟩ := fl3.there
    have nfr : a ∉ frs (X.env :: X.outer) := fun hm => by
      obtain ⟨_, o', e', hnf⟩ := fl3.2.2.1.mem hm
      rw [he3] at e'
      cases e'
      exact hnf _ hd3
    have nL : a ≠ X.env.locals := fun z => nfr (List.mem_filterMap.mpr ⟨X.env, List.mem_cons_self, by rw [hf, z]⟩)
    have nF : a ∉ X.fs := fun hm => by
      obtain ⟨e, he, q⟩ := List.mem_filterMap.mp hm
      exact nfr (List.mem_filterMap.mpr ⟨e, List.mem_cons_of_mem _ he, q⟩)
    have S3 := J3.suite he3 hd3 na nL nF
    -- the tuple of the first clause
    let q := h3.objs.size
    let h5 := h3.push { cls := .type "tuple", data := .seq cs.toArray }
    have k5 : ∀ b o, h3.get? b = some o → h5.get? b = some o := fun b o e => Heap.get?_push_of_some _ e
    have gq : h5.get? q = some { cls := .type "tuple", data := .seq cs.toArray } := Heap.get?_push_size _ rfl
    have fl5 := flying_kept fl3 k5
    have J5 : Inv X pins σ' H' { s' with heap := h5 } := J3.kept (t' := s'.toks) k5
    have S5 := J5.suite (k5 _ _ he3) hd3 na nL nF
    have up5 : sI.heap.UpToSlots h5 := (up.trans up3).trans (.of_keeps k5)
    obtain ⟨b, hb1, hyes, hno⟩ := ww
    have LT : PySem.W.Looks (model X.prog X.w) h5 (typeOf (.ref a)) cls := fun A Q E s k z => wpAny_typeOf_ref (k _ _ (k5 _ _ he3)) (by rw [hz3.1]; exact z)
    have LM := exm_tup (M := model X.prog X.w) (J5.kIn) LT gq hb1
    refine wpAny_handleBy_cons (codeAny_handlers_test ?_) (by intro q; cases q)
    refine wpAny_Tuple_spliced ?_
    refine clsNames_run S3 (hcs _ _) ?_
    refine ⟨hvl, ?_⟩
    refine LM.here ?_
    cases b with
    | true =>
      refine codeAny_handlers_suite_as ?_
      refine HandSPX.lands_againZ fl5 fun h6 fl6 up6 => ?_
      have J6 : Inv X pins σ' H' { s' with heap := h6 } := J.landed nb fl6.1 (up5.trans up6) os ag
      obtain ⟨oe6, vs6, he6, hz6, hd6⟩ := fl6.there
      have S6 := J6.suite he6 hd6 na nL nF
      refine store_ok (X := X.suite a ((a, oe6) :: (X.pn ++ pins))) (v := .ref a) S6 hN hi hloc rfl (fun s7 S7 => ?_) (.inr hln)
      refine wpAny_mono ((hs0 a oe6 cls d (X.pn ++ pins) hz6 ⟨_, hd6⟩).run [] s7 _ _ _ S7 (hyes rfl a na)) (fun f s8 hsp => ?_) (fun _ _ z => False.elim z)
      cases f with
      | next =>
        obtain ⟨σ8, H8, S8, q8⟩ := hsp
        exact gone_ok (S8.unsuite ok) hN hi hln fun s9 J9 => ⟨_, _, J9, q8⟩
      | brk =>
        obtain ⟨σ8, H8, S8, q8⟩ := hsp
        exact gone_ok (S8.unsuite ok) hN hi hln fun s9 J9 => ⟨_, _, J9, q8⟩
      | cont =>
        obtain ⟨σ8, H8, S8, q8⟩ := hsp
        exact gone_ok (S8.unsuite ok) hN hi hln fun s9 J9 => ⟨_, _, J9, q8⟩
      | ret u =>
        obtain ⟨v8, σ8, H8, S8, r8, q8⟩ := hsp
        exact gone_ok (S8.unsuite ok) hN hi hln fun s9 J9 => ⟨_, _, _, J9, r8, q8⟩
    | false =>
      obtain ⟨hb2, hy2⟩ := hno rfl
      show wpAny _ X.A (handleBy (.ref a) X.env [.ExceptHandler (some (.Name x np)) (some n) (b1 :: s1) p1]) _ _ _
      refine wpAny_handleBy_cons (codeAny_handlers_test ?_) (by intro q; cases q)
      have LM2 := PySem.W.exm_one (M := model X.prog X.w) (J5.kIn) LT hb2
      refine names_run S5 hc (LM2.here ?_)
      refine codeAny_handlers_suite_as ?_
      refine HandSPX.lands_againZ fl5 fun h6 fl6 up6 => ?_
      have J6 : Inv X pins σ' H' { s' with heap := h6 } := J.landed nb fl6.1 (up5.trans up6) os ag
      obtain ⟨oe6, vs6, he6, hz6, hd6⟩ := fl6.there
      have S6 := J6.suite he6 hd6 na nL nF
      refine store_ok (X := X.suite a ((a, oe6) :: (X.pn ++ pins))) (v := .ref a) S6 hN hi hloc rfl (fun s7 S7 => ?_) (.inr hln)
      refine wpAny_mono ((hs1 a oe6 cls d (X.pn ++ pins) hz6 ⟨_, hd6⟩).run [] s7 _ _ _ S7 (hy2 a na)) (fun f s8 hsp => ?_) (fun _ _ z => False.elim z)
      cases f with
      | next =>
        obtain ⟨σ8, H8, S8, q8⟩ := hsp
        exact gone_ok (S8.unsuite ok) hN hi hln fun s9 J9 => ⟨_, _, J9, q8⟩
      | brk =>
        obtain ⟨σ8, H8, S8, q8⟩ := hsp
        exact gone_ok (S8.unsuite ok) hN hi hln fun s9 J9 => ⟨_, _, J9, q8⟩
      | cont =>
        obtain ⟨σ8, H8, S8, q8⟩ := hsp
        exact gone_ok (S8.unsuite ok) hN hi hln fun s9 J9 => ⟨_, _, J9, q8⟩
      | ret u =>
        obtain ⟨v8, σ8, H8, S8, r8, q8⟩ := hsp
        exact gone_ok (S8.unsuite ok) hN hi hln fun s9 J9 => ⟨_, _, _, J9, r8, q8⟩
  · cases f with
    | next =>
      obtain ⟨σ', H', J', q⟩ := hsp
      exact wpAny_execs_nil ⟨σ', H', J'.ofTry ok, q⟩
    | brk =>
      obtain ⟨σ', H', J', q⟩ := hsp
      exact ⟨σ', H', J'.ofTry ok, q⟩
    | cont =>
      obtain ⟨σ', H', J', q⟩ := hsp
      exact ⟨σ', H', J'.ofTry ok, q⟩
    | ret u =>
      obtain ⟨v, σ', H', J', r, q⟩ := hsp
      exact ⟨v, σ', H', J'.ofTry ok, r, q⟩
end
end Kx

set_option Elab.async false
set_option linter.all false
set_option maxRecDepth 100000
set_option maxHeartbeats 4000000
/-! The rules that speak of the written part, with its name handed in (so that they stand within comprehensions, too). -/
namespace Kx
open PySem PySem.Spec PyProof.Rows L2
section
variable {X : Cx} (K : PySem.W.Frag) (h : X.K = K)
include h
theorem ixL : IxR X (rIxL K) := h ▸ ix_list
theorem ixT : IxR X (rIxT K) := h ▸ ix_tup
theorem ixS : IxR X (rIx K) := h ▸ ix_seq
theorem slL : SlR X (rSlL K) := h ▸ sl_list
theorem slT : SlR X (rSlT K) := h ▸ sl_tup
theorem opCatT : OpR X (binaryOp .Add) (rCatT K) := h ▸ op_catT
theorem opIn : OpR X (compareOp .In) (rIn K false) := h ▸ op_in_seq
theorem opNotIn : OpR X (compareOp .NotIn) (rIn K true) := h ▸ op_notIn_seq
theorem opEqD (hu : X.A.units + 64 < cLine) : OpR X (compareOp .Eq) (rEqD K) := h ▸ op_eqD hu
theorem opNeD (hu : X.A.units + 64 < cLine) : OpR X (compareOp .NotEq) (rNeD K) := h ▸ op_neD hu
theorem cLen : CallR X (.builtin "len") (fun xs H Q => ∃ x n, xs = [x] ∧ LenV K x H n ∧ Q (.int n) H) := h ▸ call_len
theorem cLenSeq : CallR X (.builtin "len") (fun xs H Q => ∃ p ys, xs = [.ref p] ∧ (SqL K H p ys ∨ SqT K H p ys) ∧ Q (.int ys.length) H) := h ▸ call_len_seq
theorem cList : CallR X (.type "list") (fun xs H Q => ∃ p ys, xs = [.ref p] ∧ (SqL K H p ys ∨ SqT K H p ys) ∧ ∀ l, H l = none → Q (.ref l) (upd H l (.lst ys))) := h ▸ call_list_of
theorem cTup : CallR X (.type "tuple") (fun xs H Q => ∃ p ys, xs = [.ref p] ∧ ((SqL K H p ys ∧ ∀ l, H l = none → Q (.ref l) (upd H l (.tup ys))) ∨ (SqT K H p ys ∧ Q (.ref p) H))) := h ▸ call_tuple_of
theorem cSum (hc : X.calm = true) : CallR X (.builtin "sum") (rSum K) := h ▸ cr_sum hc
theorem cMax (hc : X.calm = true) : CallR X (.builtin "max") (rMax K) := h ▸ cr_max hc
theorem cMin (hc : X.calm = true) : CallR X (.builtin "min") (rMin K) := h ▸ cr_min hc
theorem cAny (hc : X.calm = true) : CallR X (.builtin "any") (rAny K) := h ▸ cr_any hc
theorem cAll (hc : X.calm = true) : CallR X (.builtin "all") (rAll K) := h ▸ cr_all hc
theorem cIsX {pn : List (Addr × Obj)} (hp : X.pn = pn) : CallR X (.builtin "isinstance") (rIsX K pn) := h ▸ hp ▸ call_isX
theorem cIsXT {pn : List (Addr × Obj)} (hp : X.pn = pn) : CallR X (.builtin "isinstance") (rIsXT K pn) := h ▸ hp ▸ call_isXT
theorem pEvf {pn : List (Addr × Obj)} (hp : X.pn = pn) {e : Expr} {te : TE} {pos : Pos} {n : Str} (he : PE X e te) (hb : attributeBase e n X.env (eval e X.env) = eval e X.env := by rfl) : PE X (.Attribute e n pos) (tEvf K pn n te) := h ▸ hp ▸ pe_evf he hb
theorem ptT {a : Expr} {ta : TE} (ha : PE X a ta) (he : ∀ whole, isTrue a X.env whole = (do let v ← whole; standAt a.pos; holding [v] (truthy v))) : PT X a (fun σ H Q => ta σ H fun x H' => ∃ k, TruV K x H' k ∧ Q k H') := h ▸ pt_truth ha he
theorem pFld {e : Expr} {f : Str} {ta : TE} {pos : Pos} (he : PE X e ta) (hb : attributeBase e f X.env (eval e X.env) = eval e X.env) : PE X (.Attribute e f pos) (tFld K ta f) := h ▸ pe_fld he hb
theorem piL {tg l : Expr} {tl : TE} (hl : PE X l tl) : PI X tg l (iList K tl) := h ▸ pi_list hl
theorem piT {tg l : Expr} {tl : TE} (hl : PE X l tl) : PI X tg l (iTup K tl) := h ▸ pi_tup hl
end
/-- len of a dict, a locked one too -/
theorem cLenDict {X : Cx} : CallR X (.builtin "len") (fun xs H Q => ∃ a kvs, xs = [V.ref a] ∧ Rd H a (.dK kvs) ∧ Q (.int kvs.length) H) := by
  intro pins s σ H xs us Q I r h
  obtain ⟨a, kvs, rfl, hd, q⟩ := h
  obtain ⟨u, rfl, ru⟩ := vals1 r
  cases ru
  exact d_len I hd fun t s' I' => ⟨.int kvs.length, H, I', ⟨t, rfl⟩, q⟩
end Kx

set_option Elab.async false
set_option linter.all false
set_option maxRecDepth 100000
set_option maxHeartbeats 4000000
namespace Kn
open PySem PySem.Spec PyProof.Rows L2 Kx
abbrev St := L2.St
def top (i : Nat) : Stmt := PySem.Challenge.pw_autobench_k99_errors.main.body.getD i (.Pass ⟨0, 0, 0, 0⟩)
abbrev s_is_integer : Stmt := top 48
theorem sc_is_integer : FnScope ["value"] ["value"] (defScope s_is_integer) := ⟨rfl, rfl, rfl, by decide +kernel, rfl, by decide +kernel, by decide +kernel⟩
abbrev s_is_between : Stmt := top 49
theorem sc_is_between : FnScope ["value", "least", "most"] ["value", "least", "most"] (defScope s_is_between) := ⟨rfl, rfl, rfl, by decide +kernel, rfl, by decide +kernel, by decide +kernel⟩
abbrev s_is_tuple_of : Stmt := top 50
theorem sc_is_tuple_of : FnScope ["value", "many"] ["value", "many"] (defScope s_is_tuple_of) := ⟨rfl, rfl, rfl, by decide +kernel, rfl, by decide +kernel, by decide +kernel⟩
abbrev s_is_row : Stmt := top 51
theorem sc_is_row : FnScope ["value", "many", "least", "most", "item"] ["value", "many", "least", "most"] (defScope s_is_row) := ⟨rfl, rfl, rfl, by decide +kernel, rfl, by decide +kernel, by decide +kernel⟩
abbrev s_is_rising : Stmt := top 52
theorem sc_is_rising : FnScope ["items", "one", "other"] ["items"] (defScope s_is_rising) := ⟨rfl, rfl, rfl, by decide +kernel, rfl, by decide +kernel, by decide +kernel⟩
abbrev s_is_set : Stmt := top 53
theorem sc_is_set : FnScope ["value", "size"] ["value", "size"] (defScope s_is_set) := ⟨rfl, rfl, rfl, by decide +kernel, rfl, by decide +kernel, by decide +kernel⟩
abbrev s_is_number_of_letters : Stmt := top 54
theorem sc_is_number_of_letters : FnScope ["value"] ["value"] (defScope s_is_number_of_letters) := ⟨rfl, rfl, rfl, by decide +kernel, rfl, by decide +kernel, by decide +kernel⟩
abbrev s_are_steps : Stmt := top 57
theorem sc_are_steps : FnScope ["letters", "value", "row"] ["letters", "value"] (defScope s_are_steps) := ⟨rfl, rfl, rfl, by decide +kernel, rfl, by decide +kernel, by decide +kernel⟩
abbrev s_law_cell : Stmt := top 60
theorem sc_law_cell : FnScope ["script", "k"] ["script", "k"] (defScope s_law_cell) := ⟨rfl, rfl, rfl, by decide +kernel, rfl, by decide +kernel, by decide +kernel⟩
abbrev s_law_box : Stmt := top 61
theorem sc_law_box : FnScope ["great"] ["great"] (defScope s_law_box) := ⟨rfl, rfl, rfl, by decide +kernel, rfl, by decide +kernel, by decide +kernel⟩
abbrev s_law_take : Stmt := top 62
theorem sc_law_take : FnScope ["box", "many", "mixed", "digit"] ["box", "many"] (defScope s_law_take) := ⟨rfl, rfl, rfl, by decide +kernel, rfl, by decide +kernel, by decide +kernel⟩
abbrev s_law_same : Stmt := top 63
theorem sc_law_same : FnScope ["told", "due", "k"] ["told", "due"] (defScope s_law_same) := ⟨rfl, rfl, rfl, by decide +kernel, rfl, by decide +kernel, by decide +kernel⟩
abbrev s_law_placed : Stmt := top 64
theorem sc_law_placed : FnScope ["one", "other", "found"] ["one", "other"] (defScope s_law_placed) := ⟨rfl, rfl, rfl, by decide +kernel, rfl, by decide +kernel, by decide +kernel⟩
abbrev s_law_named : Stmt := top 65
theorem sc_law_named : FnScope ["one", "other", "found"] ["one", "other"] (defScope s_law_named) := ⟨rfl, rfl, rfl, by decide +kernel, rfl, by decide +kernel, by decide +kernel⟩
abbrev s_law_looks : Stmt := top 66
theorem sc_law_looks : FnScope ["e", "found"] ["e"] (defScope s_law_looks) := ⟨rfl, rfl, rfl, by decide +kernel, rfl, by decide +kernel, by decide +kernel⟩
abbrev s_law_is_just : Stmt := top 67
theorem sc_law_is_just : FnScope ["e", "spot", "looks", "good", "k"] ["e", "spot"] (defScope s_law_is_just) := ⟨rfl, rfl, rfl, by decide +kernel, rfl, by decide +kernel, by decide +kernel⟩
abbrev s_law_inside : Stmt := top 68
theorem sc_law_inside : FnScope ["e", "spot"] ["e", "spot"] (defScope s_law_inside) := ⟨rfl, rfl, rfl, by decide +kernel, rfl, by decide +kernel, by decide +kernel⟩
abbrev s_law_string : Stmt := top 69
theorem sc_law_string : FnScope ["box", "signs", "k"] ["box"] (defScope s_law_string) := ⟨rfl, rfl, rfl, by decide +kernel, rfl, by decide +kernel, by decide +kernel⟩
abbrev s_law_nested : Stmt := top 70
theorem sc_law_nested : FnScope ["box", "found", "k"] ["box"] (defScope s_law_nested) := ⟨rfl, rfl, rfl, by decide +kernel, rfl, by decide +kernel, by decide +kernel⟩
abbrev s_law_value : Stmt := top 71
theorem sc_law_value : FnScope ["box", "way", "far", "kinds"] ["box"] (defScope s_law_value) := ⟨rfl, rfl, rfl, by decide +kernel, rfl, by decide +kernel, by decide +kernel⟩
abbrev s_law_like : Stmt := top 72
theorem sc_law_like : FnScope ["told", "due", "key", "k"] ["told", "due"] (defScope s_law_like) := ⟨rfl, rfl, rfl, by decide +kernel, rfl, by decide +kernel, by decide +kernel⟩
abbrev s_law_all_right : Stmt := top 73
theorem sc_law_all_right : FnScope ["first", "last", "lots", "dues", "spot", "part", "turn", "e", "due", "told"] ["first", "last"] (defScope s_law_all_right) := ⟨rfl, rfl, rfl, by decide +kernel, rfl, by decide +kernel, by decide +kernel⟩
abbrev s_law_very_right : Stmt := top 74
theorem sc_law_very_right : FnScope ["first", "last", "grown", "table", "lots", "dues", "spot", "turn", "told"] ["first", "last"] (defScope s_law_very_right) := ⟨rfl, rfl, rfl, by decide +kernel, rfl, by decide +kernel, by decide +kernel⟩
abbrev s_law_throw : Stmt := top 75
theorem sc_law_throw : FnScope ["way", "one", "other"] ["way", "one", "other"] (defScope s_law_throw) := ⟨rfl, rfl, rfl, by decide +kernel, rfl, by decide +kernel, by decide +kernel⟩
abbrev s_law_raised : Stmt := top 76
theorem sc_law_raised : FnScope ["way", "one", "other", "spots", "e", "told"] ["way", "one", "other"] (defScope s_law_raised) := ⟨rfl, rfl, rfl, by decide +kernel, rfl, by decide +kernel, by decide +kernel⟩
abbrev s_law : Stmt := top 77
theorem sc_law : FnScope ["script", "k", "box", "shift", "first", "last", "way"] ["script"] (defScope s_law) := ⟨rfl, rfl, rfl, by decide +kernel, rfl, by decide +kernel, by decide +kernel⟩
abbrev s_Automaton_init : Stmt := inClass (top 58) 0
theorem sc_Automaton_init : FnScope ["self", "letters", "start", "steps", "accepting"] ["self", "letters", "start", "steps", "accepting"] (defScope s_Automaton_init) := ⟨rfl, rfl, rfl, by decide +kernel, rfl, by decide +kernel, by decide +kernel⟩
abbrev s_ex0 : Stmt := inClass (top 4) 0
abbrev s_ex1 : Stmt := inClass (top 6) 0
abbrev s_ex2 : Stmt := inClass (top 7) 0
abbrev s_ex3 : Stmt := inClass (top 8) 0
abbrev s_ex4 : Stmt := inClass (top 9) 0
abbrev s_ex5 : Stmt := inClass (top 10) 0
abbrev s_ex6 : Stmt := inClass (top 11) 0
abbrev s_ex7 : Stmt := inClass (top 12) 0
abbrev s_ex8 : Stmt := inClass (top 14) 0
abbrev s_ex9 : Stmt := inClass (top 15) 0
abbrev s_ex10 : Stmt := inClass (top 16) 0
abbrev s_ex11 : Stmt := inClass (top 17) 0
abbrev s_ex12 : Stmt := inClass (top 18) 0
abbrev s_ex13 : Stmt := inClass (top 19) 0
abbrev s_ex14 : Stmt := inClass (top 20) 0
abbrev s_ex15 : Stmt := inClass (top 21) 0
abbrev s_ex16 : Stmt := inClass (top 22) 0
abbrev s_ex17 : Stmt := inClass (top 23) 0
abbrev s_ex18 : Stmt := inClass (top 24) 0
abbrev s_ex19 : Stmt := inClass (top 25) 0
abbrev s_ex20 : Stmt := inClass (top 27) 0
abbrev s_ex21 : Stmt := inClass (top 28) 0
abbrev s_ex22 : Stmt := inClass (top 29) 0
abbrev s_ex23 : Stmt := inClass (top 30) 0
abbrev s_ex24 : Stmt := inClass (top 31) 0
abbrev s_ex25 : Stmt := inClass (top 32) 0
abbrev s_ex26 : Stmt := inClass (top 33) 0
abbrev s_ex27 : Stmt := inClass (top 34) 0
abbrev s_ex28 : Stmt := inClass (top 35) 0
abbrev s_ex29 : Stmt := inClass (top 40) 0
abbrev s_ex30 : Stmt := inClass (top 41) 0
abbrev s_ex31 : Stmt := inClass (top 42) 0
abbrev s_ex32 : Stmt := inClass (top 5) 0
abbrev s_ex33 : Stmt := inClass (top 26) 0
abbrev s_ex34 : Stmt := inClass (top 44) 0
abbrev s_ex35 : Stmt := inClass (top 43) 0
abbrev s_ex36 : Stmt := inClass (top 45) 0
abbrev s_ex37 : Stmt := inClass (top 13) 0
def exNames1 : List Str := ["InvalidAutomaton", "InvalidColors", "InvalidExpression", "InvalidImages", "InvalidIndex", "InvalidKind", "InvalidLasso", "InvalidLength", "InvalidLetter", "InvalidLetters", "InvalidLine", "InvalidMachine", "InvalidName", "InvalidNumber", "InvalidOwners", "InvalidPairs", "InvalidPlace", "InvalidPlaces", "InvalidPlan", "InvalidPlayer", "InvalidSentence", "InvalidSet"]
def exNames2 : List Str := ["InvalidSize", "InvalidState", "InvalidStates", "InvalidSteps", "InvalidText", "InvalidWord", "InvalidWords", "Refused", "TakenName", "TooMany", "InvalidClaim", "InvalidRecord", "UnknownName", "TwinStates", "Unreached", "InvalidLengths", "EmptySteps", "NotPlain", "NotTrimmed", "NothingToRedo", "NothingToUndo"]
def exNames : List Str := exNames1 ++ exNames2
def exAttrs1 : List Str := ["given", "given", "given", "given", "given", "given", "given", "given", "given", "given", "given", "given", "given", "given", "given", "given", "given", "given", "given", "given"]
def exAttrs2 : List Str := ["given", "given", "given", "given", "given", "given", "given", "given", "given", "given", "given", "count", "index", "index", "name", "pair", "state"]
def exAttrs : List Str := exAttrs1 ++ exAttrs2
def exName (i : Nat) : Str := exNames.getD i "law"
def exAttr (i : Nat) : Str := exAttrs.getD i "law"
def exA (K : PySem.W.Frag) (i : Nat) : Addr := He.ga K (exName i)
def AE (K : PySem.W.Frag) : Addr := He.ga K "AutomatonError"
def AU (K : PySem.W.Frag) : Addr := He.ga K "Automaton"
def d_is_integer : He.DefD := ⟨("is_integer", none), "is_integer", "is_integer", defArgs s_is_integer, defBody s_is_integer, defScope s_is_integer, [], []⟩
def d_is_between : He.DefD := ⟨("is_between", none), "is_between", "is_between", defArgs s_is_between, defBody s_is_between, defScope s_is_between, [], []⟩
def d_is_tuple_of : He.DefD := ⟨("is_tuple_of", none), "is_tuple_of", "is_tuple_of", defArgs s_is_tuple_of, defBody s_is_tuple_of, defScope s_is_tuple_of, [], []⟩
def d_is_row : He.DefD := ⟨("is_row", none), "is_row", "is_row", defArgs s_is_row, defBody s_is_row, defScope s_is_row, [], []⟩
def d_is_rising : He.DefD := ⟨("is_rising", none), "is_rising", "is_rising", defArgs s_is_rising, defBody s_is_rising, defScope s_is_rising, [], []⟩
def d_is_set : He.DefD := ⟨("is_set", none), "is_set", "is_set", defArgs s_is_set, defBody s_is_set, defScope s_is_set, [], []⟩
def d_is_number_of_letters : He.DefD := ⟨("is_number_of_letters", none), "is_number_of_letters", "is_number_of_letters", defArgs s_is_number_of_letters, defBody s_is_number_of_letters, defScope s_is_number_of_letters, [], []⟩
def d_are_steps : He.DefD := ⟨("are_steps", none), "are_steps", "are_steps", defArgs s_are_steps, defBody s_are_steps, defScope s_are_steps, [], []⟩
def d_law_cell : He.DefD := ⟨("_law_cell", none), "_law_cell", "_law_cell", defArgs s_law_cell, defBody s_law_cell, defScope s_law_cell, [], []⟩
def d_law_box : He.DefD := ⟨("_law_box", none), "_law_box", "_law_box", defArgs s_law_box, defBody s_law_box, defScope s_law_box, [], []⟩
def d_law_take : He.DefD := ⟨("_law_take", none), "_law_take", "_law_take", defArgs s_law_take, defBody s_law_take, defScope s_law_take, [], []⟩
def d_law_same : He.DefD := ⟨("_law_same", none), "_law_same", "_law_same", defArgs s_law_same, defBody s_law_same, defScope s_law_same, [], []⟩
def d_law_placed : He.DefD := ⟨("_law_placed", none), "_law_placed", "_law_placed", defArgs s_law_placed, defBody s_law_placed, defScope s_law_placed, [], []⟩
def d_law_named : He.DefD := ⟨("_law_named", none), "_law_named", "_law_named", defArgs s_law_named, defBody s_law_named, defScope s_law_named, [], []⟩
def d_law_looks : He.DefD := ⟨("_law_looks", none), "_law_looks", "_law_looks", defArgs s_law_looks, defBody s_law_looks, defScope s_law_looks, [], []⟩
def d_law_is_just : He.DefD := ⟨("_law_is_just", none), "_law_is_just", "_law_is_just", defArgs s_law_is_just, defBody s_law_is_just, defScope s_law_is_just, [], []⟩
def d_law_inside : He.DefD := ⟨("_law_inside", none), "_law_inside", "_law_inside", defArgs s_law_inside, defBody s_law_inside, defScope s_law_inside, [], []⟩
def d_law_string : He.DefD := ⟨("_law_string", none), "_law_string", "_law_string", defArgs s_law_string, defBody s_law_string, defScope s_law_string, [], []⟩
def d_law_nested : He.DefD := ⟨("_law_nested", none), "_law_nested", "_law_nested", defArgs s_law_nested, defBody s_law_nested, defScope s_law_nested, [], []⟩
def d_law_value : He.DefD := ⟨("_law_value", none), "_law_value", "_law_value", defArgs s_law_value, defBody s_law_value, defScope s_law_value, [], []⟩
def d_law_like : He.DefD := ⟨("_law_like", none), "_law_like", "_law_like", defArgs s_law_like, defBody s_law_like, defScope s_law_like, [], []⟩
def d_law_all_right : He.DefD := ⟨("_law_all_right", none), "_law_all_right", "_law_all_right", defArgs s_law_all_right, defBody s_law_all_right, defScope s_law_all_right, [], []⟩
def d_law_very_right : He.DefD := ⟨("_law_very_right", none), "_law_very_right", "_law_very_right", defArgs s_law_very_right, defBody s_law_very_right, defScope s_law_very_right, [], []⟩
def d_law_throw : He.DefD := ⟨("_law_throw", none), "_law_throw", "_law_throw", defArgs s_law_throw, defBody s_law_throw, defScope s_law_throw, [], []⟩
def d_law_raised : He.DefD := ⟨("_law_raised", none), "_law_raised", "_law_raised", defArgs s_law_raised, defBody s_law_raised, defScope s_law_raised, [], []⟩
def d_law : He.DefD := ⟨("law", none), "law", "law", defArgs s_law, defBody s_law, defScope s_law, [], []⟩
def d_Automaton_init : He.DefD := ⟨("Automaton", some "__init__"), "__init__", "Automaton.__init__", defArgs s_Automaton_init, defBody s_Automaton_init, defScope s_Automaton_init, [], []⟩
def d_ex0 : He.DefD := ⟨("InvalidAutomaton", some "__init__"), "__init__", "InvalidAutomaton.__init__", defArgs s_ex0, defBody s_ex0, defScope s_ex0, [], []⟩
def d_ex1 : He.DefD := ⟨("InvalidColors", some "__init__"), "__init__", "InvalidColors.__init__", defArgs s_ex1, defBody s_ex1, defScope s_ex1, [], []⟩
def d_ex2 : He.DefD := ⟨("InvalidExpression", some "__init__"), "__init__", "InvalidExpression.__init__", defArgs s_ex2, defBody s_ex2, defScope s_ex2, [], []⟩
def d_ex3 : He.DefD := ⟨("InvalidImages", some "__init__"), "__init__", "InvalidImages.__init__", defArgs s_ex3, defBody s_ex3, defScope s_ex3, [], []⟩
def d_ex4 : He.DefD := ⟨("InvalidIndex", some "__init__"), "__init__", "InvalidIndex.__init__", defArgs s_ex4, defBody s_ex4, defScope s_ex4, [], []⟩
def d_ex5 : He.DefD := ⟨("InvalidKind", some "__init__"), "__init__", "InvalidKind.__init__", defArgs s_ex5, defBody s_ex5, defScope s_ex5, [], []⟩
def d_ex6 : He.DefD := ⟨("InvalidLasso", some "__init__"), "__init__", "InvalidLasso.__init__", defArgs s_ex6, defBody s_ex6, defScope s_ex6, [], []⟩
def d_ex7 : He.DefD := ⟨("InvalidLength", some "__init__"), "__init__", "InvalidLength.__init__", defArgs s_ex7, defBody s_ex7, defScope s_ex7, [], []⟩
def d_ex8 : He.DefD := ⟨("InvalidLetter", some "__init__"), "__init__", "InvalidLetter.__init__", defArgs s_ex8, defBody s_ex8, defScope s_ex8, [], []⟩
def d_ex9 : He.DefD := ⟨("InvalidLetters", some "__init__"), "__init__", "InvalidLetters.__init__", defArgs s_ex9, defBody s_ex9, defScope s_ex9, [], []⟩
def d_ex10 : He.DefD := ⟨("InvalidLine", some "__init__"), "__init__", "InvalidLine.__init__", defArgs s_ex10, defBody s_ex10, defScope s_ex10, [], []⟩
def d_ex11 : He.DefD := ⟨("InvalidMachine", some "__init__"), "__init__", "InvalidMachine.__init__", defArgs s_ex11, defBody s_ex11, defScope s_ex11, [], []⟩
def d_ex12 : He.DefD := ⟨("InvalidName", some "__init__"), "__init__", "InvalidName.__init__", defArgs s_ex12, defBody s_ex12, defScope s_ex12, [], []⟩
def d_ex13 : He.DefD := ⟨("InvalidNumber", some "__init__"), "__init__", "InvalidNumber.__init__", defArgs s_ex13, defBody s_ex13, defScope s_ex13, [], []⟩
def d_ex14 : He.DefD := ⟨("InvalidOwners", some "__init__"), "__init__", "InvalidOwners.__init__", defArgs s_ex14, defBody s_ex14, defScope s_ex14, [], []⟩
def d_ex15 : He.DefD := ⟨("InvalidPairs", some "__init__"), "__init__", "InvalidPairs.__init__", defArgs s_ex15, defBody s_ex15, defScope s_ex15, [], []⟩
def d_ex16 : He.DefD := ⟨("InvalidPlace", some "__init__"), "__init__", "InvalidPlace.__init__", defArgs s_ex16, defBody s_ex16, defScope s_ex16, [], []⟩
def d_ex17 : He.DefD := ⟨("InvalidPlaces", some "__init__"), "__init__", "InvalidPlaces.__init__", defArgs s_ex17, defBody s_ex17, defScope s_ex17, [], []⟩
def d_ex18 : He.DefD := ⟨("InvalidPlan", some "__init__"), "__init__", "InvalidPlan.__init__", defArgs s_ex18, defBody s_ex18, defScope s_ex18, [], []⟩
def d_ex19 : He.DefD := ⟨("InvalidPlayer", some "__init__"), "__init__", "InvalidPlayer.__init__", defArgs s_ex19, defBody s_ex19, defScope s_ex19, [], []⟩
def d_ex20 : He.DefD := ⟨("InvalidSentence", some "__init__"), "__init__", "InvalidSentence.__init__", defArgs s_ex20, defBody s_ex20, defScope s_ex20, [], []⟩
def d_ex21 : He.DefD := ⟨("InvalidSet", some "__init__"), "__init__", "InvalidSet.__init__", defArgs s_ex21, defBody s_ex21, defScope s_ex21, [], []⟩
def d_ex22 : He.DefD := ⟨("InvalidSize", some "__init__"), "__init__", "InvalidSize.__init__", defArgs s_ex22, defBody s_ex22, defScope s_ex22, [], []⟩
def d_ex23 : He.DefD := ⟨("InvalidState", some "__init__"), "__init__", "InvalidState.__init__", defArgs s_ex23, defBody s_ex23, defScope s_ex23, [], []⟩
def d_ex24 : He.DefD := ⟨("InvalidStates", some "__init__"), "__init__", "InvalidStates.__init__", defArgs s_ex24, defBody s_ex24, defScope s_ex24, [], []⟩
def d_ex25 : He.DefD := ⟨("InvalidSteps", some "__init__"), "__init__", "InvalidSteps.__init__", defArgs s_ex25, defBody s_ex25, defScope s_ex25, [], []⟩
def d_ex26 : He.DefD := ⟨("InvalidText", some "__init__"), "__init__", "InvalidText.__init__", defArgs s_ex26, defBody s_ex26, defScope s_ex26, [], []⟩
def d_ex27 : He.DefD := ⟨("InvalidWord", some "__init__"), "__init__", "InvalidWord.__init__", defArgs s_ex27, defBody s_ex27, defScope s_ex27, [], []⟩
def d_ex28 : He.DefD := ⟨("InvalidWords", some "__init__"), "__init__", "InvalidWords.__init__", defArgs s_ex28, defBody s_ex28, defScope s_ex28, [], []⟩
def d_ex29 : He.DefD := ⟨("Refused", some "__init__"), "__init__", "Refused.__init__", defArgs s_ex29, defBody s_ex29, defScope s_ex29, [], []⟩
def d_ex30 : He.DefD := ⟨("TakenName", some "__init__"), "__init__", "TakenName.__init__", defArgs s_ex30, defBody s_ex30, defScope s_ex30, [], []⟩
def d_ex31 : He.DefD := ⟨("TooMany", some "__init__"), "__init__", "TooMany.__init__", defArgs s_ex31, defBody s_ex31, defScope s_ex31, [], []⟩
def d_ex32 : He.DefD := ⟨("InvalidClaim", some "__init__"), "__init__", "InvalidClaim.__init__", defArgs s_ex32, defBody s_ex32, defScope s_ex32, [], []⟩
def d_ex33 : He.DefD := ⟨("InvalidRecord", some "__init__"), "__init__", "InvalidRecord.__init__", defArgs s_ex33, defBody s_ex33, defScope s_ex33, [], []⟩
def d_ex34 : He.DefD := ⟨("UnknownName", some "__init__"), "__init__", "UnknownName.__init__", defArgs s_ex34, defBody s_ex34, defScope s_ex34, [], []⟩
def d_ex35 : He.DefD := ⟨("TwinStates", some "__init__"), "__init__", "TwinStates.__init__", defArgs s_ex35, defBody s_ex35, defScope s_ex35, [], []⟩
def d_ex36 : He.DefD := ⟨("Unreached", some "__init__"), "__init__", "Unreached.__init__", defArgs s_ex36, defBody s_ex36, defScope s_ex36, [], []⟩
def d_ex37 : He.DefD := ⟨("InvalidLengths", some "__init__"), "__init__", "InvalidLengths.__init__", defArgs s_ex37, defBody s_ex37, defScope s_ex37, [], []⟩
def fn1 : List He.DefD := [d_is_integer, d_is_between, d_is_tuple_of, d_is_row, d_is_rising, d_is_set, d_is_number_of_letters, d_are_steps, d_law_cell, d_law_box, d_law_take, d_law_same, d_law_placed, d_law_named, d_law_looks, d_law_is_just, d_law_inside, d_law_string, d_law_nested, d_law_value, d_law_like, d_law_all_right, d_law_very_right, d_law_throw, d_law_raised, d_law, d_Automaton_init]
def fn2 : List He.DefD := [d_ex0, d_ex1, d_ex2, d_ex3, d_ex4, d_ex5, d_ex6, d_ex7, d_ex8, d_ex9, d_ex10, d_ex11, d_ex12, d_ex13, d_ex14, d_ex15, d_ex16, d_ex17, d_ex18, d_ex19, d_ex20, d_ex21, d_ex22, d_ex23, d_ex24, d_ex25, d_ex26, d_ex27, d_ex28, d_ex29, d_ex30, d_ex31, d_ex32, d_ex33, d_ex34, d_ex35, d_ex36, d_ex37]
def fn : List He.DefD := fn1 ++ fn2
def frees : List Str := ["len", "isinstance", "int", "abs", "max", "min", "sum", "range", "tuple", "zip", "all", "bool", "str", "list", "dict", "ValueError", "Exception", "LookupError", "TypeError", "ArithmeticError", "RuntimeError", "AttributeError"]
def globs1 : List Str := ["is_integer", "is_between", "is_tuple_of", "is_row", "is_rising", "is_set", "is_number_of_letters", "are_steps", "_law_cell", "_law_box", "_law_take", "_law_same", "_law_placed", "_law_named", "_law_looks", "_law_is_just", "_law_inside", "_law_string", "_law_nested", "_law_value", "_law_like", "_law_all_right", "_law_very_right", "_law_throw", "_law_raised", "law"]
def globs : List Str := globs1 ++ (["AutomatonError", "Automaton"] : List Str)
/-- an error class: its chain, and that it is made and kept as such -/
def exMro (K : PySem.W.Frag) (C : Addr) : Bool := match PySem.W.clsIn K C with
  | some cd => decide (cd.mro = [.ref C, .ref (AE K), .type "ValueError", .type "Exception", .type "BaseException", .type "object"])
  | none => false
def exChk (K : PySem.W.Frag) (i : Nat) : Bool := (He.Fa.glo (exName i)).ok K && (exB K (exA K i) && exMro K (exA K i))
def exInit (K : PySem.W.Frag) (i : Nat) : Bool := He.eqO (PySem.W.findIn K (.ref (exA K i)) "__init__") (some (some (.ref (He.ma K (exA K i) "__init__")))) && (decide (PySem.W.typeIn K (.ref (He.ma K (exA K i) "__init__")) = some (.type "function")) && decide (PySem.W.findIn K (.ref (exA K i)) (exAttr i) = some none))
def exLen (K : PySem.W.Frag) : Bool := decide (PySem.W.findIn K (.ref (exA K 37)) "low" = some none) && decide (PySem.W.findIn K (.ref (exA K 37)) "high" = some none)
def exPlain (K : PySem.W.Frag) (i : Nat) : Bool := PySem.W.excIn K (exA K i) He.veBase "ValueError.__new__"
def auCls (K : PySem.W.Frag) : Bool := (He.Fa.cls "Automaton").ok K && ((He.Fa.mkr "Automaton").ok K && (["letters", "start", "steps", "accepting", "size"] : List Str).all fun f => (He.Fa.noat "Automaton" f).ok K)
def auIs (K : PySem.W.Frag) : Bool := decide (PySem.W.findIn K (.ref (AU K)) "__class__" = some (some (.builtin "object.__class__"))) && (decide (PySem.W.specialIn K (.builtin "object.__class__") "__get__" = some (some (.builtin "getset_descriptor.__get__"))) && (decide (PySem.W.takesIn K (.builtin "object.__class__") = some true) && decide (PySem.W.mroIn K (AU K) (.type "object") = some true)))
def auMro (K : PySem.W.Frag) : Bool := match PySem.W.clsIn K (AU K) with
  | some cd => decide (cd.mro = [.ref (AU K), .type "object"]) && decide (PySem.W.typeIn K (.ref (AU K)) = some (.type "type"))
  | none => false
def aeOk (K : PySem.W.Frag) : Bool := decide (PySem.W.typeIn K (.ref (AE K)) = some (.type "type")) && (PySem.W.clsIn K (AE K)).isSome && decide (PySem.W.subIn K (.ref (AE K)) (.type "BaseException") = some true)
def adrs (K : PySem.W.Frag) : List Addr := AU K :: AE K :: (List.range 43).map (exA K)
/-- all that the end leans on -/
def chk (K : PySem.W.Frag) : Bool :=
  globs.all (fun x => (He.Fa.glo x).ok K) && (frees.all (fun x => (He.Fa.free x).ok K) && ((He.Fa.int "MOST_LETTERS" 3).ok K && ((He.Fa.int "MOST_STATES" 64).ok K && ((List.range 43).all (exChk K) && ((List.range 37).all (exInit K) &&
  (exLen K && (He.eqO (PySem.W.findIn K (.ref (exA K 37)) "__init__") (some (some (.ref (He.ma K (exA K 37) "__init__")))) && (decide (PySem.W.typeIn K (.ref (He.ma K (exA K 37) "__init__")) = some (.type "function")) &&
  ((List.range 5).all (fun i => exPlain K (38 + i)) && (auCls K && (auIs K && (auMro K && (aeOk K && decide (adrs K).Nodup)))))))))))))
/-! ### the hook -/
def nxt (g : Addr → Option Obj) (as : List Addr) : List Addr := as.flatMap fun a => match g a with
  | some o => He.refsD o
  | none => []
def addrs (g : Addr → Option Obj) : List Addr :=
  let l1 := nxt g [mainGlobals]
  let l2 := nxt g l1
  let l3 := nxt g l2
  let l4 := nxt g l3
  mainGlobals :: (l1 ++ (l2 ++ (l3 ++ l4)))
abbrev AlK : Type := Bool × Bool × List He.FnW
def obsK (K : PySem.W.Frag) : AlK := (chk K, fn.all (fun d => d.ok K), fn.map fun d => He.fnW K d.at_)
def valK : AlK := (true, true, fn.map He.DefD.val)
def SaysK (K : PySem.W.Frag) : Prop := obsK K = valK
def obsG (g : Addr → Option Obj) : AlK := obsK (He.frG g (addrs g))
def hookK : PySem.W.Hook where
  α := AlK
  obs := fun s => obsG s.heap.get?
  val := fun _ => valK
  says := fun _ h => ∃ K : PySem.W.Frag, K.In h ∧ SaysK K
  of := fun _ _ e => ⟨_, He.frG_in, e⟩
  keeps := fun _ _ _ ⟨K, hK, c⟩ k => ⟨K, PySem.W.Frag.In.keeps hK k, c⟩
def ob (s : PySem.W.SharedT) : AlK := obsG (HandSHeadRun.getT s)
theorem ob_eq (s : PySem.W.SharedT) : ob s = hookK.obs s.abs := by
  have e : HandSHeadRun.getT s = s.abs.heap.get? := funext (HandSHeadRun.getT_eq s)
  unfold ob
  rw [e]
  rfl
theorem SaysK.chk {K : PySem.W.Frag} (c : SaysK K) : Kn.chk K = true := congrArg (fun z : AlK => z.1) c
theorem SaysK.def_ {K : PySem.W.Frag} (c : SaysK K) (i : Nat) {d : He.DefD} (h : fn[i]? = some d := by rfl) : ∃ fd, FunD K d.name d.qual d.params d.body d.scope (d.dvs K) (d.kws K) (He.fAd K d.at_) fd := by
  have c2 : fn.all (fun d => d.ok K) = true := congrArg (fun z : AlK => z.2.1) c
  have e : fn.map (fun d => He.fnW K d.at_) = fn.map He.DefD.val := congrArg (fun z : AlK => z.2.2) c
  have e2 : (fn.map fun d => He.fnW K d.at_)[i]? = (fn.map He.DefD.val)[i]? := by rw [e]
  rw [List.getElem?_map, List.getElem?_map, h] at e2
  exact He.DefD.funD (Option.some.inj e2) (List.all_eq_true.mp c2 d (List.mem_of_getElem? h))
abbrev R : PySem.W.OpenRow := PySem.W.OpenLaw.row PySem.Challenge.rw_autobench_k99_errors
def loose0 : List Str := ["_wall", "AutomatonError", "EmptySteps", "InvalidAutomaton", "InvalidClaim", "InvalidColors", "InvalidExpression", "InvalidImages", "InvalidIndex", "InvalidKind", "InvalidLasso", "InvalidLength", "InvalidLengths", "InvalidLetter", "InvalidLetters", "InvalidLine", "InvalidMachine", "InvalidName", "InvalidNumber", "InvalidOwners", "InvalidPairs", "InvalidPlace", "InvalidPlaces", "InvalidPlan", "InvalidPlayer", "InvalidRecord", "InvalidSentence", "InvalidSet", "InvalidSize", "InvalidState"]
def loose1 : List Str := ["InvalidStates", "InvalidSteps", "InvalidText", "InvalidWord", "InvalidWords", "NotPlain", "NotTrimmed", "NothingToRedo", "NothingToUndo", "Refused", "TakenName", "TooMany", "TwinStates", "UnknownName", "Unreached", "MOST_LETTERS", "is_integer", "is_between", "is_tuple_of", "is_row", "is_rising", "is_set", "is_number_of_letters", "MOST_STATES", "are_steps", "Automaton", "_law_cell", "_law_box", "_law_take", "_law_same"]
def loose2 : List Str := ["_law_placed", "_law_named", "_law_looks", "_law_is_just", "_law_inside", "_law_string", "_law_nested", "_law_value", "_law_like", "_law_all_right", "_law_very_right", "_law_throw", "_law_raised"]
def loose : List Str := loose0 ++ (loose1 ++ (loose2))
end Kn

set_option Elab.async false
set_option linter.all false
set_option maxRecDepth 100000
set_option maxHeartbeats 0
namespace Kn
open PySem PySem.Spec PyProof.Rows L2 HandSHeadRun PySem.W
abbrev kOf (s : SharedT) : Frag := He.frG (getT s) (addrs (getT s))
theorem run1 (w : World) : ∀ os : OsState, (endF (stepQ (denQ tabQ) R.prog w) 20000 R.prog w os).map (fun s => ((looksF R.prog (boot_heap w.params) s.abs, seenQ (view R.prog [77]) loose (importedModules R.prog.main.body) (fun s => xlAt (view R.prog [77]) [] s && recOk R.toRowW.records s) s.abs), (fn.map fun d => He.fnW (kOf s) d.at_))) = some ((true, openGood (view R.prog [77]) loose), fn.map He.DefD.val) := by
  intro os
  kernel_rfl
theorem run2 (w : World) : ∀ os : OsState, (endF (stepQ (denQ tabQ) R.prog w) 20000 R.prog w os).map (fun s => chk (kOf s)) = some true := by
  intro os
  kernel_rfl
theorem run3 (w : World) : ∀ os : OsState, (endF (stepQ (denQ tabQ) R.prog w) 20000 R.prog w os).map (fun s => fn.all (fun d => d.ok (kOf s))) = some true := by
  intro os
  kernel_rfl
theorem map3 {α β γ δ ε : Type} {x : Option α} {f : α → β × δ} {g : α → γ} {k : α → ε} {a : β × δ} {b : γ} {c : ε} (h1 : x.map f = some a) (h2 : x.map g = some b) (h3 : x.map k = some c) : x.map (fun s => ((f s).1, g s, k s, (f s).2)) = some (a.1, b, c, a.2) := by
  cases x with
  | none => cases h1
  | some s =>
    have e1 := Option.some.inj h1
    have e2 := Option.some.inj h2
    have e3 := Option.some.inj h3
    subst e1 e2 e3
    rfl
theorem run (w : World) : RunEq R (view R.prog [77]) hookK ob 20000 loose w := fun os => by
  have e := congrArg (Option.map fun z : (Bool × _) × Bool × Bool × List He.FnW => (z.1.1, z.1.2, z.2.1, z.2.2.1, z.2.2.2)) (map3 (run1 w os) (run2 w os) (run3 w os))
  rw [Option.map_map] at e
  exact e
end Kn

set_option Elab.async false
set_option linter.all false
set_option maxRecDepth 100000
set_option maxHeartbeats 4000000
namespace Kn
open PySem PySem.Spec PyProof.Rows L2 L2H Kx
/-! ### what the text has left, by names -/
structure Txt (K : PySem.W.Frag) (mg : Str → Option Value) : Prop where
  says : SaysK K
  glo : ∀ x, x ∈ globs → mg x = some (.ref (He.ga K x))
  exg : ∀ i, i < 43 → mg (exName i) = some (.ref (exA K i))
  fr : ∀ x, x ∈ frees → mg x = none
  mL : ∃ t, mg "MOST_LETTERS" = some (.int 3 t)
  mS : ∃ t, mg "MOST_STATES" = some (.int 64 t)
theorem Txt.free {K : PySem.W.Frag} {mg : Str → Option Value} (T : Txt K mg) (x : Str) (h : frees.contains x = true := by decide +kernel) : mg x = none := T.fr x (List.contains_iff_mem.mp h)
theorem Txt.g {K : PySem.W.Frag} {mg : Str → Option Value} (T : Txt K mg) (x : Str) (h : globs.contains x = true := by decide +kernel) : mg x = some (.ref (He.ga K x)) := T.glo x (List.contains_iff_mem.mp h)
theorem chk_parts {K : PySem.W.Frag} (h : chk K = true) : (∀ x ∈ globs, (He.Fa.glo x).ok K = true) ∧ (∀ x ∈ frees, (He.Fa.free x).ok K = true) ∧ (He.Fa.int "MOST_LETTERS" 3).ok K = true ∧ (He.Fa.int "MOST_STATES" 64).ok K = true ∧ (∀ i, i < 43 → exChk K i = true) ∧ (∀ i, i < 37 → exInit K i = true) ∧
    exLen K = true ∧ PySem.W.findIn K (.ref (exA K 37)) "__init__" = some (some (.ref (He.ma K (exA K 37) "__init__"))) ∧ PySem.W.typeIn K (.ref (He.ma K (exA K 37) "__init__")) = some (.type "function") ∧
    (∀ i, i < 5 → exPlain K (38 + i) = true) ∧ auCls K = true ∧ auIs K = true ∧ auMro K = true ∧ aeOk K = true ∧ (adrs K).Nodup := by
  unfold chk at h
  simp only [Bool.and_eq_true, List.all_eq_true, List.mem_range, decide_eq_true_eq] at h
  obtain ⟨h1, h2, h3, h4, h5, h6, h7, h8, h9, h10, h11, h12, h13, h14, h15⟩ := h
  exact ⟨h1, h2, h3, h4, h5, h6, h7, He.eqO_ok h8, h9, h10, h11, h12, h13, h14, h15⟩
theorem txt_of {K : PySem.W.Frag} {h : Heap} {mg : Str → Option Value} (X : K.In h) (G : h.Ns mainGlobals mg) (c : SaysK K) : Txt K mg := by
  have p := chk_parts c.chk
  refine ⟨c, fun x hx => He.glo_ok X G (p.1 x hx), fun i hi => ?_, fun x hx => He.free_ok X G (p.2.1 x hx), He.int_ok X G p.2.2.1, He.int_ok X G p.2.2.2.1⟩
  have q := p.2.2.2.2.1 i hi
  unfold exChk at q
  exact He.glo_ok X G (He.ba q).1
/-- a def of the text that keeps its promise in a mode -/
structure CalM (m : Md) (P : Program) (w : World) (K : PySem.W.Frag) (mg : Str → Option Value) (base : Heap) (k : Nat) (x : Str) (sp : Sp) : Prop where
  ex : ∃ (f : Addr) (fd : FuncData) (ps : List Str), FnM m P w K mg base CX0 k f fd ps sp ∧ mg x = some (.ref f) ∧ PySem.W.keepIn K (.ref f) = true ∧ Binds K fd ps []
theorem CalM.mono {m : Md} {P : Program} {w : World} {K : PySem.W.Frag} {mg : Str → Option Value} {base : Heap} {j k : Nat} {x : Str} {sp : Sp} (c : CalM m P w K mg base j x sp) (h : j ≤ k) : CalM m P w K mg base k x sp := by
  obtain ⟨f, fd, ps, F, z⟩ := c.ex
  exact ⟨f, fd, ps, F.mono h, z⟩
section
variable {X : Cx} {m : Md} {k : Nat} {sp : Sp} {x : Str} {q pos : Pos} {e : Expr} {es : List Expr} {t : TA}
theorem pe_callC (c : CalM m X.prog X.w X.K X.mg X.base k x sp) (o : MdOk m X) (hr : RoomM m k X.A) (hg : Gl X x) (ha : PA X (e :: es) t)
    (hdb : (x == ("__debug__" : Str)) = false := by decide +kernel) (he : starEach (e :: es) X.env = (false, eval e X.env) :: starEach es X.env := by rfl) (hpl : (backTo pos (starEach es X.env)).any (·.1) = false := by rfl) :
    PE X (.Call (.Name x q) (e :: es) [] pos) (tCall sp [] E0 t) := by
  obtain ⟨f, fd, ps, F, hm, kp, b⟩ := c.ex
  exact pe_callM F o hr hg hm kp b ha hdb he hpl
end
theorem RoomM.hu1 {m : Md} {k : Nat} {A : Around} (r : RoomM m k A) : A.units + 1 < cLine := by
  have h := r.hu
  omega
/-- a def by its body; st: its statement -/
theorem calM {m : Md} {P : Program} {w : World} {K : PySem.W.Frag} {mg : Str → Option Value} {base : Heap} {x : Str} {st : Stmt} {f : Addr} {fd : FuncData} {N ps : List Str} {k : Nat} {sp : Sp}
    (F : FunD K x x (defArgs st) (defBody st) (defScope st) [] [] f fd) (hm : mg x = some (.ref f)) (b : Binds K fd ps []) (S : FnScope N ps (defScope st)) (len : ∀ vs H Q E, sp vs H Q E → vs.length = ps.length)
    (hbody : ∀ (cdv : Value) (A : Around) (outer : List Env) (s : Shared) (H : Hp) (vs : List V) (Q : VK) (E : XK), RoomM m k (A.deeper (envOfC x (defScope st) s.heap.objs.size f cdv)) → MdOk m (cxM m CX0 P w K mg base N x (defScope st) f cdv A outer s H E).nox → sp vs H Q E →
      ∃ t, PSs (cxM m CX0 P w K mg base N x (defScope st) f cdv A outer s H E).nox (defBody st) t ∧ t { nx := fun _ H' => Q .non H', rt := Q } (L2.start N vs) H) : CalM m P w K mg base (k + 1) x sp := by
  obtain ⟨oc, od, dV, kV, doc, pm, an, cdv, ct, osl, rfl, lk, hcd, hD, hK⟩ := F.ex
  have eD : dV = .none := by
    rcases hD with ⟨_, e⟩ | ⟨e, _⟩
    · exact e
    · exact absurd rfl e
  subst eD
  have G : Fun K x x st f (PySem.W.fnOf x x (defArgs st) (defBody st) (defScope st) .none kV doc pm an cdv ct) := ⟨⟨oc, od, kV, doc, pm, an, cdv, ct, osl, rfl, lk, hcd⟩, F.kp⟩
  refine ⟨f, _, ps, fnM_of G S len (fun cdv A outer s H vs Q E hr mo h => ?_), hm, F.kp, b⟩
  obtain ⟨t, d, q⟩ := hbody cdv A outer s H vs Q E hr ⟨mo.pn, mo.c, mo.h⟩ h
  exact ⟨t, PSs.nox d, q⟩
theorem Txt.fn_ {K : PySem.W.Frag} {mg : Str → Option Value} (T : Txt K mg) (i : Nat) (x : Str) (st : Stmt) (h : fn[i]? = some ⟨(x, none), x, x, defArgs st, defBody st, defScope st, [], []⟩ := by rfl) :
    ∃ fd, FunD K x x (defArgs st) (defBody st) (defScope st) [] [] (He.ga K x) fd := T.says.def_ i h
/-! ### small words -/
theorem some_inj {α : Type} {a b : α} (h : some a = some b) : a = b := Option.some.inj h
theorem same_upd {H H' : Hp} {a : Addr} {o : HO} (s : Same H H') (n : H a = none) : Same H (upd H' a o) := fun b u e => by
  rw [upd_ne (ne_of_none e n)]
  exact s b u e
theorem same_new {H : Hp} {a : Addr} {o : HO} (n : H a = none) : Same H (upd H a o) := same_upd (Same.refl H) n
end Kn

set_option Elab.async false
set_option linter.all false
set_option maxRecDepth 100000
set_option maxHeartbeats 4000000
/-! Comprehensions that pick some of the numbers of a range, or of the keys of a dict. -/
namespace Kn
open PySem PySem.Spec PyProof.Rows L2 L2H Kx
abbrev LcEnd (J : It) (g : TG) (tt : TT) (te : TE) (vs : List Nat) (σ : St) (Q : Hp → Prop) (D : Addr) (H1 : Hp) : Prop := ∃ W : Nat → Nat → Hp → Prop, (∃ m, W 0 m (upd H1 D (.lst []))) ∧ ∀ i m H, W i m H →
  (J.stop i H ∧ Q H) ∨ (J.go i H ∧ ∃ Nx : Hp → Prop, (∀ H', Nx H' → ∃ m', m' < m ∧ W (i + 1) m' H') ∧ ∀ x H', J.yld i H x H' → g x (wipe σ vs) H' fun σ2 H2 => wipe σ2 vs = wipe σ vs ∧ tt σ2 H2 fun b H3 =>
    if b = true then te σ2 H3 fun y H4 => ∃ acc, H4 D = some (.lst acc) ∧ acc.length < sizeLine ∧ Nx (upd H4 D (.lst (acc ++ [y]))) else Nx H3)
theorem wipe1 {σ : St} {j : Nat} {x : Option V} : wipe ((wipe σ [j]).set j x) [j] = wipe σ [j] := by
  show ((σ.set j none).set j x).set j none = σ.set j none
  rw [List.set_set, List.set_set]
theorem wipe_set {σ : St} {j : Nat} {x : Option V} : (wipe σ [j]).set j x = σ.set j x := by
  show (σ.set j none).set j x = σ.set j x
  rw [List.set_set]
/-- [k for k in range(n) if ..]: f tells which -/
theorem pick {n j : Nat} {tt : TT} {σ : St} {Q : Hp → Prop} {D : Addr} {H1 : Hp} (hn : n ≤ 1000) (hD : H1 D = none) (hj : j < σ.length) (f : Nat → Bool)
    (hs : ∀ i H, i < n → Same H1 H → ∀ k : Bool → Hp → Prop, (∀ H', Same H H' → k (f i) H') → tt (σ.set j (some (.int i))) H k)
    (hd : ∀ H, Same H1 H → H D = some (.lst (((List.range n).filter f).map fun i => V.int (i : Nat))) → Q H) : LcEnd (Itr 0 ((n : Nat) : Int).toNat) (gName j) tt (tVar j) [j] σ Q D H1 := by
  rw [Int.toNat_natCast]
  refine lc_range (lo := 0) (n := n) (fun i H => Same H1 H ∧ H D = some (.lst (((List.range i).filter f).map fun i => V.int (i : Nat)))) ⟨same_new hD, upd_same⟩ (fun i H hi h => ?_) (fun H h => hd H h.1 h.2)
  obtain ⟨s, e⟩ := h
  refine ⟨wipe1, ?_⟩
  rw [wipe_set]
  have e0 : (0 : Int) + (i : Int) = (i : Int) := Int.zero_add _
  rw [e0]
  refine hs i H hi s _ fun H' s' => ?_
  have e' := s' _ _ e
  have r1 : (List.range (i + 1)).filter f = (List.range i).filter f ++ (if f i = true then [i] else []) := by
    rw [List.range_succ, List.filter_append]
    rw [List.filter_cons, List.filter_nil]
  cases hf : f i with
  | true =>
    rw [if_pos rfl]
    refine ⟨.int i, ?_, _, e', ?_, ?_, ?_⟩
    · rw [List.getElem?_set_self hj]
    · rw [List.length_map]
      exact Nat.lt_of_le_of_lt (List.length_filter_le _ _) (by rw [List.length_range]; exact Nat.lt_of_lt_of_le hi (Nat.le_trans hn (by decide)))
    · intro b o eb
      have eb' := s' _ _ (s _ _ eb)
      rw [upd_ne (ne_of_none eb hD)]
      exact eb'
    · rw [upd_same, r1, if_pos hf, List.map_append]
      rfl
  | false =>
    rw [if_neg Bool.false_ne_true]
    refine ⟨s.trans s', ?_⟩
    rw [e', r1, if_neg (by rw [hf]; exact Bool.false_ne_true), List.append_nil]
theorem lst_eq {K : PySem.W.Frag} {H : Hp} {a : Addr} {l : List Int} (h : SqL K H a (l.map V.int)) : Dp K H (.ref a) (.list (l.map PyData.int)) := by
  refine .lst h ?_
  clear h
  induction l with
  | nil => exact .nil
  | cons x r ih => exact .cons (.int x) ih
theorem filter_one {n s : Nat} (h : s < n) : (List.range n).filter (fun j => decide (j = s)) = [s] := by
  induction n with
  | zero => omega
  | succ n ih =>
    rw [List.range_succ, List.filter_append]
    by_cases e : s = n
    · subst e
      have z : (List.range s).filter (fun j => decide (j = s)) = [] := by
        rw [List.filter_eq_nil_iff]
        intro a ha
        have := List.mem_range.mp ha
        simp
        omega
      rw [z]
      simp
    · rw [ih (by omega)]
      have : decide (n = s) = false := decide_eq_false (by omega)
      simp [this]
theorem filter_none {n : Nat} : (List.range n).filter (fun _ => false) = [] := by
  rw [List.filter_eq_nil_iff]
  intro a _
  simp
end Kn

set_option Elab.async false
set_option linter.all false
set_option maxRecDepth 100000
set_option maxHeartbeats 4000000
/-! The __init__ of an error class that keeps its one argument; the rules to make such an error, as a value. -/
namespace Kx
open PySem PySem.Spec PyProof.Rows L2
section
variable {P : Program} {w : World} {K : PySem.W.Frag} {mg : Str → Option Value} {base : Heap}
/-- self.attr = attr -/
def spI1 (K : PySem.W.Frag) (attr : Str) : Sp := fun vs H Q _ => ∃ (a C : Addr) (v : V), vs = [.ref a, v] ∧ OexC K C ∧ PySem.W.findIn K (.ref C) attr = some none ∧ H a = some (exo a C none) ∧
  ∀ dx, H dx = none → dx ≠ a → Q .non (upd (upd H dx (exd dx [(attr, v)])) a (exo a C (some dx)))
theorem ok_init1 {attr qual : Str} {params : Arguments} {body : List Stmt} {scope : Scope} {f : Addr} {fd : FuncData} (F : FunD K "__init__" qual params body scope [] [] f fd) (S : FnScope ["self", attr] ["self", attr] scope)
    (h0 : scope.names.lookup ("self" : Str) = some NameKind.local) (h1 : scope.names.lookup attr = some NameKind.local) (n1 : (attr == ("__debug__" : Str)) = false) (n2 : (attr == ("__classdict__" : Str)) = false)
    (hb : ∃ p1 p2 p3 p4, body = [.Assign [.Attribute (.Name "self" p1) attr p2] (.Name attr p3) p4]) : FnOk P w K mg base CX0 1 f fd ["self", attr] (spI1 K attr) := by
  refine F.ok S (fun vs H Q E h => ?_) (fun cdv A outer s H vs Q E hr h => ?_)
  · obtain ⟨a, C, v, rfl, _⟩ := h
    rfl
  · obtain ⟨a, C, v, rfl, T, hno, ha, kq⟩ := h
    obtain ⟨p1, p2, p3, p4, rfl⟩ := hb
    refine ⟨_, PSs.nox (pss_one (ps_ost (pe_var (i := 0) rfl (.inl h0)) (pe_var (i := 1) rfl (.inl h1) n1 n2))), ?_⟩
    exact ⟨_, rfl, _, rfl, a, C, rfl, T, hno, .inl ⟨ha, fun dx hd hne => kq dx hd hne⟩⟩
end
/-- a class with such an __init__, as the text has left it -/
structure Ex1 (P : Program) (w : World) (K : PySem.W.Frag) (mg : Str → Option Value) (base : Heap) (x : Str) (C : Addr) (attr : Str) : Prop where
  hm : mg x = some (.ref C)
  oex : OexC K C
  noA : PySem.W.findIn K (.ref C) attr = some none
  fn : ∃ fI fd, PySem.W.findIn K (.ref C) "__init__" = some (some (.ref fI)) ∧ PySem.W.typeIn K (.ref fI) = some (.type "function") ∧ FnOk P w K mg base CX0 1 fI fd ["self", attr] (spI1 K attr) ∧
    KBn K fd ["self", attr] 2 [] (fun us ws => us ++ ws) (fun vs zs => vs ++ zs) ∧ KBn K fd ["self", attr] 1 [attr] (fun us ws => us ++ ws) (fun vs zs => vs ++ zs)
theorem kbn_cat {K : PySem.W.Frag} {fd : FuncData} {ps : List Str} {n : Nat} {ks : List Str} (h : ∀ us ws : List Value, us.length = n → ws.length = ks.length → bindArgs fd ⟨us, ks.zip ws⟩ = pure (ps.zip (us ++ ws))) : KBn K fd ps n ks (fun us ws => us ++ ws) (fun vs zs => vs ++ zs) :=
  ⟨fun _ us ws _ l1 l2 => .of_eq (h us ws l1 l2), fun r1 r2 => r1.append r2⟩
/-- the heap behind the making -/
def made (H : Hp) (a C d : Addr) (fs : List (Str × V)) : Hp := upd (upd H d (.xd fs)) a (exv a C (some d))
theorem made_eq {H : Hp} {a C d : Addr} {fs gs : List (Str × V)} : kept (upd (upd (upd H a (exo a C none)) d (exd d gs)) a (exo a C (some d))) a C d fs = made H a C d fs := by
  funext b
  unfold kept made upd
  by_cases h1 : b = a
  · rw [if_pos h1, if_pos h1]
  · rw [if_neg h1, if_neg h1]
    by_cases h2 : b = d
    · rw [if_pos h2, if_pos h2, if_neg h1]
    · rw [if_neg h2, if_neg h2, if_neg h1, if_neg h2, if_neg h1]
theorem PE.weak {X : Cx} {e : Expr} {t t' : TE} (h : PE X e t) (k : ∀ σ H Q, t' σ H Q → t σ H Q) : PE X e t' := ⟨fun pins s σ H Q I q => h.run pins s σ H Q I (k σ H Q q)⟩
section
variable {X : Cx} {x attr : Str} {C : Addr} {e : Expr} {te : TE} {p pos kp : Pos}
theorem mk1 {H : Hp} {Q : VK} {v : V} {vs zs : List V} {n m : Nat} (T : OexC X.K C) (hno : PySem.W.findIn X.K (.ref C) attr = some none) (hvz : vs ++ zs = [v]) (l1 : vs.length = n) (l2 : zs.length = m) (hn : n ≤ 1000)
    (h : ∀ a d, H a = none → H d = none → d ≠ a → Q (.ref a) (made H a C d [(attr, v)])) : MkOk C n m (spI1 X.K attr) (fun vs zs => vs ++ zs) vs zs H Q := by
  refine ⟨l1, l2, hn, fun a ha => ⟨a, C, v, ?_, T, hno, upd_same, fun d hd hda => ⟨rfl, d, [(attr, v)], upd_same, ?_, ?_⟩⟩⟩
  · show V.ref a :: (vs ++ zs) = [V.ref a, v]
    rw [hvz]
  · rw [upd_ne hda, upd_same]
  · rw [made_eq]
    rw [upd_ne hda] at hd
    exact h a d ha hd hda
/-- C(e) -/
theorem pe_x1 (T : Ex1 X.prog X.w X.K X.mg X.base x C attr) (hr : Room 2 X.A) (hg : Gl X x) (he : PE X e te) (hdb : (x == ("__debug__" : Str)) = false := by decide +kernel) (hst : starEach [e] X.env = (false, eval e X.env) :: starEach [] X.env := by rfl) :
    PE X (.Call (.Name x p) [e] [] pos) (tMkX C 1 0 (spI1 X.K attr) (fun vs zs => vs ++ zs) (tCons te tNil) tNil) := by
  obtain ⟨fI, fd, iC, tI, F, b1, _⟩ := T.fn
  exact pe_mkP (n := 1) (ks := []) T.oex iC tI F hr b1 pass0 hg T.hm rfl (pa_cons he pa_nil hst) hdb hst rfl
/-- C(attr=e) -/
theorem pe_x1k (T : Ex1 X.prog X.w X.K X.mg X.base x C attr) (hr : Room 2 X.A) (hg : Gl X x) (he : PE X e te) (hdb : (x == ("__debug__" : Str)) = false := by decide +kernel) :
    PE X (.Call (.Name x p) [] [⟨some attr, e, kp⟩] pos) (tMkX C 0 1 (spI1 X.K attr) (fun vs zs => vs ++ zs) tNil (tCons te tNil)) := by
  obtain ⟨fI, fd, iC, tI, F, _, b2⟩ := T.fn
  exact pe_mkK (n := 0) (ks := [attr]) T.oex iC tI F hr b2 pass0 hg T.hm rfl (pk_cons he pk_nil) rfl rfl hdb rfl
end
/-! ### an error of two arguments -/
section
variable {P : Program} {w : World} {K : PySem.W.Frag} {mg : Str → Option Value} {base : Heap}
def spI2 (K : PySem.W.Frag) (f g : Str) : Sp := fun vs H Q _ => ∃ (a C : Addr) (v u : V), vs = [.ref a, v, u] ∧ OexC K C ∧ PySem.W.findIn K (.ref C) f = some none ∧ PySem.W.findIn K (.ref C) g = some none ∧ H a = some (exo a C none) ∧
  ∀ dx, H dx = none → dx ≠ a → Q .non (upd (upd (upd H dx (exd dx [(f, v)])) a (exo a C (some dx))) dx (exd dx [(g, u), (f, v)]))
theorem ok_init2 {f1 f2 qual : Str} {params : Arguments} {body : List Stmt} {scope : Scope} {f : Addr} {fd : FuncData} (F : FunD K "__init__" qual params body scope [] [] f fd) (S : FnScope ["self", f1, f2] ["self", f1, f2] scope)
    (h0 : scope.names.lookup ("self" : Str) = some NameKind.local) (h1 : scope.names.lookup f1 = some NameKind.local) (h2 : scope.names.lookup f2 = some NameKind.local) (n1 : (f1 == ("__debug__" : Str)) = false ∧ (f1 == ("__classdict__" : Str)) = false) (n2 : (f2 == ("__debug__" : Str)) = false ∧ (f2 == ("__classdict__" : Str)) = false)
    (hb : ∃ p1 p2 p3 p4 q1 q2 q3 q4, body = [.Assign [.Attribute (.Name "self" p1) f1 p2] (.Name f1 p3) p4, .Assign [.Attribute (.Name "self" q1) f2 q2] (.Name f2 q3) q4]) : FnOk P w K mg base CX0 1 f fd ["self", f1, f2] (spI2 K f1 f2) := by
  refine F.ok S (fun vs H Q E h => ?_) (fun cdv A outer s H vs Q E hr h => ?_)
  · obtain ⟨a, C, v, u, rfl, _⟩ := h
    rfl
  · obtain ⟨a, C, v, u, rfl, T, hno, hno2, ha, kq⟩ := h
    obtain ⟨p1, p2, p3, p4, q1, q2, q3, q4, rfl⟩ := hb
    refine ⟨_, PSs.nox (pss_cons (ps_ost (pe_var (i := 0) rfl (.inl h0)) (pe_var (i := 1) rfl (.inl h1) n1.1 n1.2)) (pss_one (ps_ost (pe_var (i := 0) rfl (.inl h0)) (pe_var (i := 2) rfl (.inl h2) n2.1 n2.2)))), ?_⟩
    refine ⟨_, rfl, _, rfl, a, C, rfl, T, hno, .inl ⟨ha, fun dx hd hne => ⟨_, rfl, _, rfl, a, C, rfl, T, hno2, .inr ⟨dx, [(f1, v)], upd_same, ?_, (by show 1 ≤ 900; decide), kq dx hd hne⟩⟩⟩⟩
    rw [upd_ne hne, upd_same]
end
structure Ex2 (P : Program) (w : World) (K : PySem.W.Frag) (mg : Str → Option Value) (base : Heap) (x : Str) (C : Addr) (f g : Str) : Prop where
  hm : mg x = some (.ref C)
  oex : OexC K C
  noF : PySem.W.findIn K (.ref C) f = some none
  noG : PySem.W.findIn K (.ref C) g = some none
  fn : ∃ fI fd, PySem.W.findIn K (.ref C) "__init__" = some (some (.ref fI)) ∧ PySem.W.typeIn K (.ref fI) = some (.type "function") ∧ FnOk P w K mg base CX0 1 fI fd ["self", f, g] (spI2 K f g) ∧
    KBn K fd ["self", f, g] 3 [] (fun us ws => us ++ ws) (fun vs zs => vs ++ zs) ∧ KBn K fd ["self", f, g] 1 [g, f] (fun us ws => us ++ ws.reverse) (fun vs zs => vs ++ zs.reverse) ∧ KBn K fd ["self", f, g] 2 [g] (fun us ws => us ++ ws) (fun vs zs => vs ++ zs)
theorem made_eq2 {H : Hp} {a C d : Addr} {fs gs hs : List (Str × V)} (hne : d ≠ a) : kept (upd (upd (upd (upd H a (exo a C none)) d (exd d gs)) a (exo a C (some d))) d (exd d hs)) a C d fs = made H a C d fs := by
  funext b
  unfold kept made upd
  by_cases h1 : b = a
  · rw [if_pos h1, if_pos h1]
  · rw [if_neg h1, if_neg h1]
    by_cases h2 : b = d
    · rw [if_pos h2, if_pos h2, if_neg h1]
    · rw [if_neg h2, if_neg h2, if_neg h2, if_neg h1, if_neg h2, if_neg h1]
section
variable {X : Cx} {x f g : Str} {C : Addr} {e e2 : Expr} {te te2 : TE} {p pos kp kp2 : Pos}
theorem mk2 {H : Hp} {Q : VK} {v u : V} {vs zs : List V} {n m : Nat} {gV : List V → List V → List V} (T : OexC X.K C) (hf : PySem.W.findIn X.K (.ref C) f = some none) (hg : PySem.W.findIn X.K (.ref C) g = some none) (hvz : ∀ a, gV (.ref a :: vs) zs = [.ref a, v, u]) (l1 : vs.length = n) (l2 : zs.length = m) (hn : n ≤ 1000)
    (h : ∀ a d, H a = none → H d = none → d ≠ a → Q (.ref a) (made H a C d [(g, u), (f, v)])) : MkOk C n m (spI2 X.K f g) gV vs zs H Q := by
  refine ⟨l1, l2, hn, fun a ha => ⟨a, C, v, u, hvz a, T, hf, hg, upd_same, fun d hd hda => ⟨rfl, d, [(g, u), (f, v)], ?_, upd_same, ?_⟩⟩⟩
  · rw [upd_ne (Ne.symm hda), upd_same]
  · rw [made_eq2 hda]
    rw [upd_ne hda] at hd
    exact h a d ha hd hda
theorem pe_x2 (T : Ex2 X.prog X.w X.K X.mg X.base x C f g) (hr : Room 2 X.A) (hg : Gl X x) (he : PE X e te) (he2 : PE X e2 te2) (hdb : (x == ("__debug__" : Str)) = false := by decide +kernel) (hst : starEach [e, e2] X.env = (false, eval e X.env) :: starEach [e2] X.env := by rfl)
    (hst2 : starEach [e2] X.env = (false, eval e2 X.env) :: starEach [] X.env := by rfl) (hpl : (backTo pos (starEach [e2] X.env)).any (·.1) = false := by rfl) :
    PE X (.Call (.Name x p) [e, e2] [] pos) (tMkX C 2 0 (spI2 X.K f g) (fun vs zs => vs ++ zs) (tCons te (tCons te2 tNil)) tNil) := by
  obtain ⟨fI, fd, iC, tI, F, b1, _⟩ := T.fn
  exact pe_mkP (n := 2) (ks := []) T.oex iC tI F hr b1 pass0 hg T.hm rfl (pa_cons he (pa_cons he2 pa_nil hst2) hst) hdb hst hpl
theorem pe_x2k (T : Ex2 X.prog X.w X.K X.mg X.base x C f g) (hr : Room 2 X.A) (hg : Gl X x) (he : PE X e te) (he2 : PE X e2 te2) (hdb : (x == ("__debug__" : Str)) = false := by decide +kernel) :
    PE X (.Call (.Name x p) [] [⟨some g, e, kp⟩, ⟨some f, e2, kp2⟩] pos) (tMkX C 0 2 (spI2 X.K f g) (fun vs zs => vs ++ zs.reverse) tNil (tCons te (tCons te2 tNil))) := by
  obtain ⟨fI, fd, iC, tI, F, _, b2, _⟩ := T.fn
  exact pe_mkK (n := 0) (ks := [g, f]) T.oex iC tI F hr b2 pass0 hg T.hm rfl (pk_cons he (pk_cons he2 pk_nil)) rfl rfl hdb rfl
theorem pe_x2m (T : Ex2 X.prog X.w X.K X.mg X.base x C f g) (hr : Room 2 X.A) (hg : Gl X x) (he : PE X e te) (he2 : PE X e2 te2) (hdb : (x == ("__debug__" : Str)) = false := by decide +kernel) (hst : starEach [e] X.env = (false, eval e X.env) :: starEach [] X.env := by rfl) :
    PE X (.Call (.Name x p) [e] [⟨some g, e2, kp⟩] pos) (tMkX C 1 1 (spI2 X.K f g) (fun vs zs => vs ++ zs) (tCons te tNil) (tCons te2 tNil)) := by
  obtain ⟨fI, fd, iC, tI, F, _, _, b3⟩ := T.fn
  exact pe_mkM (n := 1) (ks := [g]) T.oex iC tI F hr b3 pass0 hg T.hm (pa_cons he pa_nil hst) (pk_cons he2 pk_nil) rfl rfl hdb hst (by simp only [hst]; rfl)
end
end Kx

set_option Elab.async false
set_option linter.all false
set_option maxRecDepth 100000
set_option maxHeartbeats 4000000
namespace Kn
open PySem PySem.Spec PyProof.Rows L2 L2H Kx
section
variable {P : Program} {w : World} {K : PySem.W.Frag} {mg : Str → Option Value} {base : Heap}
theorem Txt.exF (T : Txt K mg) {i : Nat} (hi : i < 43) : ExF K (exA K i) := by
  have q := (chk_parts T.says.chk).2.2.2.2.1 i hi
  unfold exChk at q
  exact exB_ok (He.ba (He.ba q).2).1
theorem init_facts (T : Txt K mg) {i : Nat} (hi : i < 37) : PySem.W.findIn K (.ref (exA K i)) "__init__" = some (some (.ref (He.ma K (exA K i) "__init__"))) ∧ PySem.W.typeIn K (.ref (He.ma K (exA K i) "__init__")) = some (.type "function") ∧ PySem.W.findIn K (.ref (exA K i)) (exAttr i) = some none := by
  have q := (chk_parts T.says.chk).2.2.2.2.2.1 i hi
  unfold exInit at q
  simp only [Bool.and_eq_true, decide_eq_true_eq] at q
  exact ⟨He.eqO_ok q.1, q.2.1, q.2.2⟩
theorem ex1_of {i : Nat} {qual : Str} {st : Stmt} {fd : FuncData} (hi : i < 37) (T : Txt K mg) (F : FunD K "__init__" qual (defArgs st) (defBody st) (defScope st) [] [] (He.ma K (exA K i) "__init__") fd) (S : FnScope ["self", exAttr i] ["self", exAttr i] (defScope st))
    (h0 : (defScope st).names.lookup ("self" : Str) = some NameKind.local) (h1 : (defScope st).names.lookup (exAttr i) = some NameKind.local) (n1 : (exAttr i == ("__debug__" : Str)) = false) (n2 : (exAttr i == ("__classdict__" : Str)) = false)
    (hb : ∃ p1 p2 p3 p4, defBody st = [.Assign [.Attribute (.Name "self" p1) (exAttr i) p2] (.Name (exAttr i) p3) p4])
    (b1 : ∀ (kV doc pm : Value) (an : Option Addr) (cdv ct : Value) (us ws : List Value), us.length = 2 → ws.length = 0 → bindArgs (PySem.W.fnOf "__init__" qual (defArgs st) (defBody st) (defScope st) .none kV doc pm an cdv ct) ⟨us, ([] : List Str).zip ws⟩ = pure ((["self", exAttr i] : List Str).zip (us ++ ws)))
    (b2 : ∀ (kV doc pm : Value) (an : Option Addr) (cdv ct : Value) (us ws : List Value), us.length = 1 → ws.length = 1 → bindArgs (PySem.W.fnOf "__init__" qual (defArgs st) (defBody st) (defScope st) .none kV doc pm an cdv ct) ⟨us, [exAttr i].zip ws⟩ = pure ((["self", exAttr i] : List Str).zip (us ++ ws))) :
    Ex1 P w K mg base (exName i) (exA K i) (exAttr i) := by
  obtain ⟨f1, f2, f3⟩ := init_facts T hi
  have F0 := ok_init1 (P := P) (w := w) (mg := mg) (base := base) F S h0 h1 n1 n2 hb
  obtain ⟨oc, od, dV, kV, doc, pm, an, cdv, ct, osl, rfl, lk, hcd, hD, hK⟩ := F.ex
  have eD : dV = .none := by
    rcases hD with ⟨_, e⟩ | ⟨e, _⟩
    · exact e
    · exact absurd rfl e
  subst eD
  exact ⟨T.exg i (by omega), (T.exF (by omega)).oex, f3, _, _, f1, f2, F0, kbn_cat (b1 kV doc pm an cdv ct), kbn_cat (b2 kV doc pm an cdv ct)⟩
theorem vals_rev : ∀ {xs : List V} {us : List Value}, Vals xs us → Vals xs.reverse us.reverse
  | _, _, .nil => .nil
  | _, _, .cons r t => by
    rw [List.reverse_cons, List.reverse_cons]
    exact (vals_rev t).append (.cons r .nil)
theorem ex1_0 (T : Txt K mg) : Ex1 P w K mg base "InvalidAutomaton" (exA K 0) "given" := by
  obtain ⟨fd, F⟩ := T.says.def_ 27 (d := d_ex0) rfl
  exact ex1_of (i := 0) (st := s_ex0) (by decide) T F ⟨rfl, rfl, rfl, by decide +kernel, rfl, by decide +kernel, by decide +kernel⟩ rfl rfl (by decide +kernel) (by decide +kernel) ⟨_, _, _, _, rfl⟩
    (fun _ _ _ _ _ _ us ws l1 l2 => match us, ws, l1, l2 with | [_, _], [], _, _ => rfl) (fun _ _ _ _ _ _ us ws l1 l2 => match us, ws, l1, l2 with | [_], [_], _, _ => rfl)
theorem ex1_1 (T : Txt K mg) : Ex1 P w K mg base "InvalidColors" (exA K 1) "given" := by
  obtain ⟨fd, F⟩ := T.says.def_ 28 (d := d_ex1) rfl
  exact ex1_of (i := 1) (st := s_ex1) (by decide) T F ⟨rfl, rfl, rfl, by decide +kernel, rfl, by decide +kernel, by decide +kernel⟩ rfl rfl (by decide +kernel) (by decide +kernel) ⟨_, _, _, _, rfl⟩
    (fun _ _ _ _ _ _ us ws l1 l2 => match us, ws, l1, l2 with | [_, _], [], _, _ => rfl) (fun _ _ _ _ _ _ us ws l1 l2 => match us, ws, l1, l2 with | [_], [_], _, _ => rfl)
theorem ex1_2 (T : Txt K mg) : Ex1 P w K mg base "InvalidExpression" (exA K 2) "given" := by
  obtain ⟨fd, F⟩ := T.says.def_ 29 (d := d_ex2) rfl
  exact ex1_of (i := 2) (st := s_ex2) (by decide) T F ⟨rfl, rfl, rfl, by decide +kernel, rfl, by decide +kernel, by decide +kernel⟩ rfl rfl (by decide +kernel) (by decide +kernel) ⟨_, _, _, _, rfl⟩
    (fun _ _ _ _ _ _ us ws l1 l2 => match us, ws, l1, l2 with | [_, _], [], _, _ => rfl) (fun _ _ _ _ _ _ us ws l1 l2 => match us, ws, l1, l2 with | [_], [_], _, _ => rfl)
theorem ex1_3 (T : Txt K mg) : Ex1 P w K mg base "InvalidImages" (exA K 3) "given" := by
  obtain ⟨fd, F⟩ := T.says.def_ 30 (d := d_ex3) rfl
  exact ex1_of (i := 3) (st := s_ex3) (by decide) T F ⟨rfl, rfl, rfl, by decide +kernel, rfl, by decide +kernel, by decide +kernel⟩ rfl rfl (by decide +kernel) (by decide +kernel) ⟨_, _, _, _, rfl⟩
    (fun _ _ _ _ _ _ us ws l1 l2 => match us, ws, l1, l2 with | [_, _], [], _, _ => rfl) (fun _ _ _ _ _ _ us ws l1 l2 => match us, ws, l1, l2 with | [_], [_], _, _ => rfl)
theorem ex1_4 (T : Txt K mg) : Ex1 P w K mg base "InvalidIndex" (exA K 4) "given" := by
  obtain ⟨fd, F⟩ := T.says.def_ 31 (d := d_ex4) rfl
  exact ex1_of (i := 4) (st := s_ex4) (by decide) T F ⟨rfl, rfl, rfl, by decide +kernel, rfl, by decide +kernel, by decide +kernel⟩ rfl rfl (by decide +kernel) (by decide +kernel) ⟨_, _, _, _, rfl⟩
    (fun _ _ _ _ _ _ us ws l1 l2 => match us, ws, l1, l2 with | [_, _], [], _, _ => rfl) (fun _ _ _ _ _ _ us ws l1 l2 => match us, ws, l1, l2 with | [_], [_], _, _ => rfl)
theorem ex1_5 (T : Txt K mg) : Ex1 P w K mg base "InvalidKind" (exA K 5) "given" := by
  obtain ⟨fd, F⟩ := T.says.def_ 32 (d := d_ex5) rfl
  exact ex1_of (i := 5) (st := s_ex5) (by decide) T F ⟨rfl, rfl, rfl, by decide +kernel, rfl, by decide +kernel, by decide +kernel⟩ rfl rfl (by decide +kernel) (by decide +kernel) ⟨_, _, _, _, rfl⟩
    (fun _ _ _ _ _ _ us ws l1 l2 => match us, ws, l1, l2 with | [_, _], [], _, _ => rfl) (fun _ _ _ _ _ _ us ws l1 l2 => match us, ws, l1, l2 with | [_], [_], _, _ => rfl)
theorem ex1_6 (T : Txt K mg) : Ex1 P w K mg base "InvalidLasso" (exA K 6) "given" := by
  obtain ⟨fd, F⟩ := T.says.def_ 33 (d := d_ex6) rfl
  exact ex1_of (i := 6) (st := s_ex6) (by decide) T F ⟨rfl, rfl, rfl, by decide +kernel, rfl, by decide +kernel, by decide +kernel⟩ rfl rfl (by decide +kernel) (by decide +kernel) ⟨_, _, _, _, rfl⟩
    (fun _ _ _ _ _ _ us ws l1 l2 => match us, ws, l1, l2 with | [_, _], [], _, _ => rfl) (fun _ _ _ _ _ _ us ws l1 l2 => match us, ws, l1, l2 with | [_], [_], _, _ => rfl)
theorem ex1_7 (T : Txt K mg) : Ex1 P w K mg base "InvalidLength" (exA K 7) "given" := by
  obtain ⟨fd, F⟩ := T.says.def_ 34 (d := d_ex7) rfl
  exact ex1_of (i := 7) (st := s_ex7) (by decide) T F ⟨rfl, rfl, rfl, by decide +kernel, rfl, by decide +kernel, by decide +kernel⟩ rfl rfl (by decide +kernel) (by decide +kernel) ⟨_, _, _, _, rfl⟩
    (fun _ _ _ _ _ _ us ws l1 l2 => match us, ws, l1, l2 with | [_, _], [], _, _ => rfl) (fun _ _ _ _ _ _ us ws l1 l2 => match us, ws, l1, l2 with | [_], [_], _, _ => rfl)
theorem ex1_8 (T : Txt K mg) : Ex1 P w K mg base "InvalidLetter" (exA K 8) "given" := by
  obtain ⟨fd, F⟩ := T.says.def_ 35 (d := d_ex8) rfl
  exact ex1_of (i := 8) (st := s_ex8) (by decide) T F ⟨rfl, rfl, rfl, by decide +kernel, rfl, by decide +kernel, by decide +kernel⟩ rfl rfl (by decide +kernel) (by decide +kernel) ⟨_, _, _, _, rfl⟩
    (fun _ _ _ _ _ _ us ws l1 l2 => match us, ws, l1, l2 with | [_, _], [], _, _ => rfl) (fun _ _ _ _ _ _ us ws l1 l2 => match us, ws, l1, l2 with | [_], [_], _, _ => rfl)
theorem ex1_9 (T : Txt K mg) : Ex1 P w K mg base "InvalidLetters" (exA K 9) "given" := by
  obtain ⟨fd, F⟩ := T.says.def_ 36 (d := d_ex9) rfl
  exact ex1_of (i := 9) (st := s_ex9) (by decide) T F ⟨rfl, rfl, rfl, by decide +kernel, rfl, by decide +kernel, by decide +kernel⟩ rfl rfl (by decide +kernel) (by decide +kernel) ⟨_, _, _, _, rfl⟩
    (fun _ _ _ _ _ _ us ws l1 l2 => match us, ws, l1, l2 with | [_, _], [], _, _ => rfl) (fun _ _ _ _ _ _ us ws l1 l2 => match us, ws, l1, l2 with | [_], [_], _, _ => rfl)
theorem ex1_10 (T : Txt K mg) : Ex1 P w K mg base "InvalidLine" (exA K 10) "given" := by
  obtain ⟨fd, F⟩ := T.says.def_ 37 (d := d_ex10) rfl
  exact ex1_of (i := 10) (st := s_ex10) (by decide) T F ⟨rfl, rfl, rfl, by decide +kernel, rfl, by decide +kernel, by decide +kernel⟩ rfl rfl (by decide +kernel) (by decide +kernel) ⟨_, _, _, _, rfl⟩
    (fun _ _ _ _ _ _ us ws l1 l2 => match us, ws, l1, l2 with | [_, _], [], _, _ => rfl) (fun _ _ _ _ _ _ us ws l1 l2 => match us, ws, l1, l2 with | [_], [_], _, _ => rfl)
theorem ex1_11 (T : Txt K mg) : Ex1 P w K mg base "InvalidMachine" (exA K 11) "given" := by
  obtain ⟨fd, F⟩ := T.says.def_ 38 (d := d_ex11) rfl
  exact ex1_of (i := 11) (st := s_ex11) (by decide) T F ⟨rfl, rfl, rfl, by decide +kernel, rfl, by decide +kernel, by decide +kernel⟩ rfl rfl (by decide +kernel) (by decide +kernel) ⟨_, _, _, _, rfl⟩
    (fun _ _ _ _ _ _ us ws l1 l2 => match us, ws, l1, l2 with | [_, _], [], _, _ => rfl) (fun _ _ _ _ _ _ us ws l1 l2 => match us, ws, l1, l2 with | [_], [_], _, _ => rfl)
theorem ex1_12 (T : Txt K mg) : Ex1 P w K mg base "InvalidName" (exA K 12) "given" := by
  obtain ⟨fd, F⟩ := T.says.def_ 39 (d := d_ex12) rfl
  exact ex1_of (i := 12) (st := s_ex12) (by decide) T F ⟨rfl, rfl, rfl, by decide +kernel, rfl, by decide +kernel, by decide +kernel⟩ rfl rfl (by decide +kernel) (by decide +kernel) ⟨_, _, _, _, rfl⟩
    (fun _ _ _ _ _ _ us ws l1 l2 => match us, ws, l1, l2 with | [_, _], [], _, _ => rfl) (fun _ _ _ _ _ _ us ws l1 l2 => match us, ws, l1, l2 with | [_], [_], _, _ => rfl)
theorem ex1_13 (T : Txt K mg) : Ex1 P w K mg base "InvalidNumber" (exA K 13) "given" := by
  obtain ⟨fd, F⟩ := T.says.def_ 40 (d := d_ex13) rfl
  exact ex1_of (i := 13) (st := s_ex13) (by decide) T F ⟨rfl, rfl, rfl, by decide +kernel, rfl, by decide +kernel, by decide +kernel⟩ rfl rfl (by decide +kernel) (by decide +kernel) ⟨_, _, _, _, rfl⟩
    (fun _ _ _ _ _ _ us ws l1 l2 => match us, ws, l1, l2 with | [_, _], [], _, _ => rfl) (fun _ _ _ _ _ _ us ws l1 l2 => match us, ws, l1, l2 with | [_], [_], _, _ => rfl)
theorem ex1_14 (T : Txt K mg) : Ex1 P w K mg base "InvalidOwners" (exA K 14) "given" := by
  obtain ⟨fd, F⟩ := T.says.def_ 41 (d := d_ex14) rfl
  exact ex1_of (i := 14) (st := s_ex14) (by decide) T F ⟨rfl, rfl, rfl, by decide +kernel, rfl, by decide +kernel, by decide +kernel⟩ rfl rfl (by decide +kernel) (by decide +kernel) ⟨_, _, _, _, rfl⟩
    (fun _ _ _ _ _ _ us ws l1 l2 => match us, ws, l1, l2 with | [_, _], [], _, _ => rfl) (fun _ _ _ _ _ _ us ws l1 l2 => match us, ws, l1, l2 with | [_], [_], _, _ => rfl)
theorem ex1_15 (T : Txt K mg) : Ex1 P w K mg base "InvalidPairs" (exA K 15) "given" := by
  obtain ⟨fd, F⟩ := T.says.def_ 42 (d := d_ex15) rfl
  exact ex1_of (i := 15) (st := s_ex15) (by decide) T F ⟨rfl, rfl, rfl, by decide +kernel, rfl, by decide +kernel, by decide +kernel⟩ rfl rfl (by decide +kernel) (by decide +kernel) ⟨_, _, _, _, rfl⟩
    (fun _ _ _ _ _ _ us ws l1 l2 => match us, ws, l1, l2 with | [_, _], [], _, _ => rfl) (fun _ _ _ _ _ _ us ws l1 l2 => match us, ws, l1, l2 with | [_], [_], _, _ => rfl)
theorem ex1_16 (T : Txt K mg) : Ex1 P w K mg base "InvalidPlace" (exA K 16) "given" := by
  obtain ⟨fd, F⟩ := T.says.def_ 43 (d := d_ex16) rfl
  exact ex1_of (i := 16) (st := s_ex16) (by decide) T F ⟨rfl, rfl, rfl, by decide +kernel, rfl, by decide +kernel, by decide +kernel⟩ rfl rfl (by decide +kernel) (by decide +kernel) ⟨_, _, _, _, rfl⟩
    (fun _ _ _ _ _ _ us ws l1 l2 => match us, ws, l1, l2 with | [_, _], [], _, _ => rfl) (fun _ _ _ _ _ _ us ws l1 l2 => match us, ws, l1, l2 with | [_], [_], _, _ => rfl)
theorem ex1_17 (T : Txt K mg) : Ex1 P w K mg base "InvalidPlaces" (exA K 17) "given" := by
  obtain ⟨fd, F⟩ := T.says.def_ 44 (d := d_ex17) rfl
  exact ex1_of (i := 17) (st := s_ex17) (by decide) T F ⟨rfl, rfl, rfl, by decide +kernel, rfl, by decide +kernel, by decide +kernel⟩ rfl rfl (by decide +kernel) (by decide +kernel) ⟨_, _, _, _, rfl⟩
    (fun _ _ _ _ _ _ us ws l1 l2 => match us, ws, l1, l2 with | [_, _], [], _, _ => rfl) (fun _ _ _ _ _ _ us ws l1 l2 => match us, ws, l1, l2 with | [_], [_], _, _ => rfl)
theorem ex1_18 (T : Txt K mg) : Ex1 P w K mg base "InvalidPlan" (exA K 18) "given" := by
  obtain ⟨fd, F⟩ := T.says.def_ 45 (d := d_ex18) rfl
  exact ex1_of (i := 18) (st := s_ex18) (by decide) T F ⟨rfl, rfl, rfl, by decide +kernel, rfl, by decide +kernel, by decide +kernel⟩ rfl rfl (by decide +kernel) (by decide +kernel) ⟨_, _, _, _, rfl⟩
    (fun _ _ _ _ _ _ us ws l1 l2 => match us, ws, l1, l2 with | [_, _], [], _, _ => rfl) (fun _ _ _ _ _ _ us ws l1 l2 => match us, ws, l1, l2 with | [_], [_], _, _ => rfl)
theorem ex1_19 (T : Txt K mg) : Ex1 P w K mg base "InvalidPlayer" (exA K 19) "given" := by
  obtain ⟨fd, F⟩ := T.says.def_ 46 (d := d_ex19) rfl
  exact ex1_of (i := 19) (st := s_ex19) (by decide) T F ⟨rfl, rfl, rfl, by decide +kernel, rfl, by decide +kernel, by decide +kernel⟩ rfl rfl (by decide +kernel) (by decide +kernel) ⟨_, _, _, _, rfl⟩
    (fun _ _ _ _ _ _ us ws l1 l2 => match us, ws, l1, l2 with | [_, _], [], _, _ => rfl) (fun _ _ _ _ _ _ us ws l1 l2 => match us, ws, l1, l2 with | [_], [_], _, _ => rfl)
theorem ex1_20 (T : Txt K mg) : Ex1 P w K mg base "InvalidSentence" (exA K 20) "given" := by
  obtain ⟨fd, F⟩ := T.says.def_ 47 (d := d_ex20) rfl
  exact ex1_of (i := 20) (st := s_ex20) (by decide) T F ⟨rfl, rfl, rfl, by decide +kernel, rfl, by decide +kernel, by decide +kernel⟩ rfl rfl (by decide +kernel) (by decide +kernel) ⟨_, _, _, _, rfl⟩
    (fun _ _ _ _ _ _ us ws l1 l2 => match us, ws, l1, l2 with | [_, _], [], _, _ => rfl) (fun _ _ _ _ _ _ us ws l1 l2 => match us, ws, l1, l2 with | [_], [_], _, _ => rfl)
theorem ex1_21 (T : Txt K mg) : Ex1 P w K mg base "InvalidSet" (exA K 21) "given" := by
  obtain ⟨fd, F⟩ := T.says.def_ 48 (d := d_ex21) rfl
  exact ex1_of (i := 21) (st := s_ex21) (by decide) T F ⟨rfl, rfl, rfl, by decide +kernel, rfl, by decide +kernel, by decide +kernel⟩ rfl rfl (by decide +kernel) (by decide +kernel) ⟨_, _, _, _, rfl⟩
    (fun _ _ _ _ _ _ us ws l1 l2 => match us, ws, l1, l2 with | [_, _], [], _, _ => rfl) (fun _ _ _ _ _ _ us ws l1 l2 => match us, ws, l1, l2 with | [_], [_], _, _ => rfl)
theorem ex1_22 (T : Txt K mg) : Ex1 P w K mg base "InvalidSize" (exA K 22) "given" := by
  obtain ⟨fd, F⟩ := T.says.def_ 49 (d := d_ex22) rfl
  exact ex1_of (i := 22) (st := s_ex22) (by decide) T F ⟨rfl, rfl, rfl, by decide +kernel, rfl, by decide +kernel, by decide +kernel⟩ rfl rfl (by decide +kernel) (by decide +kernel) ⟨_, _, _, _, rfl⟩
    (fun _ _ _ _ _ _ us ws l1 l2 => match us, ws, l1, l2 with | [_, _], [], _, _ => rfl) (fun _ _ _ _ _ _ us ws l1 l2 => match us, ws, l1, l2 with | [_], [_], _, _ => rfl)
theorem ex1_23 (T : Txt K mg) : Ex1 P w K mg base "InvalidState" (exA K 23) "given" := by
  obtain ⟨fd, F⟩ := T.says.def_ 50 (d := d_ex23) rfl
  exact ex1_of (i := 23) (st := s_ex23) (by decide) T F ⟨rfl, rfl, rfl, by decide +kernel, rfl, by decide +kernel, by decide +kernel⟩ rfl rfl (by decide +kernel) (by decide +kernel) ⟨_, _, _, _, rfl⟩
    (fun _ _ _ _ _ _ us ws l1 l2 => match us, ws, l1, l2 with | [_, _], [], _, _ => rfl) (fun _ _ _ _ _ _ us ws l1 l2 => match us, ws, l1, l2 with | [_], [_], _, _ => rfl)
theorem ex1_24 (T : Txt K mg) : Ex1 P w K mg base "InvalidStates" (exA K 24) "given" := by
  obtain ⟨fd, F⟩ := T.says.def_ 51 (d := d_ex24) rfl
  exact ex1_of (i := 24) (st := s_ex24) (by decide) T F ⟨rfl, rfl, rfl, by decide +kernel, rfl, by decide +kernel, by decide +kernel⟩ rfl rfl (by decide +kernel) (by decide +kernel) ⟨_, _, _, _, rfl⟩
    (fun _ _ _ _ _ _ us ws l1 l2 => match us, ws, l1, l2 with | [_, _], [], _, _ => rfl) (fun _ _ _ _ _ _ us ws l1 l2 => match us, ws, l1, l2 with | [_], [_], _, _ => rfl)
theorem ex1_25 (T : Txt K mg) : Ex1 P w K mg base "InvalidSteps" (exA K 25) "given" := by
  obtain ⟨fd, F⟩ := T.says.def_ 52 (d := d_ex25) rfl
  exact ex1_of (i := 25) (st := s_ex25) (by decide) T F ⟨rfl, rfl, rfl, by decide +kernel, rfl, by decide +kernel, by decide +kernel⟩ rfl rfl (by decide +kernel) (by decide +kernel) ⟨_, _, _, _, rfl⟩
    (fun _ _ _ _ _ _ us ws l1 l2 => match us, ws, l1, l2 with | [_, _], [], _, _ => rfl) (fun _ _ _ _ _ _ us ws l1 l2 => match us, ws, l1, l2 with | [_], [_], _, _ => rfl)
theorem ex1_26 (T : Txt K mg) : Ex1 P w K mg base "InvalidText" (exA K 26) "given" := by
  obtain ⟨fd, F⟩ := T.says.def_ 53 (d := d_ex26) rfl
  exact ex1_of (i := 26) (st := s_ex26) (by decide) T F ⟨rfl, rfl, rfl, by decide +kernel, rfl, by decide +kernel, by decide +kernel⟩ rfl rfl (by decide +kernel) (by decide +kernel) ⟨_, _, _, _, rfl⟩
    (fun _ _ _ _ _ _ us ws l1 l2 => match us, ws, l1, l2 with | [_, _], [], _, _ => rfl) (fun _ _ _ _ _ _ us ws l1 l2 => match us, ws, l1, l2 with | [_], [_], _, _ => rfl)
theorem ex1_27 (T : Txt K mg) : Ex1 P w K mg base "InvalidWord" (exA K 27) "given" := by
  obtain ⟨fd, F⟩ := T.says.def_ 54 (d := d_ex27) rfl
  exact ex1_of (i := 27) (st := s_ex27) (by decide) T F ⟨rfl, rfl, rfl, by decide +kernel, rfl, by decide +kernel, by decide +kernel⟩ rfl rfl (by decide +kernel) (by decide +kernel) ⟨_, _, _, _, rfl⟩
    (fun _ _ _ _ _ _ us ws l1 l2 => match us, ws, l1, l2 with | [_, _], [], _, _ => rfl) (fun _ _ _ _ _ _ us ws l1 l2 => match us, ws, l1, l2 with | [_], [_], _, _ => rfl)
theorem ex1_28 (T : Txt K mg) : Ex1 P w K mg base "InvalidWords" (exA K 28) "given" := by
  obtain ⟨fd, F⟩ := T.says.def_ 55 (d := d_ex28) rfl
  exact ex1_of (i := 28) (st := s_ex28) (by decide) T F ⟨rfl, rfl, rfl, by decide +kernel, rfl, by decide +kernel, by decide +kernel⟩ rfl rfl (by decide +kernel) (by decide +kernel) ⟨_, _, _, _, rfl⟩
    (fun _ _ _ _ _ _ us ws l1 l2 => match us, ws, l1, l2 with | [_, _], [], _, _ => rfl) (fun _ _ _ _ _ _ us ws l1 l2 => match us, ws, l1, l2 with | [_], [_], _, _ => rfl)
theorem ex1_29 (T : Txt K mg) : Ex1 P w K mg base "Refused" (exA K 29) "given" := by
  obtain ⟨fd, F⟩ := T.says.def_ 56 (d := d_ex29) rfl
  exact ex1_of (i := 29) (st := s_ex29) (by decide) T F ⟨rfl, rfl, rfl, by decide +kernel, rfl, by decide +kernel, by decide +kernel⟩ rfl rfl (by decide +kernel) (by decide +kernel) ⟨_, _, _, _, rfl⟩
    (fun _ _ _ _ _ _ us ws l1 l2 => match us, ws, l1, l2 with | [_, _], [], _, _ => rfl) (fun _ _ _ _ _ _ us ws l1 l2 => match us, ws, l1, l2 with | [_], [_], _, _ => rfl)
theorem ex1_30 (T : Txt K mg) : Ex1 P w K mg base "TakenName" (exA K 30) "given" := by
  obtain ⟨fd, F⟩ := T.says.def_ 57 (d := d_ex30) rfl
  exact ex1_of (i := 30) (st := s_ex30) (by decide) T F ⟨rfl, rfl, rfl, by decide +kernel, rfl, by decide +kernel, by decide +kernel⟩ rfl rfl (by decide +kernel) (by decide +kernel) ⟨_, _, _, _, rfl⟩
    (fun _ _ _ _ _ _ us ws l1 l2 => match us, ws, l1, l2 with | [_, _], [], _, _ => rfl) (fun _ _ _ _ _ _ us ws l1 l2 => match us, ws, l1, l2 with | [_], [_], _, _ => rfl)
theorem ex1_31 (T : Txt K mg) : Ex1 P w K mg base "TooMany" (exA K 31) "count" := by
  obtain ⟨fd, F⟩ := T.says.def_ 58 (d := d_ex31) rfl
  exact ex1_of (i := 31) (st := s_ex31) (by decide) T F ⟨rfl, rfl, rfl, by decide +kernel, rfl, by decide +kernel, by decide +kernel⟩ rfl rfl (by decide +kernel) (by decide +kernel) ⟨_, _, _, _, rfl⟩
    (fun _ _ _ _ _ _ us ws l1 l2 => match us, ws, l1, l2 with | [_, _], [], _, _ => rfl) (fun _ _ _ _ _ _ us ws l1 l2 => match us, ws, l1, l2 with | [_], [_], _, _ => rfl)
theorem ex1_32 (T : Txt K mg) : Ex1 P w K mg base "InvalidClaim" (exA K 32) "index" := by
  obtain ⟨fd, F⟩ := T.says.def_ 59 (d := d_ex32) rfl
  exact ex1_of (i := 32) (st := s_ex32) (by decide) T F ⟨rfl, rfl, rfl, by decide +kernel, rfl, by decide +kernel, by decide +kernel⟩ rfl rfl (by decide +kernel) (by decide +kernel) ⟨_, _, _, _, rfl⟩
    (fun _ _ _ _ _ _ us ws l1 l2 => match us, ws, l1, l2 with | [_, _], [], _, _ => rfl) (fun _ _ _ _ _ _ us ws l1 l2 => match us, ws, l1, l2 with | [_], [_], _, _ => rfl)
theorem ex1_33 (T : Txt K mg) : Ex1 P w K mg base "InvalidRecord" (exA K 33) "index" := by
  obtain ⟨fd, F⟩ := T.says.def_ 60 (d := d_ex33) rfl
  exact ex1_of (i := 33) (st := s_ex33) (by decide) T F ⟨rfl, rfl, rfl, by decide +kernel, rfl, by decide +kernel, by decide +kernel⟩ rfl rfl (by decide +kernel) (by decide +kernel) ⟨_, _, _, _, rfl⟩
    (fun _ _ _ _ _ _ us ws l1 l2 => match us, ws, l1, l2 with | [_, _], [], _, _ => rfl) (fun _ _ _ _ _ _ us ws l1 l2 => match us, ws, l1, l2 with | [_], [_], _, _ => rfl)
theorem ex1_34 (T : Txt K mg) : Ex1 P w K mg base "UnknownName" (exA K 34) "name" := by
  obtain ⟨fd, F⟩ := T.says.def_ 61 (d := d_ex34) rfl
  exact ex1_of (i := 34) (st := s_ex34) (by decide) T F ⟨rfl, rfl, rfl, by decide +kernel, rfl, by decide +kernel, by decide +kernel⟩ rfl rfl (by decide +kernel) (by decide +kernel) ⟨_, _, _, _, rfl⟩
    (fun _ _ _ _ _ _ us ws l1 l2 => match us, ws, l1, l2 with | [_, _], [], _, _ => rfl) (fun _ _ _ _ _ _ us ws l1 l2 => match us, ws, l1, l2 with | [_], [_], _, _ => rfl)
theorem ex1_35 (T : Txt K mg) : Ex1 P w K mg base "TwinStates" (exA K 35) "pair" := by
  obtain ⟨fd, F⟩ := T.says.def_ 62 (d := d_ex35) rfl
  exact ex1_of (i := 35) (st := s_ex35) (by decide) T F ⟨rfl, rfl, rfl, by decide +kernel, rfl, by decide +kernel, by decide +kernel⟩ rfl rfl (by decide +kernel) (by decide +kernel) ⟨_, _, _, _, rfl⟩
    (fun _ _ _ _ _ _ us ws l1 l2 => match us, ws, l1, l2 with | [_, _], [], _, _ => rfl) (fun _ _ _ _ _ _ us ws l1 l2 => match us, ws, l1, l2 with | [_], [_], _, _ => rfl)
theorem ex1_36 (T : Txt K mg) : Ex1 P w K mg base "Unreached" (exA K 36) "state" := by
  obtain ⟨fd, F⟩ := T.says.def_ 63 (d := d_ex36) rfl
  exact ex1_of (i := 36) (st := s_ex36) (by decide) T F ⟨rfl, rfl, rfl, by decide +kernel, rfl, by decide +kernel, by decide +kernel⟩ rfl rfl (by decide +kernel) (by decide +kernel) ⟨_, _, _, _, rfl⟩
    (fun _ _ _ _ _ _ us ws l1 l2 => match us, ws, l1, l2 with | [_, _], [], _, _ => rfl) (fun _ _ _ _ _ _ us ws l1 l2 => match us, ws, l1, l2 with | [_], [_], _, _ => rfl)
theorem ex2_37 (T : Txt K mg) : Ex2 P w K mg base "InvalidLengths" (exA K 37) "low" "high" := by
  obtain ⟨fd, F⟩ := T.says.def_ 64 (d := d_ex37) rfl
  have F' : FunD K "__init__" "InvalidLengths.__init__" (defArgs s_ex37) (defBody s_ex37) (defScope s_ex37) [] [] (He.ma K (exA K 37) "__init__") fd := F
  have F0 := ok_init2 (P := P) (w := w) (mg := mg) (base := base) (f1 := "low") (f2 := "high") F' ⟨rfl, rfl, rfl, by decide +kernel, rfl, by decide +kernel, by decide +kernel⟩ rfl rfl rfl ⟨by decide +kernel, by decide +kernel⟩ ⟨by decide +kernel, by decide +kernel⟩ ⟨_, _, _, _, _, _, _, _, rfl⟩
  obtain ⟨oc, od, dV, kV, doc, pm, an, cdv, ct, osl, rfl, lk, hcd, hD, hK⟩ := F'.ex
  have eD : dV = .none := by
    rcases hD with ⟨_, e⟩ | ⟨e, _⟩
    · exact e
    · exact absurd rfl e
  subst eD
  have p := chk_parts T.says.chk
  have q := p.2.2.2.2.2.2.1
  unfold exLen at q
  simp only [Bool.and_eq_true, decide_eq_true_eq] at q
  exact ⟨T.exg 37 (by decide), (T.exF (by decide)).oex, q.1, q.2, _, _, p.2.2.2.2.2.2.2.1, p.2.2.2.2.2.2.2.2.1, F0,
    kbn_cat (fun us ws l1 l2 => match us, ws, l1, l2 with | [_, _, _], [], _, _ => rfl),
    ⟨fun _ us ws _ l1 l2 => .of_eq (match us, ws, l1, l2 with | [_], [_, _], _, _ => rfl), fun r1 r2 => r1.append (vals_rev r2)⟩,
    kbn_cat (fun us ws l1 l2 => match us, ws, l1, l2 with | [_, _], [_], _, _ => rfl)⟩
theorem ex0 (T : Txt K mg) {i : Nat} (hi : i < 5) : PySem.W.excIn K (exA K (38 + i)) He.veBase "ValueError.__new__" = true := (chk_parts T.says.chk).2.2.2.2.2.2.2.2.2.1 i hi
end
end Kn

set_option Elab.async false
set_option linter.all false
set_option maxRecDepth 100000
set_option maxHeartbeats 4000000
namespace Kn
open PySem PySem.Spec PyProof.Rows L2 L2H Kx
abbrev spBase := Sp
/-- a box of draws: [great, whether it gives its digits, the mixed start, how many were mixed] -/
def BoxAt (H : Hp) (b : Addr) (n : Nat) : Prop := ∃ (g : Int) (big : Bool) (m c : Int), H b = some (.lst [.int g, .bl big, .int m, .int c]) ∧ 0 ≤ g ∧ 0 ≤ m ∧ m < 2147483629 ∧ 0 ≤ c ∧ c ≤ n
def Keep (b : Addr) (H H' : Hp) : Prop := ∀ a o, H a = some o → a ≠ b → H' a = some o
theorem Keep.refl (b : Addr) (H : Hp) : Keep b H H := fun _ _ e _ => e
theorem Keep.trans {b : Addr} {H H1 H2 : Hp} (x : Keep b H H1) (y : Keep b H1 H2) : Keep b H H2 := fun a o e n => y a o (x a o e n) n
theorem Keep.of_same {b : Addr} {H H' : Hp} (s : Same H H') : Keep b H H' := fun a o e _ => s a o e
theorem keep_upd {b : Addr} {H : Hp} {o : HO} : Keep b H (upd H b o) := fun a u e n => by rw [upd_ne n]; exact e
theorem BoxAt.mono {H : Hp} {b : Addr} {n k : Nat} (x : BoxAt H b n) (h : n ≤ k) : BoxAt H b k := by
  obtain ⟨g, big, m, c, e, h1, h2, h3, h4, h5⟩ := x
  exact ⟨g, big, m, c, e, h1, h2, h3, h4, by omega⟩
theorem BoxAt.same {H H' : Hp} {b : Addr} {n : Nat} (x : BoxAt H b n) (s : Same H H') : BoxAt H' b n := by
  obtain ⟨g, big, m, c, e, z⟩ := x
  exact ⟨g, big, m, c, s _ _ e, z⟩
theorem cut1 (ns : List Int) : cutV (ns.map V.int) none (some 1) = (ns.take 1).map V.int := by
  unfold cutV
  cases ns with
  | nil => rfl
  | cons a r =>
    have e1 : HT.sIx (List.map V.int (a :: r)).length 0 none = 0 := rfl
    have e2 : HT.sIx (List.map V.int (a :: r)).length (List.map V.int (a :: r)).length (some 1) = 1 := by
      unfold HT.sIx
      simp
    rw [e1, e2]
    rfl
section
variable {P : Program} {w : World} {K : PySem.W.Frag} {mg : Str → Option Value} {base : Heap}
/-! ### _law_cell -/
def spCellS (K : PySem.W.Frag) : Sp := fun vs H Q _ => ∃ (a : Addr) (ns : List Int) (k : Int), vs = [.ref a, .int k] ∧ SqL K H a (ns.map V.int) ∧ ns.length ≤ 63 ∧ 0 ≤ k ∧ k ≤ 63 ∧ ∀ (v : Int) (H' : Hp), Same H H' → Q (.int v) H'
theorem ok_cell (T : Txt K mg) : CalM none P w K mg base 1 "_law_cell" (spCellS K) := by
  obtain ⟨fd, F⟩ := T.fn_ 8 "_law_cell" s_law_cell
  refine calM F (T.g "_law_cell") (F.bindsN (ps := ["script", "k"]) fun _ _ _ _ _ _ us hl => match us, hl with | [_, _], _ => rfl) sc_law_cell (fun vs H Q E h => ?_) (fun cdv A outer s H vs Q E hr mo h => ?_)
  · obtain ⟨a, ns, k, rfl, _⟩ := h
    rfl
  · obtain ⟨a, ns, k, rfl, hS, hl, h0, h1, kq⟩ := h
    refine ⟨_, (pss_one (ps_ret (pe_ifExp (pt_cmpR op_lt (pv 1) (pe_callB (cLenSeq K rfl) (by rfl) (T.free "len") (by decide +kernel) (pa_cons (pv 0) pa_nil)) (nomark _)) (pe_ix (ixL K rfl) (pv 0) (pv 1) (fun _ _ => rfl)) (pe_op op_add (pe_op op_mulW (pe_int) (pv 1)) (pe_op op_mod (pe_callTy call_int1 (by rfl) (T.free "int") (by decide +kernel) (pa_cons (pe_callB (cSum K rfl rfl) (by rfl) (T.free "sum") (by decide +kernel) (pa_cons (pe_slice (slL K rfl) (pv 0) po_none (po_some (pe_int))) pa_nil)) pa_nil)) (pe_int)))))), ?_⟩
    refine ⟨_, rfl, _, rfl, a, _, rfl, .inl hS, _, _, rfl, rfl, _, rfl, ?_⟩
    rw [List.length_map]
    refine ite2 (fun hk => ?_) (fun hk => ?_)
    · have hk' : k < ns.length := of_decide_eq_true hk
      obtain ⟨j, rfl⟩ := Int.eq_ofNat_of_zero_le h0
      have hj : j < ns.length := by omega
      refine ⟨_, rfl, _, rfl, a, _, _, .int ns[j], rfl, rfl, hS, atI_nat ?_, kq _ _ (Same.refl H)⟩
      rw [List.getElem?_map, List.getElem?_eq_getElem hj]
      rfl
    · have m1 : CMulW 6007 k := wide_mul (a := 13) (b := 6) (by decide) (by omega) (by decide) (by decide) (by decide)
      refine ⟨_, rfl, _, _, rfl, rfl, m1, _, rfl, _, rfl, a, _, rfl, hS, fun p hp => ?_⟩
      rw [cut1]
      refine ⟨p, ns.take 1, rfl, .inl (Rd.of upd_same), .inl ⟨_, rfl, _, _, rfl, rfl, (by show (0 : Int) < 1000033; decide), _, _, rfl, rfl, kq _ _ (same_new hp)⟩⟩
/-! ### _law_box -/
def spBox : Sp := fun vs H Q _ => ∃ (g : Int), vs = [.int g] ∧ ∀ (p : Addr) (H' : Hp), H p = none → Same H H' → BoxAt H' p 0 → Q (.ref p) H'
theorem ok_box (T : Txt K mg) : CalM none P w K mg base 1 "_law_box" spBox := by
  obtain ⟨fd, F⟩ := T.fn_ 9 "_law_box" s_law_box
  refine calM F (T.g "_law_box") (F.bindsN (ps := ["great"]) fun _ _ _ _ _ _ us hl => match us, hl with | [_], _ => rfl) sc_law_box (fun vs H Q E h => ?_) (fun cdv A outer s H vs Q E hr mo h => ?_)
  · obtain ⟨g, rfl, _⟩ := h
    rfl
  · obtain ⟨g, rfl, kq⟩ := h
    refine ⟨_, (pss_one (ps_ret (pe_lst (pa_cons (pe_callB call_abs (by rfl) (T.free "abs") (by decide +kernel) (pa_cons (pv 0) pa_nil)) (pa_cons (pe_cmpR op_ge (pe_callB call_abs (by rfl) (T.free "abs") (by decide +kernel) (pa_cons (pv 0) pa_nil)) (pe_op op_pow (pe_int) (pe_int)) (nomark _)) (pa_cons (pe_op op_mod (pe_callTy call_int1 (by rfl) (T.free "int") (by decide +kernel) (pa_cons (pe_callB call_abs (by rfl) (T.free "abs") (by decide +kernel) (pa_cons (pv 0) pa_nil)) pa_nil)) (pe_int)) (pa_cons (pe_int) pa_nil))))))), ?_⟩
    have ha : 0 ≤ (if g < 0 then -g else g) := by split <;> omega
    refine ⟨_, rfl, g, rfl, _, rfl, g, rfl, _, _, rfl, rfl, ⟨by decide, by decide, by decide⟩, _, _, rfl, rfl, _, rfl, g, rfl, .inl ⟨_, rfl, _, _, rfl, rfl, (by show (0 : Int) < 2147483629; decide), (by show 4 ≤ sizeLine; decide), fun p hp => ?_⟩⟩
    refine kq p _ hp (same_new hp) ⟨_, _, _, 0, upd_same, ha, Int.emod_nonneg _ (by decide), Int.emod_lt_of_pos _ (by decide), by decide, by decide⟩
/-! ### _law_take -/
def spTake : Sp := fun vs H Q _ => ∃ (b : Addr) (many : Int) (n : Nat), vs = [.ref b, .int many] ∧ 1 ≤ many ∧ many ≤ 1000000000 ∧ BoxAt H b n ∧ n ≤ 1000000 ∧ ∀ (d : Int) (o : HO), 0 ≤ d → d < many → BoxAt (upd H b o) b (n + 1) → Q (.int d) (upd H b o)
theorem ok_take (T : Txt K mg) : CalM none P w K mg base 1 "_law_take" spTake := by
  obtain ⟨fd, F⟩ := T.fn_ 10 "_law_take" s_law_take
  refine calM F (T.g "_law_take") (F.bindsN (ps := ["box", "many"]) fun _ _ _ _ _ _ us hl => match us, hl with | [_, _], _ => rfl) sc_law_take (fun vs H Q E h => ?_) (fun cdv A outer s H vs Q E hr mo h => ?_)
  · obtain ⟨b, many, n, rfl, _⟩ := h
    rfl
  · obtain ⟨b, many, n, rfl, m1, m2, ⟨g, big, m, c, hb, g0, h0, h3, c0, c1⟩, hn, kq⟩ := h
    refine ⟨_, (pss_cons (ps_if (PW.pt (pw_and (pt_val (pe_ix ix_list (pv 0) (pe_int) (fun _ _ => rfl))) (pw_and1 (pt_cmpR op_gt (pe_ix (ixL K rfl) (pv 0) (pe_int) (fun _ _ => rfl)) (pe_int) (nomark _))))) (pss_cons (ps_set (i := 3) sc_law_take.nd rfl (Or.inl rfl) (pe_op op_mod (pe_callTy call_int1 (by rfl) (T.free "int") (by decide +kernel) (pa_cons (pe_ix (ixL K rfl) (pv 0) (pe_int) (fun _ _ => rfl)) pa_nil)) (pv 1)))
        (pss_cons (ps_asg (pe_op op_fdivW (pe_ix (ixL K rfl) (pv 0) (pe_int) (fun _ _ => rfl)) (pv 1)) (pg_sub (pv 0) (pe_int) set_list))
        (pss_one (ps_ret (pv 3))))) pss_nil)
      (pss_cons (ps_asg (pe_op op_add (pe_ix (ixL K rfl) (pv 0) (pe_int) (fun _ _ => rfl)) (pe_int)) (pg_sub (pv 0) (pe_int) set_list))
      (pss_cons (ps_set (i := 2) sc_law_take.nd rfl (Or.inl rfl) (pe_op op_mod (pe_callTy call_int1 (by rfl) (T.free "int") (by decide +kernel) (pa_cons (pe_op op_pow (pe_op op_add (pe_op op_add (pe_ix (ixL K rfl) (pv 0) (pe_int) (fun _ _ => rfl)) (pe_op op_mulW (pe_int) (pe_ix (ixL K rfl) (pv 0) (pe_int) (fun _ _ => rfl)))) (pe_int)) (pe_int)) pa_nil)) (pe_int)))
      (pss_one (ps_ret (pe_op op_mod (pe_callTy call_int1 (by rfl) (T.free "int") (by decide +kernel) (pa_cons (pe_op op_fdivW (pe_op op_mod (pe_callTy call_int1 (by rfl) (T.free "int") (by decide +kernel) (pa_cons (pe_op op_pow (pe_op op_add (pe_op op_mulW (pv 2) (pe_int)) (pe_op op_mulW (pe_int) (pe_ix (ixL K rfl) (pv 0) (pe_int) (fun _ _ => rfl)))) (pe_int)) pa_nil)) (pe_int)) (pe_int)) pa_nil)) (pv 1))))))), ?_⟩
    have hS : SqL K H b [.int g, .bl big, .int m, .int c] := .inl (Rd.of hb)
    refine ⟨_, rfl, b, _, _, .bl big, rfl, rfl, hS, atI_nat (j := 1) rfl, _, rfl, ?_⟩
    have dv : CDivW g many := wide_div (b := 30) (by omega) (by omega) (by decide) (by decide)
    rcases Bool.eq_false_or_eq_true big with rfl | rfl
    · refine iteT ?_
      refine ⟨_, rfl, b, _, _, .int g, rfl, rfl, hS, atI_nat (j := 0) rfl, _, _, rfl, rfl, _, rfl, ?_⟩
      refine ite2 (fun hg => ?_) (fun hg => ?_)
      · have hg' : 0 < g := of_decide_eq_true hg
        refine ⟨_, rfl, b, _, _, .int g, rfl, rfl, hS, atI_nat (j := 0) rfl, .inl ⟨_, rfl, _, rfl, _, _, rfl, rfl, m1, ?_⟩⟩
        refine ⟨_, rfl, b, _, _, .int g, rfl, rfl, hS, atI_nat (j := 0) rfl, _, rfl, _, _, rfl, rfl, dv, ?_⟩
        refine ⟨_, rfl, b, _, 0, 0, rfl, rfl, hb, rfl, ?_⟩
        refine ⟨_, rfl, kq _ _ (Int.emod_nonneg _ (by omega)) (Int.emod_lt_of_pos _ (by omega)) ⟨_, _, _, _, upd_same, Int.ediv_nonneg g0 (by omega), h0, h3, c0, by omega⟩⟩
      · have hS1 : SqL K (upd H b (.lst [.int g, .bl true, .int m, .int (c + 1)])) b [.int g, .bl true, .int m, .int (c + 1)] := .inl (Rd.of upd_same)
        refine ⟨_, rfl, b, _, _, .int c, rfl, rfl, hS, atI_nat (j := 3) rfl, _, _, rfl, rfl, _, rfl, b, _, 3, 3, rfl, rfl, hb, rfl, ?_⟩
        refine ⟨_, rfl, b, _, _, .int m, rfl, rfl, hS1, atI_nat (j := 2) rfl, _, rfl, b, _, _, .int (c + 1), rfl, rfl, hS1, atI_nat (j := 3) rfl, _, _, rfl, rfl, wide_mul (a := 24) (b := 21) (by decide) (by omega) (by decide) (by decide) (by decide), _, _, rfl, rfl, _, _, rfl, rfl, _, _, rfl, rfl, ⟨by decide, by decide, by omega⟩, .inl ⟨_, rfl, _, _, rfl, rfl, (by show (0 : Int) < 2147483647; decide), ?_⟩⟩
        generalize hx : ((m + 15485863 * (c + 1) + 179424673) ^ (5 : Int).toNat) % 2147483647 = x
        have x0 : 0 ≤ x := by rw [← hx]; exact Int.emod_nonneg _ (by decide)
        have x1 : x < 2147483647 := by rw [← hx]; exact Int.emod_lt_of_pos _ (by decide)
        have d64 : CDivW ((x * 48271 + 104729 * (c + 1)) ^ (3 : Int).toNat % 2147483587) 64 := wide_div (b := 7) (by decide) (by decide) (by decide) (by decide)
        refine ⟨_, rfl, _, _, rfl, rfl, wide_mul (a := 31) (b := 16) (by omega) (by decide) (by decide) (by decide) (by decide), _, rfl, b, _, _, .int (c + 1), rfl, rfl, hS1, atI_nat (j := 3) rfl, _, _, rfl, rfl, wide_mul (a := 17) (b := 21) (by decide) (by omega) (by decide) (by decide) (by decide), _, _, rfl, rfl, _, _, rfl, rfl, ⟨by decide, by decide, by omega⟩, .inl ⟨_, rfl, _, _, rfl, rfl, (by show (0 : Int) < 2147483587; decide), _, _, rfl, rfl, d64, .inl ⟨_, rfl, _, rfl, _, _, rfl, rfl, m1, ?_⟩⟩⟩
        exact kq _ _ (Int.emod_nonneg _ (by omega)) (Int.emod_lt_of_pos _ (by omega)) ⟨_, _, _, _, upd_same, g0, h0, h3, by omega, by omega⟩
    · refine iteF ?_
      have hS1 : SqL K (upd H b (.lst [.int g, .bl false, .int m, .int (c + 1)])) b [.int g, .bl false, .int m, .int (c + 1)] := .inl (Rd.of upd_same)
      refine ⟨_, rfl, b, _, _, .int c, rfl, rfl, hS, atI_nat (j := 3) rfl, _, _, rfl, rfl, _, rfl, b, _, 3, 3, rfl, rfl, hb, rfl, ?_⟩
      refine ⟨_, rfl, b, _, _, .int m, rfl, rfl, hS1, atI_nat (j := 2) rfl, _, rfl, b, _, _, .int (c + 1), rfl, rfl, hS1, atI_nat (j := 3) rfl, _, _, rfl, rfl, wide_mul (a := 24) (b := 21) (by decide) (by omega) (by decide) (by decide) (by decide), _, _, rfl, rfl, _, _, rfl, rfl, _, _, rfl, rfl, ⟨by decide, by decide, by omega⟩, .inl ⟨_, rfl, _, _, rfl, rfl, (by show (0 : Int) < 2147483647; decide), ?_⟩⟩
      generalize hx : ((m + 15485863 * (c + 1) + 179424673) ^ (5 : Int).toNat) % 2147483647 = x
      have x0 : 0 ≤ x := by rw [← hx]; exact Int.emod_nonneg _ (by decide)
      have x1 : x < 2147483647 := by rw [← hx]; exact Int.emod_lt_of_pos _ (by decide)
      have d64 : CDivW ((x * 48271 + 104729 * (c + 1)) ^ (3 : Int).toNat % 2147483587) 64 := wide_div (b := 7) (by decide) (by decide) (by decide) (by decide)
      refine ⟨_, rfl, _, _, rfl, rfl, wide_mul (a := 31) (b := 16) (by omega) (by decide) (by decide) (by decide) (by decide), _, rfl, b, _, _, .int (c + 1), rfl, rfl, hS1, atI_nat (j := 3) rfl, _, _, rfl, rfl, wide_mul (a := 17) (b := 21) (by decide) (by omega) (by decide) (by decide) (by decide), _, _, rfl, rfl, _, _, rfl, rfl, ⟨by decide, by decide, by omega⟩, .inl ⟨_, rfl, _, _, rfl, rfl, (by show (0 : Int) < 2147483587; decide), _, _, rfl, rfl, d64, .inl ⟨_, rfl, _, rfl, _, _, rfl, rfl, m1, ?_⟩⟩⟩
      exact kq _ _ (Int.emod_nonneg _ (by omega)) (Int.emod_lt_of_pos _ (by omega)) ⟨_, _, _, _, upd_same, g0, h0, h3, by omega, by omega⟩
end
end Kn

set_option Elab.async false
set_option linter.all false
set_option maxRecDepth 100000
set_option maxHeartbeats 4000000
namespace Kn
open PySem PySem.Spec PyProof.Rows L2 L2H Kx
def exFs (i : Nat) (one other : V) : List (Str × V) := if i = 37 then [("high", other), ("low", one)] else [(exAttr i, one)]
/-- at a: an error of the class with the number i, of these values -/
def ExAt (pn : List (Addr × Obj)) (K : PySem.W.Frag) (H : Hp) (a : Addr) (i : Nat) (one other : V) : Prop :=
  (i < 38 ∧ ∃ d, EV pn H a (exA K i) (some d) ∧ H d = some (.xd (exFs i one other))) ∨ (38 ≤ i ∧ i < 43 ∧ EV pn H a (exA K i) none)
theorem EV.same {pn : List (Addr × Obj)} {H H' : Hp} {a C : Addr} {d : Option Addr} (e : EV pn H a C d) (s : Same H H') : EV pn H' a C d := e.elim (fun h => .inl (s _ _ h)) .inr
theorem ExAt.same {pn : List (Addr × Obj)} {K : PySem.W.Frag} {H H' : Hp} {a : Addr} {i : Nat} {one other : V} (x : ExAt pn K H a i one other) (s : Same H H') : ExAt pn K H' a i one other := by
  rcases x with ⟨h, d, e, f⟩ | ⟨h, h2, e⟩
  · exact .inl ⟨h, d, EV.same e s, s _ _ f⟩
  · exact .inr ⟨h, h2, EV.same e s⟩
theorem ExAt.lt {pn : List (Addr × Obj)} {K : PySem.W.Frag} {H : Hp} {a : Addr} {i : Nat} {one other : V} (x : ExAt pn K H a i one other) : i < 43 := by
  rcases x with ⟨h, _⟩ | ⟨_, h, _⟩ <;> omega
def Exs (K : PySem.W.Frag) (H : Hp) (as : List Addr) (is : List Nat) (one other : V) : Prop := as.length = is.length ∧ ∀ (j i : Nat) (a : Addr), is[j]? = some i → as[j]? = some a → ExAt [] K H a i one other
theorem Exs.same {K : PySem.W.Frag} {H H' : Hp} {as : List Addr} {is : List Nat} {one other : V} (x : Exs K H as is one other) (s : Same H H') : Exs K H' as is one other := ⟨x.1, fun j i a h1 h2 => (x.2 j i a h1 h2).same s⟩
theorem Exs.append {K : PySem.W.Frag} {H : Hp} {as bs : List Addr} {is js : List Nat} {one other : V} (x : Exs K H as is one other) (y : Exs K H bs js one other) : Exs K H (as ++ bs) (is ++ js) one other := by
  refine ⟨by rw [List.length_append, List.length_append, x.1, y.1], fun j i a h1 h2 => ?_⟩
  by_cases h : j < is.length
  · rw [List.getElem?_append_left h] at h1
    rw [List.getElem?_append_left (by rw [x.1]; exact h)] at h2
    exact x.2 j i a h1 h2
  · rw [List.getElem?_append_right (by omega)] at h1
    rw [List.getElem?_append_right (by rw [x.1]; omega), x.1] at h2
    exact y.2 _ i a h1 h2
theorem same_made {H H' : Hp} {a C d : Addr} {fs : List (Str × V)} (s : Same H H') (ha : H' a = none) (hd : H' d = none) : Same H (made H' a C d fs) := fun b o e => by
  have e' := s b o e
  unfold made
  rw [upd_ne (ne_of_none e' ha), upd_ne (ne_of_none e' hd)]
  exact e'
theorem exAt_made {K : PySem.W.Frag} {H : Hp} {a d : Addr} {i : Nat} {one other : V} (hi : i < 38) (hne : d ≠ a) : ExAt [] K (made H a (exA K i) d (exFs i one other)) a i one other :=
  .inl ⟨hi, d, .inl (by unfold made; rw [upd_same]), by unfold made; rw [upd_ne hne, upd_same]⟩
/-- arguments each of which makes an error -/
inductive ExArgs (K : PySem.W.Frag) : List Nat → TA → Prop
  | nil : ExArgs K [] tNil
  | pos {i : Nat} {is : List Nat} {t : TA} (hi : i < 37) (oex : OexC K (exA K i)) (no : PySem.W.findIn K (.ref (exA K i)) (exAttr i) = some none) (r : ExArgs K is t) : ExArgs K (i :: is) (tCons (tMkX (exA K i) 1 0 (spI1 K (exAttr i)) (fun vs zs => vs ++ zs) (tCons (tVar 0) tNil) tNil) t)
  | key {i : Nat} {is : List Nat} {t : TA} (hi : i < 37) (oex : OexC K (exA K i)) (no : PySem.W.findIn K (.ref (exA K i)) (exAttr i) = some none) (r : ExArgs K is t) : ExArgs K (i :: is) (tCons (tMkX (exA K i) 0 1 (spI1 K (exAttr i)) (fun vs zs => vs ++ zs) tNil (tCons (tVar 0) tNil)) t)
  | pos2 {is : List Nat} {t : TA} (oex : OexC K (exA K 37)) (n1 : PySem.W.findIn K (.ref (exA K 37)) "low" = some none) (n2 : PySem.W.findIn K (.ref (exA K 37)) "high" = some none) (r : ExArgs K is t) : ExArgs K (37 :: is) (tCons (tMkX (exA K 37) 2 0 (spI2 K "low" "high") (fun vs zs => vs ++ zs) (tCons (tVar 0) (tCons (tVar 1) tNil)) tNil) t)
  | key2 {is : List Nat} {t : TA} (oex : OexC K (exA K 37)) (n1 : PySem.W.findIn K (.ref (exA K 37)) "low" = some none) (n2 : PySem.W.findIn K (.ref (exA K 37)) "high" = some none) (r : ExArgs K is t) : ExArgs K (37 :: is) (tCons (tMkX (exA K 37) 0 2 (spI2 K "low" "high") (fun vs zs => vs ++ zs.reverse) tNil (tCons (tVar 1) (tCons (tVar 0) tNil))) t)
  | zero {i : Nat} {is : List Nat} {t : TA} (hi : 38 ≤ i) (hi2 : i < 43) (r : ExArgs K is t) : ExArgs K (i :: is) (tCons (fun _ H Q => ∀ a, H a = none → Q (.ref a) (upd H a (exv a (exA K i) none))) t)
theorem ExArgs.run {X : Cx} {is : List Nat} {t : TA} (x : ExArgs X.K is t) {σ : St} {one other : V} (h0 : σ[0]? = some (some one)) (h1 : σ[1]? = some (some other)) : ∀ {H : Hp} {Q : List V → Hp → Prop}, (∀ (as : List Addr) (H' : Hp), Same H H' → Exs X.K H' as is one other → Q (as.map V.ref) H') → t σ H Q := by
  induction x with
  | nil => exact fun q => q [] _ (Same.refl _) ⟨rfl, fun j i a h => by simp at h⟩
  | @pos i is t hi oex no r ih =>
    intro H Q q
    refine ⟨_, h0, ?_⟩
    dsimp only [tNil, tCons, tMkX]
    refine mk1 (X := X) (v := one) (vs := [one]) (zs := []) oex no rfl rfl rfl (by decide) fun a d ha hd hne => ?_
    refine ih fun as H' s e => q (a :: as) H' ((same_made (Same.refl H) ha hd).trans s) ?_
    have e1 : exFs i one other = [(exAttr i, one)] := if_neg (by omega)
    have z : Exs X.K H' [a] [i] one other := ⟨rfl, fun j i' a' g1 g2 => by
      cases j with
      | zero =>
        cases g1
        cases g2
        exact (e1 ▸ exAt_made (by omega) hne : ExAt [] X.K (made H a (exA X.K i) d [(exAttr i, one)]) a i one other).same s
      | succ j => simp at g1⟩
    exact z.append e
  | @key i is t hi oex no r ih =>
    intro H Q q
    refine ⟨_, h0, ?_⟩
    dsimp only [tNil, tCons, tMkX]
    refine mk1 (X := X) (v := one) (vs := []) (zs := [one]) oex no rfl rfl rfl (by decide) fun a d ha hd hne => ?_
    refine ih fun as H' s e => q (a :: as) H' ((same_made (Same.refl H) ha hd).trans s) ?_
    have e1 : exFs i one other = [(exAttr i, one)] := if_neg (by omega)
    have z : Exs X.K H' [a] [i] one other := ⟨rfl, fun j i' a' g1 g2 => by
      cases j with
      | zero =>
        cases g1
        cases g2
        exact (e1 ▸ exAt_made (by omega) hne : ExAt [] X.K (made H a (exA X.K i) d [(exAttr i, one)]) a i one other).same s
      | succ j => simp at g1⟩
    exact z.append e
  | @pos2 is t oex n1 n2 r ih =>
    intro H Q q
    refine ⟨_, h0, _, h1, ?_⟩
    dsimp only [tNil, tCons, tMkX]
    refine mk2 (X := X) (vs := [one, other]) (zs := []) oex n1 n2 (fun _ => rfl) rfl rfl (by decide) fun a d ha hd hne => ?_
    refine ih fun as H' s e => q (a :: as) H' ((same_made (Same.refl H) ha hd).trans s) ?_
    have z : Exs X.K H' [a] [37] one other := ⟨rfl, fun j i' a' g1 g2 => by
      cases j with
      | zero =>
        cases g1
        cases g2
        exact (exAt_made (i := 37) (by omega) hne : ExAt [] X.K (made H a (exA X.K 37) d (exFs 37 one other)) a 37 one other).same s
      | succ j => simp at g1⟩
    exact z.append e
  | @key2 is t oex n1 n2 r ih =>
    intro H Q q
    refine ⟨_, h1, _, h0, ?_⟩
    dsimp only [tNil, tCons, tMkX]
    refine mk2 (X := X) (vs := []) (zs := [other, one]) oex n1 n2 (fun _ => rfl) rfl rfl (by decide) fun a d ha hd hne => ?_
    refine ih fun as H' s e => q (a :: as) H' ((same_made (Same.refl H) ha hd).trans s) ?_
    have z : Exs X.K H' [a] [37] one other := ⟨rfl, fun j i' a' g1 g2 => by
      cases j with
      | zero =>
        cases g1
        cases g2
        exact (exAt_made (i := 37) (by omega) hne : ExAt [] X.K (made H a (exA X.K 37) d (exFs 37 one other)) a 37 one other).same s
      | succ j => simp at g1⟩
    exact z.append e
  | @zero i is t hi hi2 r ih =>
    intro H Q q a ha
    refine ih fun as H' s e => q (a :: as) H' ((same_new ha).trans s) ?_
    have z : Exs X.K H' [a] [i] one other := ⟨rfl, fun j i' a' g1 g2 => by
      cases j with
      | zero =>
        cases g1
        cases g2
        exact .inr ⟨hi, hi2, .inl (s _ _ upd_same)⟩
      | succ j => simp at g1⟩
    exact z.append e
/-- found = found + [errors] -/
theorem grow_step {X : Cx} {js : List Nat} {t : TA} (x : ExArgs X.K js t) {D : Ends} {one other : V} {p : Addr} {as : List Addr} {is : List Nat} {H : Hp} (hp : H p = some (.lst (as.map V.ref))) (e : Exs X.K H as is one other) (hl : is.length + js.length ≤ 43)
    (k : ∀ (q : Addr) (bs : List Addr) (H' : Hp), Same H H' → H' q = some (.lst (bs.map V.ref)) → H q = none → Exs X.K H' bs (is ++ js) one other → D.nx [some one, some other, some (.ref q)] H') :
    tAsg (tOp rCat (tVar 2) (tLst t)) (gName 2) D [some one, some other, some (.ref p)] H := by
  refine ⟨_, rfl, x.run rfl rfl fun cs H1 s1 e1 => ⟨?_, fun r hr => ?_⟩⟩
  · rw [List.length_map, e1.1]
    exact Nat.le_trans (show js.length ≤ 43 by omega) (by decide)
  have hp1 : upd H1 r (.lst (cs.map V.ref)) p = some (.lst (as.map V.ref)) := same_upd s1 (by
    cases hz : H r with
    | none => rfl
    | some o => rw [s1 r o hz] at hr; cases hr) p _ hp
  refine ⟨p, r, _, _, rfl, rfl, hp1, upd_same, ?_, fun q hq => ?_⟩
  · rw [List.length_map, List.length_map, e1.1, e.1]
    exact Nat.le_trans hl (by decide)
  have sr : Same H1 (upd H1 r (.lst (cs.map V.ref))) := same_new hr
  have sq := same_new (o := .lst (as.map V.ref ++ cs.map V.ref)) hq
  rw [← List.map_append] at sq ⊢
  refine k q (as ++ cs) _ ((s1.trans sr).trans sq) upd_same ?_ ?_
  · exact (s1.trans sr).free hq
  · exact (e.same ((s1.trans sr).trans sq)).append (e1.same (sr.trans sq))
theorem grow_start {X : Cx} {js : List Nat} {t : TA} (x : ExArgs X.K js t) {D : Ends} {one other : V} {u : Option V} {H : Hp} (hl : js.length ≤ 43)
    (k : ∀ (q : Addr) (bs : List Addr) (H' : Hp), Same H H' → H' q = some (.lst (bs.map V.ref)) → H q = none → Exs X.K H' bs js one other → D.nx [some one, some other, some (.ref q)] H') :
    tAsg (tLst t) (gName 2) D [some one, some other, u] H := by
  refine x.run rfl rfl fun cs H1 s1 e1 => ⟨?_, fun r hr => ?_⟩
  · rw [List.length_map, e1.1]
    exact Nat.le_trans hl (by decide)
  exact k r cs _ (s1.trans (same_new hr)) upd_same (s1.free hr) (e1.same (same_new hr))
theorem grow_ret {X : Cx} {js : List Nat} {t : TA} (x : ExArgs X.K js t) {D : Ends} {one other : V} {p : Addr} {as : List Addr} {is : List Nat} {H : Hp} (hp : H p = some (.lst (as.map V.ref))) (e : Exs X.K H as is one other) (hl : is.length + js.length ≤ 43)
    (k : ∀ (q : Addr) (bs : List Addr) (H' : Hp), Same H H' → H' q = some (.lst (bs.map V.ref)) → H q = none → Exs X.K H' bs (is ++ js) one other → D.rt (.ref q) H') :
    tRet (tOp rCat (tVar 2) (tLst t)) D [some one, some other, some (.ref p)] H := by
  refine ⟨_, rfl, x.run rfl rfl fun cs H1 s1 e1 => ⟨?_, fun r hr => ?_⟩⟩
  · rw [List.length_map, e1.1]
    exact Nat.le_trans (show js.length ≤ 43 by omega) (by decide)
  have hp1 : upd H1 r (.lst (cs.map V.ref)) p = some (.lst (as.map V.ref)) := same_upd s1 (s1.free hr) p _ hp
  refine ⟨p, r, _, _, rfl, rfl, hp1, upd_same, ?_, fun q hq => ?_⟩
  · rw [List.length_map, List.length_map, e1.1, e.1]
    exact Nat.le_trans hl (by decide)
  have sr : Same H1 (upd H1 r (.lst (cs.map V.ref))) := same_new hr
  have sq := same_new (o := .lst (as.map V.ref ++ cs.map V.ref)) hq
  rw [← List.map_append] at sq ⊢
  exact k q (as ++ cs) _ ((s1.trans sr).trans sq) upd_same ((s1.trans sr).free hq) ((e.same ((s1.trans sr).trans sq)).append (e1.same (sr.trans sq)))
section
variable {P : Program} {w : World} {K : PySem.W.Frag} {mg : Str → Option Value} {base : Heap}
/-- one of the lists of all errors -/
def spErrs (K : PySem.W.Frag) : Sp := fun vs H Q _ => ∃ (one other : V), vs = [one, other] ∧ ∀ (p : Addr) (as : List Addr) (H' : Hp), Same H H' → H p = none → H' p = some (.lst (as.map V.ref)) → Exs K H' as (List.range 43) one other → Q (.ref p) H'
theorem ok_placed (T : Txt K mg) : CalM none P w K mg base 3 "_law_placed" (spErrs K) := by
  obtain ⟨fd, F⟩ := T.fn_ 12 "_law_placed" s_law_placed
  refine calM F (T.g "_law_placed") (F.bindsN (ps := ["one", "other"]) fun _ _ _ _ _ _ us hl => match us, hl with | [_, _], _ => rfl) sc_law_placed (fun vs H Q E h => ?_) (fun cdv A outer s H vs Q E hr mo h => ?_)
  · obtain ⟨a, b, rfl, _⟩ := h
    rfl
  · obtain ⟨one, other, rfl, kq⟩ := h
    have ix : ∀ {i : Nat}, i < 37 → OexC K (exA K i) ∧ PySem.W.findIn K (.ref (exA K i)) (exAttr i) = some none := fun hi => ⟨(T.exF (by omega)).oex, (init_facts T hi).2.2⟩
    refine ⟨_, (pss_cons (ps_set (i := 2) sc_law_placed.nd rfl (Or.inl rfl) (pe_lst (pa_cons (pe_x1 (ex1_0 T) (hr.mono (by decide)).room rfl (pv 0)) (pa_cons (pe_x1 (ex1_1 T) (hr.mono (by decide)).room rfl (pv 0)) (pa_cons (pe_x1 (ex1_2 T) (hr.mono (by decide)).room rfl (pv 0)) (pa_cons (pe_x1 (ex1_3 T) (hr.mono (by decide)).room rfl (pv 0)) pa_nil))))))
      (pss_cons (ps_set (i := 2) sc_law_placed.nd rfl (Or.inl rfl) (pe_op op_cat (pv 2) (pe_lst (pa_cons (pe_x1 (ex1_4 T) (hr.mono (by decide)).room rfl (pv 0)) (pa_cons (pe_x1 (ex1_5 T) (hr.mono (by decide)).room rfl (pv 0)) (pa_cons (pe_x1 (ex1_6 T) (hr.mono (by decide)).room rfl (pv 0)) (pa_cons (pe_x1 (ex1_7 T) (hr.mono (by decide)).room rfl (pv 0)) pa_nil)))))))
      (pss_cons (ps_set (i := 2) sc_law_placed.nd rfl (Or.inl rfl) (pe_op op_cat (pv 2) (pe_lst (pa_cons (pe_x1 (ex1_8 T) (hr.mono (by decide)).room rfl (pv 0)) (pa_cons (pe_x1 (ex1_9 T) (hr.mono (by decide)).room rfl (pv 0)) (pa_cons (pe_x1 (ex1_10 T) (hr.mono (by decide)).room rfl (pv 0)) (pa_cons (pe_x1 (ex1_11 T) (hr.mono (by decide)).room rfl (pv 0)) pa_nil)))))))
      (pss_cons (ps_set (i := 2) sc_law_placed.nd rfl (Or.inl rfl) (pe_op op_cat (pv 2) (pe_lst (pa_cons (pe_x1 (ex1_12 T) (hr.mono (by decide)).room rfl (pv 0)) (pa_cons (pe_x1 (ex1_13 T) (hr.mono (by decide)).room rfl (pv 0)) (pa_cons (pe_x1 (ex1_14 T) (hr.mono (by decide)).room rfl (pv 0)) (pa_cons (pe_x1 (ex1_15 T) (hr.mono (by decide)).room rfl (pv 0)) pa_nil)))))))
      (pss_cons (ps_set (i := 2) sc_law_placed.nd rfl (Or.inl rfl) (pe_op op_cat (pv 2) (pe_lst (pa_cons (pe_x1 (ex1_16 T) (hr.mono (by decide)).room rfl (pv 0)) (pa_cons (pe_x1 (ex1_17 T) (hr.mono (by decide)).room rfl (pv 0)) (pa_cons (pe_x1 (ex1_18 T) (hr.mono (by decide)).room rfl (pv 0)) (pa_cons (pe_x1 (ex1_19 T) (hr.mono (by decide)).room rfl (pv 0)) pa_nil)))))))
      (pss_cons (ps_set (i := 2) sc_law_placed.nd rfl (Or.inl rfl) (pe_op op_cat (pv 2) (pe_lst (pa_cons (pe_x1 (ex1_20 T) (hr.mono (by decide)).room rfl (pv 0)) (pa_cons (pe_x1 (ex1_21 T) (hr.mono (by decide)).room rfl (pv 0)) (pa_cons (pe_x1 (ex1_22 T) (hr.mono (by decide)).room rfl (pv 0)) (pa_cons (pe_x1 (ex1_23 T) (hr.mono (by decide)).room rfl (pv 0)) pa_nil)))))))
      (pss_cons (ps_set (i := 2) sc_law_placed.nd rfl (Or.inl rfl) (pe_op op_cat (pv 2) (pe_lst (pa_cons (pe_x1 (ex1_24 T) (hr.mono (by decide)).room rfl (pv 0)) (pa_cons (pe_x1 (ex1_25 T) (hr.mono (by decide)).room rfl (pv 0)) (pa_cons (pe_x1 (ex1_26 T) (hr.mono (by decide)).room rfl (pv 0)) (pa_cons (pe_x1 (ex1_27 T) (hr.mono (by decide)).room rfl (pv 0)) pa_nil)))))))
      (pss_cons (ps_set (i := 2) sc_law_placed.nd rfl (Or.inl rfl) (pe_op op_cat (pv 2) (pe_lst (pa_cons (pe_x1 (ex1_28 T) (hr.mono (by decide)).room rfl (pv 0)) (pa_cons (pe_x1 (ex1_29 T) (hr.mono (by decide)).room rfl (pv 0)) (pa_cons (pe_x1 (ex1_30 T) (hr.mono (by decide)).room rfl (pv 0)) (pa_cons (pe_x1 (ex1_31 T) (hr.mono (by decide)).room rfl (pv 0)) (pa_cons (pe_x1 (ex1_32 T) (hr.mono (by decide)).room rfl (pv 0)) pa_nil))))))))
      (pss_cons (ps_set (i := 2) sc_law_placed.nd rfl (Or.inl rfl) (pe_op op_cat (pv 2) (pe_lst (pa_cons (pe_x1 (ex1_33 T) (hr.mono (by decide)).room rfl (pv 0)) (pa_cons (pe_x1 (ex1_34 T) (hr.mono (by decide)).room rfl (pv 0)) (pa_cons (pe_x1 (ex1_35 T) (hr.mono (by decide)).room rfl (pv 0)) (pa_cons (pe_x1 (ex1_36 T) (hr.mono (by decide)).room rfl (pv 0)) pa_nil)))))))
      (pss_cons (ps_set (i := 2) sc_law_placed.nd rfl (Or.inl rfl) (pe_op op_cat (pv 2) (pe_lst (pa_cons (pe_x2 (ex2_37 T) (hr.mono (by decide)).room rfl (pv 0) (pv 1)) pa_nil))))
      (pss_one (ps_ret (pe_op op_cat (pv 2) (pe_lst (pa_cons (pe_mk0 PySem.F.excBase_ValueError (ex0 T (i := 0) (by decide)) (T.exg 38 (by decide)) ((T.exF (i := 38) (by decide)).oex.kC) rfl) (pa_cons (pe_mk0 PySem.F.excBase_ValueError (ex0 T (i := 1) (by decide)) (T.exg 39 (by decide)) ((T.exF (i := 39) (by decide)).oex.kC) rfl) (pa_cons (pe_mk0 PySem.F.excBase_ValueError (ex0 T (i := 2) (by decide)) (T.exg 40 (by decide)) ((T.exF (i := 40) (by decide)).oex.kC) rfl) (pa_cons (pe_mk0 PySem.F.excBase_ValueError (ex0 T (i := 3) (by decide)) (T.exg 41 (by decide)) ((T.exF (i := 41) (by decide)).oex.kC) rfl) (pa_cons (pe_mk0 PySem.F.excBase_ValueError (ex0 T (i := 4) (by decide)) (T.exg 42 (by decide)) ((T.exF (i := 42) (by decide)).oex.kC) rfl) pa_nil))))))))))))))))))), ?_⟩
    have ox := (T.exF (i := 37) (by decide)).oex
    obtain ⟨nl, nh⟩ : PySem.W.findIn K (.ref (exA K 37)) "low" = some none ∧ PySem.W.findIn K (.ref (exA K 37)) "high" = some none := by
      have q := (chk_parts T.says.chk).2.2.2.2.2.2.1
      unfold exLen at q
      simpa only [Bool.and_eq_true, decide_eq_true_eq] using q
    refine grow_start (js := [0, 1, 2, 3]) (.pos (i := 0) (by decide) (ix (i := 0) (by decide)).1 (ix (i := 0) (by decide)).2 (.pos (i := 1) (by decide) (ix (i := 1) (by decide)).1 (ix (i := 1) (by decide)).2 (.pos (i := 2) (by decide) (ix (i := 2) (by decide)).1 (ix (i := 2) (by decide)).2 (.pos (i := 3) (by decide) (ix (i := 3) (by decide)).1 (ix (i := 3) (by decide)).2 .nil)))) (by decide) fun q0 b0 H0 s0 h0 n0 e0 => ?_
    refine grow_step (js := [4, 5, 6, 7]) (.pos (i := 4) (by decide) (ix (i := 4) (by decide)).1 (ix (i := 4) (by decide)).2 (.pos (i := 5) (by decide) (ix (i := 5) (by decide)).1 (ix (i := 5) (by decide)).2 (.pos (i := 6) (by decide) (ix (i := 6) (by decide)).1 (ix (i := 6) (by decide)).2 (.pos (i := 7) (by decide) (ix (i := 7) (by decide)).1 (ix (i := 7) (by decide)).2 .nil)))) h0 e0 (by decide) fun q1 b1 H1 s1 h1 n1 e1 => ?_
    refine grow_step (js := [8, 9, 10, 11]) (.pos (i := 8) (by decide) (ix (i := 8) (by decide)).1 (ix (i := 8) (by decide)).2 (.pos (i := 9) (by decide) (ix (i := 9) (by decide)).1 (ix (i := 9) (by decide)).2 (.pos (i := 10) (by decide) (ix (i := 10) (by decide)).1 (ix (i := 10) (by decide)).2 (.pos (i := 11) (by decide) (ix (i := 11) (by decide)).1 (ix (i := 11) (by decide)).2 .nil)))) h1 e1 (by decide) fun q2 b2 H2 s2 h2 n2 e2 => ?_
    refine grow_step (js := [12, 13, 14, 15]) (.pos (i := 12) (by decide) (ix (i := 12) (by decide)).1 (ix (i := 12) (by decide)).2 (.pos (i := 13) (by decide) (ix (i := 13) (by decide)).1 (ix (i := 13) (by decide)).2 (.pos (i := 14) (by decide) (ix (i := 14) (by decide)).1 (ix (i := 14) (by decide)).2 (.pos (i := 15) (by decide) (ix (i := 15) (by decide)).1 (ix (i := 15) (by decide)).2 .nil)))) h2 e2 (by decide) fun q3 b3 H3 s3 h3 n3 e3 => ?_
    refine grow_step (js := [16, 17, 18, 19]) (.pos (i := 16) (by decide) (ix (i := 16) (by decide)).1 (ix (i := 16) (by decide)).2 (.pos (i := 17) (by decide) (ix (i := 17) (by decide)).1 (ix (i := 17) (by decide)).2 (.pos (i := 18) (by decide) (ix (i := 18) (by decide)).1 (ix (i := 18) (by decide)).2 (.pos (i := 19) (by decide) (ix (i := 19) (by decide)).1 (ix (i := 19) (by decide)).2 .nil)))) h3 e3 (by decide) fun q4 b4 H4 s4 h4 n4 e4 => ?_
    refine grow_step (js := [20, 21, 22, 23]) (.pos (i := 20) (by decide) (ix (i := 20) (by decide)).1 (ix (i := 20) (by decide)).2 (.pos (i := 21) (by decide) (ix (i := 21) (by decide)).1 (ix (i := 21) (by decide)).2 (.pos (i := 22) (by decide) (ix (i := 22) (by decide)).1 (ix (i := 22) (by decide)).2 (.pos (i := 23) (by decide) (ix (i := 23) (by decide)).1 (ix (i := 23) (by decide)).2 .nil)))) h4 e4 (by decide) fun q5 b5 H5 s5 h5 n5 e5 => ?_
    refine grow_step (js := [24, 25, 26, 27]) (.pos (i := 24) (by decide) (ix (i := 24) (by decide)).1 (ix (i := 24) (by decide)).2 (.pos (i := 25) (by decide) (ix (i := 25) (by decide)).1 (ix (i := 25) (by decide)).2 (.pos (i := 26) (by decide) (ix (i := 26) (by decide)).1 (ix (i := 26) (by decide)).2 (.pos (i := 27) (by decide) (ix (i := 27) (by decide)).1 (ix (i := 27) (by decide)).2 .nil)))) h5 e5 (by decide) fun q6 b6 H6 s6 h6 n6 e6 => ?_
    refine grow_step (js := [28, 29, 30, 31, 32]) (.pos (i := 28) (by decide) (ix (i := 28) (by decide)).1 (ix (i := 28) (by decide)).2 (.pos (i := 29) (by decide) (ix (i := 29) (by decide)).1 (ix (i := 29) (by decide)).2 (.pos (i := 30) (by decide) (ix (i := 30) (by decide)).1 (ix (i := 30) (by decide)).2 (.pos (i := 31) (by decide) (ix (i := 31) (by decide)).1 (ix (i := 31) (by decide)).2 (.pos (i := 32) (by decide) (ix (i := 32) (by decide)).1 (ix (i := 32) (by decide)).2 .nil))))) h6 e6 (by decide) fun q7 b7 H7 s7 h7 n7 e7 => ?_
    refine grow_step (js := [33, 34, 35, 36]) (.pos (i := 33) (by decide) (ix (i := 33) (by decide)).1 (ix (i := 33) (by decide)).2 (.pos (i := 34) (by decide) (ix (i := 34) (by decide)).1 (ix (i := 34) (by decide)).2 (.pos (i := 35) (by decide) (ix (i := 35) (by decide)).1 (ix (i := 35) (by decide)).2 (.pos (i := 36) (by decide) (ix (i := 36) (by decide)).1 (ix (i := 36) (by decide)).2 .nil)))) h7 e7 (by decide) fun q8 b8 H8 s8 h8 n8 e8 => ?_
    refine grow_step (js := [37]) (.pos2 ox nl nh .nil) h8 e8 (by decide) fun q9 b9 H9 s9 h9 n9 e9 => ?_
    refine grow_ret (js := [38, 39, 40, 41, 42]) (.zero (i := 38) (by decide) (by decide) (.zero (i := 39) (by decide) (by decide) (.zero (i := 40) (by decide) (by decide) (.zero (i := 41) (by decide) (by decide) (.zero (i := 42) (by decide) (by decide) .nil))))) h9 e9 (by decide) fun q b H1 s h n e => ?_
    exact kq q b H1 ((((((((((s0.trans s1).trans s2).trans s3).trans s4).trans s5).trans s6).trans s7).trans s8).trans s9).trans s) ((((((((((s0.trans s1).trans s2).trans s3).trans s4).trans s5).trans s6).trans s7).trans s8).trans s9).free n) h e
theorem ok_named (T : Txt K mg) : CalM none P w K mg base 3 "_law_named" (spErrs K) := by
  obtain ⟨fd, F⟩ := T.fn_ 13 "_law_named" s_law_named
  refine calM F (T.g "_law_named") (F.bindsN (ps := ["one", "other"]) fun _ _ _ _ _ _ us hl => match us, hl with | [_, _], _ => rfl) sc_law_named (fun vs H Q E h => ?_) (fun cdv A outer s H vs Q E hr mo h => ?_)
  · obtain ⟨a, b, rfl, _⟩ := h
    rfl
  · obtain ⟨one, other, rfl, kq⟩ := h
    have ix : ∀ {i : Nat}, i < 37 → OexC K (exA K i) ∧ PySem.W.findIn K (.ref (exA K i)) (exAttr i) = some none := fun hi => ⟨(T.exF (by omega)).oex, (init_facts T hi).2.2⟩
    refine ⟨_, (pss_cons (ps_set (i := 2) sc_law_named.nd rfl (Or.inl rfl) (pe_lst (pa_cons (pe_x1k (ex1_0 T) (hr.mono (by decide)).room rfl (pv 0)) (pa_cons (pe_x1k (ex1_1 T) (hr.mono (by decide)).room rfl (pv 0)) (pa_cons (pe_x1k (ex1_2 T) (hr.mono (by decide)).room rfl (pv 0)) pa_nil)))))
      (pss_cons (ps_set (i := 2) sc_law_named.nd rfl (Or.inl rfl) (pe_op op_cat (pv 2) (pe_lst (pa_cons (pe_x1k (ex1_3 T) (hr.mono (by decide)).room rfl (pv 0)) (pa_cons (pe_x1k (ex1_4 T) (hr.mono (by decide)).room rfl (pv 0)) (pa_cons (pe_x1k (ex1_5 T) (hr.mono (by decide)).room rfl (pv 0)) pa_nil))))))
      (pss_cons (ps_set (i := 2) sc_law_named.nd rfl (Or.inl rfl) (pe_op op_cat (pv 2) (pe_lst (pa_cons (pe_x1k (ex1_6 T) (hr.mono (by decide)).room rfl (pv 0)) (pa_cons (pe_x1k (ex1_7 T) (hr.mono (by decide)).room rfl (pv 0)) (pa_cons (pe_x1k (ex1_8 T) (hr.mono (by decide)).room rfl (pv 0)) pa_nil))))))
      (pss_cons (ps_set (i := 2) sc_law_named.nd rfl (Or.inl rfl) (pe_op op_cat (pv 2) (pe_lst (pa_cons (pe_x1k (ex1_9 T) (hr.mono (by decide)).room rfl (pv 0)) (pa_cons (pe_x1k (ex1_10 T) (hr.mono (by decide)).room rfl (pv 0)) (pa_cons (pe_x1k (ex1_11 T) (hr.mono (by decide)).room rfl (pv 0)) pa_nil))))))
      (pss_cons (ps_set (i := 2) sc_law_named.nd rfl (Or.inl rfl) (pe_op op_cat (pv 2) (pe_lst (pa_cons (pe_x1k (ex1_12 T) (hr.mono (by decide)).room rfl (pv 0)) (pa_cons (pe_x1k (ex1_13 T) (hr.mono (by decide)).room rfl (pv 0)) (pa_cons (pe_x1k (ex1_14 T) (hr.mono (by decide)).room rfl (pv 0)) pa_nil))))))
      (pss_cons (ps_set (i := 2) sc_law_named.nd rfl (Or.inl rfl) (pe_op op_cat (pv 2) (pe_lst (pa_cons (pe_x1k (ex1_15 T) (hr.mono (by decide)).room rfl (pv 0)) (pa_cons (pe_x1k (ex1_16 T) (hr.mono (by decide)).room rfl (pv 0)) (pa_cons (pe_x1k (ex1_17 T) (hr.mono (by decide)).room rfl (pv 0)) pa_nil))))))
      (pss_cons (ps_set (i := 2) sc_law_named.nd rfl (Or.inl rfl) (pe_op op_cat (pv 2) (pe_lst (pa_cons (pe_x1k (ex1_18 T) (hr.mono (by decide)).room rfl (pv 0)) (pa_cons (pe_x1k (ex1_19 T) (hr.mono (by decide)).room rfl (pv 0)) (pa_cons (pe_x1k (ex1_20 T) (hr.mono (by decide)).room rfl (pv 0)) pa_nil))))))
      (pss_cons (ps_set (i := 2) sc_law_named.nd rfl (Or.inl rfl) (pe_op op_cat (pv 2) (pe_lst (pa_cons (pe_x1k (ex1_21 T) (hr.mono (by decide)).room rfl (pv 0)) (pa_cons (pe_x1k (ex1_22 T) (hr.mono (by decide)).room rfl (pv 0)) (pa_cons (pe_x1k (ex1_23 T) (hr.mono (by decide)).room rfl (pv 0)) pa_nil))))))
      (pss_cons (ps_set (i := 2) sc_law_named.nd rfl (Or.inl rfl) (pe_op op_cat (pv 2) (pe_lst (pa_cons (pe_x1k (ex1_24 T) (hr.mono (by decide)).room rfl (pv 0)) (pa_cons (pe_x1k (ex1_25 T) (hr.mono (by decide)).room rfl (pv 0)) (pa_cons (pe_x1k (ex1_26 T) (hr.mono (by decide)).room rfl (pv 0)) pa_nil))))))
      (pss_cons (ps_set (i := 2) sc_law_named.nd rfl (Or.inl rfl) (pe_op op_cat (pv 2) (pe_lst (pa_cons (pe_x1k (ex1_27 T) (hr.mono (by decide)).room rfl (pv 0)) (pa_cons (pe_x1k (ex1_28 T) (hr.mono (by decide)).room rfl (pv 0)) (pa_cons (pe_x1k (ex1_29 T) (hr.mono (by decide)).room rfl (pv 0)) pa_nil))))))
      (pss_cons (ps_set (i := 2) sc_law_named.nd rfl (Or.inl rfl) (pe_op op_cat (pv 2) (pe_lst (pa_cons (pe_x1k (ex1_30 T) (hr.mono (by decide)).room rfl (pv 0)) (pa_cons (pe_x1k (ex1_31 T) (hr.mono (by decide)).room rfl (pv 0)) (pa_cons (pe_x1k (ex1_32 T) (hr.mono (by decide)).room rfl (pv 0)) pa_nil))))))
      (pss_cons (ps_set (i := 2) sc_law_named.nd rfl (Or.inl rfl) (pe_op op_cat (pv 2) (pe_lst (pa_cons (pe_x1k (ex1_33 T) (hr.mono (by decide)).room rfl (pv 0)) (pa_cons (pe_x1k (ex1_34 T) (hr.mono (by decide)).room rfl (pv 0)) (pa_cons (pe_x1k (ex1_35 T) (hr.mono (by decide)).room rfl (pv 0)) pa_nil))))))
      (pss_cons (ps_set (i := 2) sc_law_named.nd rfl (Or.inl rfl) (pe_op op_cat (pv 2) (pe_lst (pa_cons (pe_x1k (ex1_36 T) (hr.mono (by decide)).room rfl (pv 0)) pa_nil))))
      (pss_cons (ps_set (i := 2) sc_law_named.nd rfl (Or.inl rfl) (pe_op op_cat (pv 2) (pe_lst (pa_cons (pe_x2k (ex2_37 T) (hr.mono (by decide)).room rfl (pv 1) (pv 0)) pa_nil))))
      (pss_one (ps_ret (pe_op op_cat (pv 2) (pe_lst (pa_cons (pe_mk0 PySem.F.excBase_ValueError (ex0 T (i := 0) (by decide)) (T.exg 38 (by decide)) ((T.exF (i := 38) (by decide)).oex.kC) rfl) (pa_cons (pe_mk0 PySem.F.excBase_ValueError (ex0 T (i := 1) (by decide)) (T.exg 39 (by decide)) ((T.exF (i := 39) (by decide)).oex.kC) rfl) (pa_cons (pe_mk0 PySem.F.excBase_ValueError (ex0 T (i := 2) (by decide)) (T.exg 40 (by decide)) ((T.exF (i := 40) (by decide)).oex.kC) rfl) (pa_cons (pe_mk0 PySem.F.excBase_ValueError (ex0 T (i := 3) (by decide)) (T.exg 41 (by decide)) ((T.exF (i := 41) (by decide)).oex.kC) rfl) (pa_cons (pe_mk0 PySem.F.excBase_ValueError (ex0 T (i := 4) (by decide)) (T.exg 42 (by decide)) ((T.exF (i := 42) (by decide)).oex.kC) rfl) pa_nil))))))))))))))))))))))), ?_⟩
    have ox := (T.exF (i := 37) (by decide)).oex
    obtain ⟨nl, nh⟩ : PySem.W.findIn K (.ref (exA K 37)) "low" = some none ∧ PySem.W.findIn K (.ref (exA K 37)) "high" = some none := by
      have q := (chk_parts T.says.chk).2.2.2.2.2.2.1
      unfold exLen at q
      simpa only [Bool.and_eq_true, decide_eq_true_eq] using q
    refine grow_start (js := [0, 1, 2]) (.key (i := 0) (by decide) (ix (i := 0) (by decide)).1 (ix (i := 0) (by decide)).2 (.key (i := 1) (by decide) (ix (i := 1) (by decide)).1 (ix (i := 1) (by decide)).2 (.key (i := 2) (by decide) (ix (i := 2) (by decide)).1 (ix (i := 2) (by decide)).2 .nil))) (by decide) fun q0 b0 H0 s0 h0 n0 e0 => ?_
    refine grow_step (js := [3, 4, 5]) (.key (i := 3) (by decide) (ix (i := 3) (by decide)).1 (ix (i := 3) (by decide)).2 (.key (i := 4) (by decide) (ix (i := 4) (by decide)).1 (ix (i := 4) (by decide)).2 (.key (i := 5) (by decide) (ix (i := 5) (by decide)).1 (ix (i := 5) (by decide)).2 .nil))) h0 e0 (by decide) fun q1 b1 H1 s1 h1 n1 e1 => ?_
    refine grow_step (js := [6, 7, 8]) (.key (i := 6) (by decide) (ix (i := 6) (by decide)).1 (ix (i := 6) (by decide)).2 (.key (i := 7) (by decide) (ix (i := 7) (by decide)).1 (ix (i := 7) (by decide)).2 (.key (i := 8) (by decide) (ix (i := 8) (by decide)).1 (ix (i := 8) (by decide)).2 .nil))) h1 e1 (by decide) fun q2 b2 H2 s2 h2 n2 e2 => ?_
    refine grow_step (js := [9, 10, 11]) (.key (i := 9) (by decide) (ix (i := 9) (by decide)).1 (ix (i := 9) (by decide)).2 (.key (i := 10) (by decide) (ix (i := 10) (by decide)).1 (ix (i := 10) (by decide)).2 (.key (i := 11) (by decide) (ix (i := 11) (by decide)).1 (ix (i := 11) (by decide)).2 .nil))) h2 e2 (by decide) fun q3 b3 H3 s3 h3 n3 e3 => ?_
    refine grow_step (js := [12, 13, 14]) (.key (i := 12) (by decide) (ix (i := 12) (by decide)).1 (ix (i := 12) (by decide)).2 (.key (i := 13) (by decide) (ix (i := 13) (by decide)).1 (ix (i := 13) (by decide)).2 (.key (i := 14) (by decide) (ix (i := 14) (by decide)).1 (ix (i := 14) (by decide)).2 .nil))) h3 e3 (by decide) fun q4 b4 H4 s4 h4 n4 e4 => ?_
    refine grow_step (js := [15, 16, 17]) (.key (i := 15) (by decide) (ix (i := 15) (by decide)).1 (ix (i := 15) (by decide)).2 (.key (i := 16) (by decide) (ix (i := 16) (by decide)).1 (ix (i := 16) (by decide)).2 (.key (i := 17) (by decide) (ix (i := 17) (by decide)).1 (ix (i := 17) (by decide)).2 .nil))) h4 e4 (by decide) fun q5 b5 H5 s5 h5 n5 e5 => ?_
    refine grow_step (js := [18, 19, 20]) (.key (i := 18) (by decide) (ix (i := 18) (by decide)).1 (ix (i := 18) (by decide)).2 (.key (i := 19) (by decide) (ix (i := 19) (by decide)).1 (ix (i := 19) (by decide)).2 (.key (i := 20) (by decide) (ix (i := 20) (by decide)).1 (ix (i := 20) (by decide)).2 .nil))) h5 e5 (by decide) fun q6 b6 H6 s6 h6 n6 e6 => ?_
    refine grow_step (js := [21, 22, 23]) (.key (i := 21) (by decide) (ix (i := 21) (by decide)).1 (ix (i := 21) (by decide)).2 (.key (i := 22) (by decide) (ix (i := 22) (by decide)).1 (ix (i := 22) (by decide)).2 (.key (i := 23) (by decide) (ix (i := 23) (by decide)).1 (ix (i := 23) (by decide)).2 .nil))) h6 e6 (by decide) fun q7 b7 H7 s7 h7 n7 e7 => ?_
    refine grow_step (js := [24, 25, 26]) (.key (i := 24) (by decide) (ix (i := 24) (by decide)).1 (ix (i := 24) (by decide)).2 (.key (i := 25) (by decide) (ix (i := 25) (by decide)).1 (ix (i := 25) (by decide)).2 (.key (i := 26) (by decide) (ix (i := 26) (by decide)).1 (ix (i := 26) (by decide)).2 .nil))) h7 e7 (by decide) fun q8 b8 H8 s8 h8 n8 e8 => ?_
    refine grow_step (js := [27, 28, 29]) (.key (i := 27) (by decide) (ix (i := 27) (by decide)).1 (ix (i := 27) (by decide)).2 (.key (i := 28) (by decide) (ix (i := 28) (by decide)).1 (ix (i := 28) (by decide)).2 (.key (i := 29) (by decide) (ix (i := 29) (by decide)).1 (ix (i := 29) (by decide)).2 .nil))) h8 e8 (by decide) fun q9 b9 H9 s9 h9 n9 e9 => ?_
    refine grow_step (js := [30, 31, 32]) (.key (i := 30) (by decide) (ix (i := 30) (by decide)).1 (ix (i := 30) (by decide)).2 (.key (i := 31) (by decide) (ix (i := 31) (by decide)).1 (ix (i := 31) (by decide)).2 (.key (i := 32) (by decide) (ix (i := 32) (by decide)).1 (ix (i := 32) (by decide)).2 .nil))) h9 e9 (by decide) fun q10 b10 H10 s10 h10 n10 e10 => ?_
    refine grow_step (js := [33, 34, 35]) (.key (i := 33) (by decide) (ix (i := 33) (by decide)).1 (ix (i := 33) (by decide)).2 (.key (i := 34) (by decide) (ix (i := 34) (by decide)).1 (ix (i := 34) (by decide)).2 (.key (i := 35) (by decide) (ix (i := 35) (by decide)).1 (ix (i := 35) (by decide)).2 .nil))) h10 e10 (by decide) fun q11 b11 H11 s11 h11 n11 e11 => ?_
    refine grow_step (js := [36]) (.key (i := 36) (by decide) (ix (i := 36) (by decide)).1 (ix (i := 36) (by decide)).2 .nil) h11 e11 (by decide) fun q12 b12 H12 s12 h12 n12 e12 => ?_
    refine grow_step (js := [37]) (.key2 ox nl nh .nil) h12 e12 (by decide) fun q13 b13 H13 s13 h13 n13 e13 => ?_
    refine grow_ret (js := [38, 39, 40, 41, 42]) (.zero (i := 38) (by decide) (by decide) (.zero (i := 39) (by decide) (by decide) (.zero (i := 40) (by decide) (by decide) (.zero (i := 41) (by decide) (by decide) (.zero (i := 42) (by decide) (by decide) .nil))))) h13 e13 (by decide) fun q b H1 s h n e => ?_
    exact kq q b H1 ((((((((((((((s0.trans s1).trans s2).trans s3).trans s4).trans s5).trans s6).trans s7).trans s8).trans s9).trans s10).trans s11).trans s12).trans s13).trans s) ((((((((((((((s0.trans s1).trans s2).trans s3).trans s4).trans s5).trans s6).trans s7).trans s8).trans s9).trans s10).trans s11).trans s12).trans s13).free n) h e
end
end Kn

set_option Elab.async false
set_option linter.all false
set_option maxRecDepth 100000
set_option maxHeartbeats 4000000
namespace Kn
open PySem PySem.Spec PyProof.Rows L2 L2H Kx
section
variable {P : Program} {w : World} {K : PySem.W.Frag} {mg : Str → Option Value} {base : Heap}
/-! ### which class is which -/
theorem nodup_get {l : List Addr} (h : l.Nodup) {i j : Nat} {a b : Addr} (hi : l[i]? = some a) (hj : l[j]? = some b) (hne : i ≠ j) : a ≠ b := by
  obtain ⟨h1, e1⟩ := List.getElem?_eq_some_iff.mp hi
  obtain ⟨h2, e2⟩ := List.getElem?_eq_some_iff.mp hj
  intro z
  have e : l[i]? = l[j]? := by rw [hi, hj, z]
  exact hne ((List.getElem?_inj h1 h).mp e)
theorem adr_ex {i : Nat} (hi : i < 43) : (adrs K)[i + 2]? = some (exA K i) := by
  show ((List.range 43).map (exA K))[i]? = some (exA K i)
  rw [List.getElem?_map, List.getElem?_range hi]
  rfl
theorem ex_ne (T : Txt K mg) {i j : Nat} (hi : i < 43) (hj : j < 43) (h : i ≠ j) : exA K i ≠ exA K j := nodup_get (chk_parts T.says.chk).2.2.2.2.2.2.2.2.2.2.2.2.2.2 (adr_ex hi) (adr_ex hj) (by omega)
theorem ex_ae (T : Txt K mg) {i : Nat} (hi : i < 43) : exA K i ≠ AE K := nodup_get (chk_parts T.says.chk).2.2.2.2.2.2.2.2.2.2.2.2.2.2 (adr_ex hi) (j := 1) rfl (by omega)
theorem ex_au (T : Txt K mg) {i : Nat} (hi : i < 43) : exA K i ≠ AU K := nodup_get (chk_parts T.says.chk).2.2.2.2.2.2.2.2.2.2.2.2.2.2 (adr_ex hi) (j := 0) rfl (by omega)
theorem ae_au (T : Txt K mg) : AE K ≠ AU K := nodup_get (chk_parts T.says.chk).2.2.2.2.2.2.2.2.2.2.2.2.2.2 (i := 1) (j := 0) rfl rfl (by omega)
theorem ex_cls (T : Txt K mg) {i : Nat} (hi : i < 43) : ∃ cd, PySem.W.clsIn K (exA K i) = some cd ∧ cd.mro = [.ref (exA K i), .ref (AE K), .type "ValueError", .type "Exception", .type "BaseException", .type "object"] := by
  have q := (chk_parts T.says.chk).2.2.2.2.1 i hi
  unfold exChk at q
  have m := (He.ba (He.ba q).2).2
  unfold exMro at m
  cases e : PySem.W.clsIn K (exA K i) with
  | none => rw [e] at m; cases m
  | some cd =>
    rw [e] at m
    exact ⟨cd, rfl, of_decide_eq_true m⟩
theorem au_cls (T : Txt K mg) : ∃ cd, PySem.W.clsIn K (AU K) = some cd ∧ cd.mro = [.ref (AU K), .type "object"] ∧ PySem.W.typeIn K (.ref (AU K)) = some (.type "type") := by
  have m := (chk_parts T.says.chk).2.2.2.2.2.2.2.2.2.2.2.2.1
  unfold auMro at m
  cases e : PySem.W.clsIn K (AU K) with
  | none => rw [e] at m; cases m
  | some cd =>
    rw [e] at m
    obtain ⟨m1, m2⟩ := He.ba m
    exact ⟨cd, rfl, of_decide_eq_true m1, of_decide_eq_true m2⟩
theorem ae_cls (T : Txt K mg) : (PySem.W.clsIn K (AE K)).isSome = true ∧ PySem.W.typeIn K (.ref (AE K)) = some (.type "type") ∧ PySem.W.subIn K (.ref (AE K)) (.type "BaseException") = some true := by
  have m := (chk_parts T.says.chk).2.2.2.2.2.2.2.2.2.2.2.2.2.1
  unfold aeOk at m
  simp only [Bool.and_eq_true, decide_eq_true_eq] at m
  exact ⟨m.1.2, m.1.1, m.2⟩
/-- classes as Python asks for them -/
structure IsCls (K : PySem.W.Frag) (C : Addr) : Prop where
  c : (PySem.W.clsIn K C).isSome = true
  t : PySem.W.typeIn K (.ref C) = some (.type "type")
theorem is_ex (T : Txt K mg) {i : Nat} (hi : i < 43) : IsCls K (exA K i) := by
  obtain ⟨cd, e, _⟩ := ex_cls T hi
  exact ⟨by rw [e]; rfl, (T.exF hi).oex.tyC⟩
theorem is_au (T : Txt K mg) : IsCls K (AU K) := by
  obtain ⟨cd, e, _, t⟩ := au_cls T
  exact ⟨by rw [e]; rfl, t⟩
theorem is_ae (T : Txt K mg) : IsCls K (AE K) := ⟨(ae_cls T).1, (ae_cls T).2.1⟩
theorem kitCls_ref {t : Value} {C : Addr} (c : IsCls K C) : PySem.W.kitCls K t (.ref C) = PySem.W.subIn K t (.ref C) := by
  show (if ((PySem.W.clsIn K C).isSome && PySem.W.typeIn K (.ref C) == some (.type "type")) = true then PySem.W.subIn K t (.ref C) else none) = _
  rw [c.c, c.t]
  rfl
theorem beq_refl (C : Addr) : (Value.ref C == Value.ref C) = true := by simp
theorem beq_ne {C D : Addr} (h : C ≠ D) : (Value.ref C == Value.ref D) = false := by
  rw [beq_eq_false_iff_ne]
  exact fun z => h (Value.ref.inj z)
theorem mro_ex (T : Txt K mg) {i : Nat} (hi : i < 43) (v : Value) : PySem.W.subIn K (.ref (exA K i)) v = some (([.ref (exA K i), .ref (AE K), .type "ValueError", .type "Exception", .type "BaseException", .type "object"] : List Value).contains v) := by
  obtain ⟨cd, e, m⟩ := ex_cls T hi
  show PySem.W.mroIn K (exA K i) v = _
  unfold PySem.W.mroIn
  rw [e, Option.bind_some, m]
  rfl
theorem mro_au (T : Txt K mg) (v : Value) : PySem.W.subIn K (.ref (AU K)) v = some (([.ref (AU K), .type "object"] : List Value).contains v) := by
  obtain ⟨cd, e, m, _⟩ := au_cls T
  show PySem.W.mroIn K (AU K) v = _
  unfold PySem.W.mroIn
  rw [e, Option.bind_some, m]
  rfl
theorem cont_cons {a v : Value} {l : List Value} : (a :: l).contains v = ((v == a) || l.contains v) := List.contains_cons ..
theorem tail_ref (C : Addr) : ([.type "ValueError", .type "Exception", .type "BaseException", .type "object"] : List Value).contains (.ref C) = false := rfl
theorem sub_ex (T : Txt K mg) {i j : Nat} (hi : i < 43) (hj : j < 43) : PySem.W.subIn K (.ref (exA K i)) (.ref (exA K j)) = some (decide (j = i)) := by
  rw [mro_ex T hi, cont_cons, cont_cons, tail_ref, beq_ne (ex_ae T hj)]
  by_cases h : j = i
  · subst h
    rw [beq_refl, decide_eq_true rfl]
    rfl
  · rw [beq_ne (ex_ne T hj hi h), decide_eq_false h]
    rfl
theorem kit_ex (T : Txt K mg) {i j : Nat} (hi : i < 43) (hj : j < 43) : PySem.W.kitOne K (.ref (exA K i)) (.ref (exA K j)) = some (decide (j = i)) := by
  unfold PySem.W.kitOne
  by_cases h : j = i
  · subst h
    rw [if_pos (beq_refl _), decide_eq_true rfl]
  · rw [if_neg (by rw [beq_ne (ex_ne T hi hj (Ne.symm h))]; exact Bool.false_ne_true), kitCls_ref (is_ex T hj), sub_ex T hi hj]
theorem kit_ae (T : Txt K mg) {i : Nat} (hi : i < 43) : PySem.W.kitOne K (.ref (exA K i)) (.ref (AE K)) = some true := by
  unfold PySem.W.kitOne
  rw [if_neg (by rw [beq_ne (ex_ae T hi)]; exact Bool.false_ne_true), kitCls_ref (is_ae T), mro_ex T hi, cont_cons, cont_cons, beq_refl, Bool.true_or, Bool.or_true]
theorem kit_exAu (T : Txt K mg) {i : Nat} (hi : i < 43) : PySem.W.kitOne K (.ref (exA K i)) (.ref (AU K)) = some false := by
  unfold PySem.W.kitOne
  rw [if_neg (by rw [beq_ne (ex_au T hi)]; exact Bool.false_ne_true), kitCls_ref (is_au T), mro_ex T hi, cont_cons, cont_cons, beq_ne (Ne.symm (ex_au T hi)), beq_ne (Ne.symm (ae_au T)), tail_ref]
  rfl
theorem kit_exT (T : Txt K mg) {i : Nat} (hi : i < 43) {n : String} (hm : PySem.W.kitMeta n = true) : PySem.W.kitOne K (.ref (exA K i)) (.type n) = some (([.type "ValueError", .type "Exception", .type "BaseException", .type "object"] : List Value).contains (.type n)) := by
  unfold PySem.W.kitOne PySem.W.kitCls
  rw [if_neg (show ¬ ((Value.ref (exA K i) == Value.type n) = true) from Bool.false_ne_true)]
  show (if PySem.W.kitMeta n = true then PySem.W.subIn K (.ref (exA K i)) (.type n) else none) = _
  rw [if_pos hm, mro_ex T hi, cont_cons, cont_cons]
  rfl
theorem kit_auEx (T : Txt K mg) {i : Nat} (hi : i < 43) : PySem.W.kitOne K (.ref (AU K)) (.ref (exA K i)) = some false := by
  unfold PySem.W.kitOne
  rw [if_neg (by rw [beq_ne (Ne.symm (ex_au T hi))]; exact Bool.false_ne_true), kitCls_ref (is_ex T hi), mro_au T, cont_cons, beq_ne (ex_au T hi)]
  rfl
theorem kit_auAe (T : Txt K mg) : PySem.W.kitOne K (.ref (AU K)) (.ref (AE K)) = some false := by
  unfold PySem.W.kitOne
  rw [if_neg (by rw [beq_ne (Ne.symm (ae_au T))]; exact Bool.false_ne_true), kitCls_ref (is_ae T), mro_au T, cont_cons, beq_ne (ae_au T)]
  rfl
theorem kit_auAu (T : Txt K mg) : PySem.W.kitOne K (.ref (AU K)) (.ref (AU K)) = some true := by
  unfold PySem.W.kitOne
  rw [if_pos (beq_refl _)]
theorem kit_auT (T : Txt K mg) {n : String} (hm : PySem.W.kitMeta n = true) : PySem.W.kitOne K (.ref (AU K)) (.type n) = some (([.type "object"] : List Value).contains (.type n)) := by
  unfold PySem.W.kitOne PySem.W.kitCls
  rw [if_neg (show ¬ ((Value.ref (AU K) == Value.type n) = true) from Bool.false_ne_true)]
  show (if PySem.W.kitMeta n = true then PySem.W.subIn K (.ref (AU K)) (.type n) else none) = _
  rw [if_pos hm, mro_au T, cont_cons]
  rfl
theorem no_ref {l : List Value} {C : Addr} (h : l.all (fun v => match v with | .type _ => true | _ => false) = true) : l.contains (.ref C) = false := by
  induction l with
  | nil => rfl
  | cons a r ih =>
    rw [List.all_cons] at h
    obtain ⟨h1, h2⟩ := He.ba h
    rw [cont_cons, ih h2, Bool.or_false]
    cases a with
    | type n => rfl
    | _ => cases h1
/-- a value of a built-in type is of no class of the text -/
theorem kit_tRef {n : String} {C : Addr} (c : IsCls K C) (h : (PySem.fastBuiltinMro n).any (fun l => l.all (fun v => match v with | .type _ => true | _ => false)) = true) : PySem.W.kitOne K (.type n) (.ref C) = some false := by
  unfold PySem.W.kitOne
  rw [if_neg (show ¬ ((Value.type n == Value.ref C) = true) from Bool.false_ne_true), kitCls_ref c]
  show (PySem.fastBuiltinMro n).map (·.contains (.ref C)) = some false
  cases e : PySem.fastBuiltinMro n with
  | none => rw [e] at h; cases h
  | some l =>
    rw [e] at h
    rw [Option.map_some, no_ref h]
end
end Kn

set_option Elab.async false
set_option linter.all false
set_option maxRecDepth 100000
set_option maxHeartbeats 4000000
namespace Kn
open PySem PySem.Spec PyProof.Rows L2 L2H Kx
section
variable {P : Program} {w : World} {K : PySem.W.Frag} {mg : Str → Option Value} {base : Heap}
theorem ExAt.ty {pn : List (Addr × Obj)} {H : Hp} {a : Addr} {i : Nat} {one other : V} (x : ExAt pn K H a i one other) (T : Txt K mg) : TyE K pn H (.ref a) (.ref (exA K i)) := by
  rcases x with ⟨h, d, e, f⟩ | ⟨h, h2, e⟩
  · exact .exc e (T.exF (by omega)) fun b eb => by
      cases eb
      exact ⟨_, f⟩
  · exact .exc e (T.exF h2) fun b eb => nomatch eb
inductive LkArgs (K : PySem.W.Frag) (pn : List (Addr × Obj)) : List Nat → TA → Prop
  | nil : LkArgs K pn [] tNil
  | cons {j : Nat} {js : List Nat} {t : TA} (hj : j < 43) (r : LkArgs K pn js t) : LkArgs K pn (j :: js) (tCons (tCB (rIsX K pn) (tCons (tVar 0) (tCons (tC (.ref (exA K j))) tNil))) t)
theorem LkArgs.run {pn : List (Addr × Obj)} {js : List Nat} {t : TA} (x : LkArgs K pn js t) (T : Txt K mg) {σ : St} {H : Hp} {a : Addr} {i : Nat} {one other : V} (h0 : σ[0]? = some (some (.ref a))) (e : ExAt pn K H a i one other) : ∀ {Q : List V → Hp → Prop}, Q (js.map fun j => V.bl (decide (j = i))) H → t σ H Q := by
  induction x with
  | nil => exact fun q => q
  | @cons j js t hj r ih =>
    intro Q q
    exact ⟨_, h0, .ref a, .ref (exA K j), .ref (exA K i), .ref (exA K j), _, rfl, .own _, e.ty T, kit_ex T e.lt hj, ih q⟩
theorem look_step {pn : List (Addr × Obj)} {js is : List Nat} {t : TA} (x : LkArgs K pn js t) (T : Txt K mg) {D : Ends} {a p : Addr} {i : Nat} {one other : V} {H : Hp} (hp : H p = some (.lst (is.map fun j => V.bl (decide (j = i))))) (e : ExAt pn K H a i one other) (hl : is.length + js.length ≤ 43)
    (k : ∀ (q : Addr) (H' : Hp), Same H H' → H' q = some (.lst ((is ++ js).map fun j => V.bl (decide (j = i)))) → H q = none → D.nx [some (.ref a), some (.ref q)] H') :
    tAsg (tOp rCat (tVar 1) (tLst t)) (gName 1) D [some (.ref a), some (.ref p)] H := by
  refine ⟨_, rfl, x.run T rfl e ⟨?_, fun r hr => ?_⟩⟩
  · rw [List.length_map]
    exact Nat.le_trans (show js.length ≤ 43 by omega) (by decide)
  refine ⟨p, r, _, _, rfl, rfl, (by rw [upd_ne (ne_of_none hp hr)]; exact hp), upd_same, ?_, fun q hq => ?_⟩
  · rw [List.length_map, List.length_map]
    exact Nat.le_trans hl (by decide)
  have sr : Same H (upd H r (.lst (js.map fun j => V.bl (decide (j = i))))) := same_new hr
  rw [← List.map_append]
  exact k q _ (sr.trans (same_new hq)) upd_same (sr.free hq)
theorem look_start {pn : List (Addr × Obj)} {js : List Nat} {t : TA} (x : LkArgs K pn js t) (T : Txt K mg) {D : Ends} {a : Addr} {u : Option V} {i : Nat} {one other : V} {H : Hp} (e : ExAt pn K H a i one other) (hl : js.length ≤ 43)
    (k : ∀ (q : Addr) (H' : Hp), Same H H' → H' q = some (.lst (js.map fun j => V.bl (decide (j = i)))) → H q = none → D.nx [some (.ref a), some (.ref q)] H') :
    tAsg (tLst t) (gName 1) D [some (.ref a), u] H := by
  refine x.run T rfl e ⟨?_, fun r hr => ?_⟩
  · rw [List.length_map]
    exact Nat.le_trans hl (by decide)
  exact k r _ (same_new hr) upd_same hr
def spLooks (m : Md) (K : PySem.W.Frag) : Sp := fun vs H Q _ => ∃ (a : Addr) (i : Nat) (one other : V), vs = [.ref a] ∧ ExAt (pnOf m) K H a i one other ∧
  ∀ (p : Addr) (H' : Hp), Same H H' → H p = none → H' p = some (.lst ((List.range 43).map fun j => V.bl (decide (j = i)))) → Q (.ref p) H'
theorem ok_looks (m : Md) (T : Txt K mg) : CalM m P w K mg base 1 "_law_looks" (spLooks m K) := by
  obtain ⟨fd, F⟩ := T.fn_ 14 "_law_looks" s_law_looks
  refine calM F (T.g "_law_looks") (F.bindsN (ps := ["e"]) fun _ _ _ _ _ _ us hl => match us, hl with | [_], _ => rfl) sc_law_looks (fun vs H Q E h => ?_) (fun cdv A outer s H vs Q E hr mo h => ?_)
  · obtain ⟨a, i, x, y, rfl, _⟩ := h
    rfl
  · obtain ⟨a, i, one, other, rfl, ea, kq⟩ := h
    refine ⟨_, (pss_cons (ps_set (i := 1) sc_law_looks.nd rfl (Or.inl rfl) (pe_lst (pa_cons (pe_callB (cIsX K rfl (pn := pnOf m) rfl) (by rfl) (T.free "isinstance") (by decide +kernel) (pa_cons (pv 0) (pa_cons (pe_glob (v := .ref (exA K 0)) rfl (T.exg 0 (by decide)) rfl) pa_nil))) (pa_cons (pe_callB (cIsX K rfl (pn := pnOf m) rfl) (by rfl) (T.free "isinstance") (by decide +kernel) (pa_cons (pv 0) (pa_cons (pe_glob (v := .ref (exA K 1)) rfl (T.exg 1 (by decide)) rfl) pa_nil))) pa_nil))))
      (pss_cons (ps_set (i := 1) sc_law_looks.nd rfl (Or.inl rfl) (pe_op op_cat (pv 1) (pe_lst (pa_cons (pe_callB (cIsX K rfl (pn := pnOf m) rfl) (by rfl) (T.free "isinstance") (by decide +kernel) (pa_cons (pv 0) (pa_cons (pe_glob (v := .ref (exA K 2)) rfl (T.exg 2 (by decide)) rfl) pa_nil))) (pa_cons (pe_callB (cIsX K rfl (pn := pnOf m) rfl) (by rfl) (T.free "isinstance") (by decide +kernel) (pa_cons (pv 0) (pa_cons (pe_glob (v := .ref (exA K 3)) rfl (T.exg 3 (by decide)) rfl) pa_nil))) pa_nil)))))
      (pss_cons (ps_set (i := 1) sc_law_looks.nd rfl (Or.inl rfl) (pe_op op_cat (pv 1) (pe_lst (pa_cons (pe_callB (cIsX K rfl (pn := pnOf m) rfl) (by rfl) (T.free "isinstance") (by decide +kernel) (pa_cons (pv 0) (pa_cons (pe_glob (v := .ref (exA K 4)) rfl (T.exg 4 (by decide)) rfl) pa_nil))) (pa_cons (pe_callB (cIsX K rfl (pn := pnOf m) rfl) (by rfl) (T.free "isinstance") (by decide +kernel) (pa_cons (pv 0) (pa_cons (pe_glob (v := .ref (exA K 5)) rfl (T.exg 5 (by decide)) rfl) pa_nil))) pa_nil)))))
      (pss_cons (ps_set (i := 1) sc_law_looks.nd rfl (Or.inl rfl) (pe_op op_cat (pv 1) (pe_lst (pa_cons (pe_callB (cIsX K rfl (pn := pnOf m) rfl) (by rfl) (T.free "isinstance") (by decide +kernel) (pa_cons (pv 0) (pa_cons (pe_glob (v := .ref (exA K 6)) rfl (T.exg 6 (by decide)) rfl) pa_nil))) (pa_cons (pe_callB (cIsX K rfl (pn := pnOf m) rfl) (by rfl) (T.free "isinstance") (by decide +kernel) (pa_cons (pv 0) (pa_cons (pe_glob (v := .ref (exA K 7)) rfl (T.exg 7 (by decide)) rfl) pa_nil))) pa_nil)))))
      (pss_cons (ps_set (i := 1) sc_law_looks.nd rfl (Or.inl rfl) (pe_op op_cat (pv 1) (pe_lst (pa_cons (pe_callB (cIsX K rfl (pn := pnOf m) rfl) (by rfl) (T.free "isinstance") (by decide +kernel) (pa_cons (pv 0) (pa_cons (pe_glob (v := .ref (exA K 8)) rfl (T.exg 8 (by decide)) rfl) pa_nil))) (pa_cons (pe_callB (cIsX K rfl (pn := pnOf m) rfl) (by rfl) (T.free "isinstance") (by decide +kernel) (pa_cons (pv 0) (pa_cons (pe_glob (v := .ref (exA K 9)) rfl (T.exg 9 (by decide)) rfl) pa_nil))) pa_nil)))))
      (pss_cons (ps_set (i := 1) sc_law_looks.nd rfl (Or.inl rfl) (pe_op op_cat (pv 1) (pe_lst (pa_cons (pe_callB (cIsX K rfl (pn := pnOf m) rfl) (by rfl) (T.free "isinstance") (by decide +kernel) (pa_cons (pv 0) (pa_cons (pe_glob (v := .ref (exA K 10)) rfl (T.exg 10 (by decide)) rfl) pa_nil))) (pa_cons (pe_callB (cIsX K rfl (pn := pnOf m) rfl) (by rfl) (T.free "isinstance") (by decide +kernel) (pa_cons (pv 0) (pa_cons (pe_glob (v := .ref (exA K 11)) rfl (T.exg 11 (by decide)) rfl) pa_nil))) pa_nil)))))
      (pss_cons (ps_set (i := 1) sc_law_looks.nd rfl (Or.inl rfl) (pe_op op_cat (pv 1) (pe_lst (pa_cons (pe_callB (cIsX K rfl (pn := pnOf m) rfl) (by rfl) (T.free "isinstance") (by decide +kernel) (pa_cons (pv 0) (pa_cons (pe_glob (v := .ref (exA K 12)) rfl (T.exg 12 (by decide)) rfl) pa_nil))) (pa_cons (pe_callB (cIsX K rfl (pn := pnOf m) rfl) (by rfl) (T.free "isinstance") (by decide +kernel) (pa_cons (pv 0) (pa_cons (pe_glob (v := .ref (exA K 13)) rfl (T.exg 13 (by decide)) rfl) pa_nil))) pa_nil)))))
      (pss_cons (ps_set (i := 1) sc_law_looks.nd rfl (Or.inl rfl) (pe_op op_cat (pv 1) (pe_lst (pa_cons (pe_callB (cIsX K rfl (pn := pnOf m) rfl) (by rfl) (T.free "isinstance") (by decide +kernel) (pa_cons (pv 0) (pa_cons (pe_glob (v := .ref (exA K 14)) rfl (T.exg 14 (by decide)) rfl) pa_nil))) (pa_cons (pe_callB (cIsX K rfl (pn := pnOf m) rfl) (by rfl) (T.free "isinstance") (by decide +kernel) (pa_cons (pv 0) (pa_cons (pe_glob (v := .ref (exA K 15)) rfl (T.exg 15 (by decide)) rfl) pa_nil))) pa_nil)))))
      (pss_cons (ps_set (i := 1) sc_law_looks.nd rfl (Or.inl rfl) (pe_op op_cat (pv 1) (pe_lst (pa_cons (pe_callB (cIsX K rfl (pn := pnOf m) rfl) (by rfl) (T.free "isinstance") (by decide +kernel) (pa_cons (pv 0) (pa_cons (pe_glob (v := .ref (exA K 16)) rfl (T.exg 16 (by decide)) rfl) pa_nil))) (pa_cons (pe_callB (cIsX K rfl (pn := pnOf m) rfl) (by rfl) (T.free "isinstance") (by decide +kernel) (pa_cons (pv 0) (pa_cons (pe_glob (v := .ref (exA K 17)) rfl (T.exg 17 (by decide)) rfl) pa_nil))) pa_nil)))))
      (pss_cons (ps_set (i := 1) sc_law_looks.nd rfl (Or.inl rfl) (pe_op op_cat (pv 1) (pe_lst (pa_cons (pe_callB (cIsX K rfl (pn := pnOf m) rfl) (by rfl) (T.free "isinstance") (by decide +kernel) (pa_cons (pv 0) (pa_cons (pe_glob (v := .ref (exA K 18)) rfl (T.exg 18 (by decide)) rfl) pa_nil))) (pa_cons (pe_callB (cIsX K rfl (pn := pnOf m) rfl) (by rfl) (T.free "isinstance") (by decide +kernel) (pa_cons (pv 0) (pa_cons (pe_glob (v := .ref (exA K 19)) rfl (T.exg 19 (by decide)) rfl) pa_nil))) pa_nil)))))
      (pss_cons (ps_set (i := 1) sc_law_looks.nd rfl (Or.inl rfl) (pe_op op_cat (pv 1) (pe_lst (pa_cons (pe_callB (cIsX K rfl (pn := pnOf m) rfl) (by rfl) (T.free "isinstance") (by decide +kernel) (pa_cons (pv 0) (pa_cons (pe_glob (v := .ref (exA K 20)) rfl (T.exg 20 (by decide)) rfl) pa_nil))) (pa_cons (pe_callB (cIsX K rfl (pn := pnOf m) rfl) (by rfl) (T.free "isinstance") (by decide +kernel) (pa_cons (pv 0) (pa_cons (pe_glob (v := .ref (exA K 21)) rfl (T.exg 21 (by decide)) rfl) pa_nil))) pa_nil)))))
      (pss_cons (ps_set (i := 1) sc_law_looks.nd rfl (Or.inl rfl) (pe_op op_cat (pv 1) (pe_lst (pa_cons (pe_callB (cIsX K rfl (pn := pnOf m) rfl) (by rfl) (T.free "isinstance") (by decide +kernel) (pa_cons (pv 0) (pa_cons (pe_glob (v := .ref (exA K 22)) rfl (T.exg 22 (by decide)) rfl) pa_nil))) (pa_cons (pe_callB (cIsX K rfl (pn := pnOf m) rfl) (by rfl) (T.free "isinstance") (by decide +kernel) (pa_cons (pv 0) (pa_cons (pe_glob (v := .ref (exA K 23)) rfl (T.exg 23 (by decide)) rfl) pa_nil))) pa_nil)))))
      (pss_cons (ps_set (i := 1) sc_law_looks.nd rfl (Or.inl rfl) (pe_op op_cat (pv 1) (pe_lst (pa_cons (pe_callB (cIsX K rfl (pn := pnOf m) rfl) (by rfl) (T.free "isinstance") (by decide +kernel) (pa_cons (pv 0) (pa_cons (pe_glob (v := .ref (exA K 24)) rfl (T.exg 24 (by decide)) rfl) pa_nil))) (pa_cons (pe_callB (cIsX K rfl (pn := pnOf m) rfl) (by rfl) (T.free "isinstance") (by decide +kernel) (pa_cons (pv 0) (pa_cons (pe_glob (v := .ref (exA K 25)) rfl (T.exg 25 (by decide)) rfl) pa_nil))) pa_nil)))))
      (pss_cons (ps_set (i := 1) sc_law_looks.nd rfl (Or.inl rfl) (pe_op op_cat (pv 1) (pe_lst (pa_cons (pe_callB (cIsX K rfl (pn := pnOf m) rfl) (by rfl) (T.free "isinstance") (by decide +kernel) (pa_cons (pv 0) (pa_cons (pe_glob (v := .ref (exA K 26)) rfl (T.exg 26 (by decide)) rfl) pa_nil))) (pa_cons (pe_callB (cIsX K rfl (pn := pnOf m) rfl) (by rfl) (T.free "isinstance") (by decide +kernel) (pa_cons (pv 0) (pa_cons (pe_glob (v := .ref (exA K 27)) rfl (T.exg 27 (by decide)) rfl) pa_nil))) (pa_cons (pe_callB (cIsX K rfl (pn := pnOf m) rfl) (by rfl) (T.free "isinstance") (by decide +kernel) (pa_cons (pv 0) (pa_cons (pe_glob (v := .ref (exA K 28)) rfl (T.exg 28 (by decide)) rfl) pa_nil))) pa_nil))))))
      (pss_cons (ps_set (i := 1) sc_law_looks.nd rfl (Or.inl rfl) (pe_op op_cat (pv 1) (pe_lst (pa_cons (pe_callB (cIsX K rfl (pn := pnOf m) rfl) (by rfl) (T.free "isinstance") (by decide +kernel) (pa_cons (pv 0) (pa_cons (pe_glob (v := .ref (exA K 29)) rfl (T.exg 29 (by decide)) rfl) pa_nil))) (pa_cons (pe_callB (cIsX K rfl (pn := pnOf m) rfl) (by rfl) (T.free "isinstance") (by decide +kernel) (pa_cons (pv 0) (pa_cons (pe_glob (v := .ref (exA K 30)) rfl (T.exg 30 (by decide)) rfl) pa_nil))) (pa_cons (pe_callB (cIsX K rfl (pn := pnOf m) rfl) (by rfl) (T.free "isinstance") (by decide +kernel) (pa_cons (pv 0) (pa_cons (pe_glob (v := .ref (exA K 31)) rfl (T.exg 31 (by decide)) rfl) pa_nil))) pa_nil))))))
      (pss_cons (ps_set (i := 1) sc_law_looks.nd rfl (Or.inl rfl) (pe_op op_cat (pv 1) (pe_lst (pa_cons (pe_callB (cIsX K rfl (pn := pnOf m) rfl) (by rfl) (T.free "isinstance") (by decide +kernel) (pa_cons (pv 0) (pa_cons (pe_glob (v := .ref (exA K 32)) rfl (T.exg 32 (by decide)) rfl) pa_nil))) (pa_cons (pe_callB (cIsX K rfl (pn := pnOf m) rfl) (by rfl) (T.free "isinstance") (by decide +kernel) (pa_cons (pv 0) (pa_cons (pe_glob (v := .ref (exA K 33)) rfl (T.exg 33 (by decide)) rfl) pa_nil))) pa_nil)))))
      (pss_cons (ps_set (i := 1) sc_law_looks.nd rfl (Or.inl rfl) (pe_op op_cat (pv 1) (pe_lst (pa_cons (pe_callB (cIsX K rfl (pn := pnOf m) rfl) (by rfl) (T.free "isinstance") (by decide +kernel) (pa_cons (pv 0) (pa_cons (pe_glob (v := .ref (exA K 34)) rfl (T.exg 34 (by decide)) rfl) pa_nil))) (pa_cons (pe_callB (cIsX K rfl (pn := pnOf m) rfl) (by rfl) (T.free "isinstance") (by decide +kernel) (pa_cons (pv 0) (pa_cons (pe_glob (v := .ref (exA K 35)) rfl (T.exg 35 (by decide)) rfl) pa_nil))) (pa_cons (pe_callB (cIsX K rfl (pn := pnOf m) rfl) (by rfl) (T.free "isinstance") (by decide +kernel) (pa_cons (pv 0) (pa_cons (pe_glob (v := .ref (exA K 36)) rfl (T.exg 36 (by decide)) rfl) pa_nil))) pa_nil))))))
      (pss_cons (ps_set (i := 1) sc_law_looks.nd rfl (Or.inl rfl) (pe_op op_cat (pv 1) (pe_lst (pa_cons (pe_callB (cIsX K rfl (pn := pnOf m) rfl) (by rfl) (T.free "isinstance") (by decide +kernel) (pa_cons (pv 0) (pa_cons (pe_glob (v := .ref (exA K 37)) rfl (T.exg 37 (by decide)) rfl) pa_nil))) (pa_cons (pe_callB (cIsX K rfl (pn := pnOf m) rfl) (by rfl) (T.free "isinstance") (by decide +kernel) (pa_cons (pv 0) (pa_cons (pe_glob (v := .ref (exA K 38)) rfl (T.exg 38 (by decide)) rfl) pa_nil))) (pa_cons (pe_callB (cIsX K rfl (pn := pnOf m) rfl) (by rfl) (T.free "isinstance") (by decide +kernel) (pa_cons (pv 0) (pa_cons (pe_glob (v := .ref (exA K 39)) rfl (T.exg 39 (by decide)) rfl) pa_nil))) pa_nil))))))
      (pss_cons (ps_set (i := 1) sc_law_looks.nd rfl (Or.inl rfl) (pe_op op_cat (pv 1) (pe_lst (pa_cons (pe_callB (cIsX K rfl (pn := pnOf m) rfl) (by rfl) (T.free "isinstance") (by decide +kernel) (pa_cons (pv 0) (pa_cons (pe_glob (v := .ref (exA K 40)) rfl (T.exg 40 (by decide)) rfl) pa_nil))) (pa_cons (pe_callB (cIsX K rfl (pn := pnOf m) rfl) (by rfl) (T.free "isinstance") (by decide +kernel) (pa_cons (pv 0) (pa_cons (pe_glob (v := .ref (exA K 41)) rfl (T.exg 41 (by decide)) rfl) pa_nil))) pa_nil)))))
      (pss_cons (ps_set (i := 1) sc_law_looks.nd rfl (Or.inl rfl) (pe_op op_cat (pv 1) (pe_lst (pa_cons (pe_callB (cIsX K rfl (pn := pnOf m) rfl) (by rfl) (T.free "isinstance") (by decide +kernel) (pa_cons (pv 0) (pa_cons (pe_glob (v := .ref (exA K 42)) rfl (T.exg 42 (by decide)) rfl) pa_nil))) pa_nil))))
      (pss_one (ps_ret (pv 1))))))))))))))))))))))), ?_⟩
    refine look_start (js := [0, 1]) (.cons (j := 0) (by decide) (.cons (j := 1) (by decide) .nil)) T ea (by decide) fun q0 H0 s0 h0 n0 => ?_
    refine look_step (js := [2, 3]) (.cons (j := 2) (by decide) (.cons (j := 3) (by decide) .nil)) T h0 (ea.same s0) (by decide) fun q1 H1 s1 h1 n1 => ?_
    refine look_step (js := [4, 5]) (.cons (j := 4) (by decide) (.cons (j := 5) (by decide) .nil)) T h1 (ea.same (s0.trans s1)) (by decide) fun q2 H2 s2 h2 n2 => ?_
    refine look_step (js := [6, 7]) (.cons (j := 6) (by decide) (.cons (j := 7) (by decide) .nil)) T h2 (ea.same ((s0.trans s1).trans s2)) (by decide) fun q3 H3 s3 h3 n3 => ?_
    refine look_step (js := [8, 9]) (.cons (j := 8) (by decide) (.cons (j := 9) (by decide) .nil)) T h3 (ea.same (((s0.trans s1).trans s2).trans s3)) (by decide) fun q4 H4 s4 h4 n4 => ?_
    refine look_step (js := [10, 11]) (.cons (j := 10) (by decide) (.cons (j := 11) (by decide) .nil)) T h4 (ea.same ((((s0.trans s1).trans s2).trans s3).trans s4)) (by decide) fun q5 H5 s5 h5 n5 => ?_
    refine look_step (js := [12, 13]) (.cons (j := 12) (by decide) (.cons (j := 13) (by decide) .nil)) T h5 (ea.same (((((s0.trans s1).trans s2).trans s3).trans s4).trans s5)) (by decide) fun q6 H6 s6 h6 n6 => ?_
    refine look_step (js := [14, 15]) (.cons (j := 14) (by decide) (.cons (j := 15) (by decide) .nil)) T h6 (ea.same ((((((s0.trans s1).trans s2).trans s3).trans s4).trans s5).trans s6)) (by decide) fun q7 H7 s7 h7 n7 => ?_
    refine look_step (js := [16, 17]) (.cons (j := 16) (by decide) (.cons (j := 17) (by decide) .nil)) T h7 (ea.same (((((((s0.trans s1).trans s2).trans s3).trans s4).trans s5).trans s6).trans s7)) (by decide) fun q8 H8 s8 h8 n8 => ?_
    refine look_step (js := [18, 19]) (.cons (j := 18) (by decide) (.cons (j := 19) (by decide) .nil)) T h8 (ea.same ((((((((s0.trans s1).trans s2).trans s3).trans s4).trans s5).trans s6).trans s7).trans s8)) (by decide) fun q9 H9 s9 h9 n9 => ?_
    refine look_step (js := [20, 21]) (.cons (j := 20) (by decide) (.cons (j := 21) (by decide) .nil)) T h9 (ea.same (((((((((s0.trans s1).trans s2).trans s3).trans s4).trans s5).trans s6).trans s7).trans s8).trans s9)) (by decide) fun q10 H10 s10 h10 n10 => ?_
    refine look_step (js := [22, 23]) (.cons (j := 22) (by decide) (.cons (j := 23) (by decide) .nil)) T h10 (ea.same ((((((((((s0.trans s1).trans s2).trans s3).trans s4).trans s5).trans s6).trans s7).trans s8).trans s9).trans s10)) (by decide) fun q11 H11 s11 h11 n11 => ?_
    refine look_step (js := [24, 25]) (.cons (j := 24) (by decide) (.cons (j := 25) (by decide) .nil)) T h11 (ea.same (((((((((((s0.trans s1).trans s2).trans s3).trans s4).trans s5).trans s6).trans s7).trans s8).trans s9).trans s10).trans s11)) (by decide) fun q12 H12 s12 h12 n12 => ?_
    refine look_step (js := [26, 27, 28]) (.cons (j := 26) (by decide) (.cons (j := 27) (by decide) (.cons (j := 28) (by decide) .nil))) T h12 (ea.same ((((((((((((s0.trans s1).trans s2).trans s3).trans s4).trans s5).trans s6).trans s7).trans s8).trans s9).trans s10).trans s11).trans s12)) (by decide) fun q13 H13 s13 h13 n13 => ?_
    refine look_step (js := [29, 30, 31]) (.cons (j := 29) (by decide) (.cons (j := 30) (by decide) (.cons (j := 31) (by decide) .nil))) T h13 (ea.same (((((((((((((s0.trans s1).trans s2).trans s3).trans s4).trans s5).trans s6).trans s7).trans s8).trans s9).trans s10).trans s11).trans s12).trans s13)) (by decide) fun q14 H14 s14 h14 n14 => ?_
    refine look_step (js := [32, 33]) (.cons (j := 32) (by decide) (.cons (j := 33) (by decide) .nil)) T h14 (ea.same ((((((((((((((s0.trans s1).trans s2).trans s3).trans s4).trans s5).trans s6).trans s7).trans s8).trans s9).trans s10).trans s11).trans s12).trans s13).trans s14)) (by decide) fun q15 H15 s15 h15 n15 => ?_
    refine look_step (js := [34, 35, 36]) (.cons (j := 34) (by decide) (.cons (j := 35) (by decide) (.cons (j := 36) (by decide) .nil))) T h15 (ea.same (((((((((((((((s0.trans s1).trans s2).trans s3).trans s4).trans s5).trans s6).trans s7).trans s8).trans s9).trans s10).trans s11).trans s12).trans s13).trans s14).trans s15)) (by decide) fun q16 H16 s16 h16 n16 => ?_
    refine look_step (js := [37, 38, 39]) (.cons (j := 37) (by decide) (.cons (j := 38) (by decide) (.cons (j := 39) (by decide) .nil))) T h16 (ea.same ((((((((((((((((s0.trans s1).trans s2).trans s3).trans s4).trans s5).trans s6).trans s7).trans s8).trans s9).trans s10).trans s11).trans s12).trans s13).trans s14).trans s15).trans s16)) (by decide) fun q17 H17 s17 h17 n17 => ?_
    refine look_step (js := [40, 41]) (.cons (j := 40) (by decide) (.cons (j := 41) (by decide) .nil)) T h17 (ea.same (((((((((((((((((s0.trans s1).trans s2).trans s3).trans s4).trans s5).trans s6).trans s7).trans s8).trans s9).trans s10).trans s11).trans s12).trans s13).trans s14).trans s15).trans s16).trans s17)) (by decide) fun q18 H18 s18 h18 n18 => ?_
    refine look_step (js := [42]) (.cons (j := 42) (by decide) .nil) T h18 (ea.same ((((((((((((((((((s0.trans s1).trans s2).trans s3).trans s4).trans s5).trans s6).trans s7).trans s8).trans s9).trans s10).trans s11).trans s12).trans s13).trans s14).trans s15).trans s16).trans s17).trans s18)) (by decide) fun q19 H19 s19 h19 n19 => ?_
    exact ⟨_, rfl, kq q19 H19 (((((((((((((((((((s0.trans s1).trans s2).trans s3).trans s4).trans s5).trans s6).trans s7).trans s8).trans s9).trans s10).trans s11).trans s12).trans s13).trans s14).trans s15).trans s16).trans s17).trans s18).trans s19) (((((((((((((((((((s0.trans s1).trans s2).trans s3).trans s4).trans s5).trans s6).trans s7).trans s8).trans s9).trans s10).trans s11).trans s12).trans s13).trans s14).trans s15).trans s16).trans s17).trans s18).free n19) h19⟩
def exVals (i : Nat) (one other : V) : List V := if i < 37 then [one] else if i = 37 then [one, other] else []
def spInside (m : Md) (K : PySem.W.Frag) : Sp := fun vs H Q _ => ∃ (a : Addr) (i : Nat) (one other : V), vs = [.ref a, .int i] ∧ ExAt (pnOf m) K H a i one other ∧
  ∀ (p : Addr) (H' : Hp), Same H H' → H p = none → H' p = some (.lst (exVals i one other)) → Q (.ref p) H'
theorem ok_inside (m : Md) (T : Txt K mg) : CalM m P w K mg base 1 "_law_inside" (spInside m K) := by
  obtain ⟨fd, F⟩ := T.fn_ 16 "_law_inside" s_law_inside
  refine calM F (T.g "_law_inside") (F.bindsN (ps := ["e", "spot"]) fun _ _ _ _ _ _ us hl => match us, hl with | [_, _], _ => rfl) sc_law_inside (fun vs H Q E h => ?_) (fun cdv A outer s H vs Q E hr mo h => ?_)
  · obtain ⟨a, i, x, y, rfl, _⟩ := h
    rfl
  · obtain ⟨a, i, one, other, rfl, ea, kq⟩ := h
    refine ⟨_, (pss_cons (ps_if (pt_cmpR op_lt (pv 1) (pe_int) (nomark _)) (pss_one (ps_ret (pe_lst (pa_cons (pEvf K rfl (pn := pnOf m) rfl (pv 0)) pa_nil)))) pss_nil)
      (pss_cons (ps_if (pt_cmpR op_eq (pv 1) (pe_int) (nomark _)) (pss_one (ps_ret (pe_lst (pa_cons (pEvf K rfl (pn := pnOf m) rfl (pv 0)) pa_nil)))) pss_nil)
      (pss_cons (ps_if (pt_cmpR (opIn K rfl) (pv 1) (pe_tup (pa_cons (pe_int) (pa_cons (pe_int) pa_nil))) (by rfl)) (pss_one (ps_ret (pe_lst (pa_cons (pEvf K rfl (pn := pnOf m) rfl (pv 0)) pa_nil)))) pss_nil)
      (pss_cons (ps_if (pt_cmpR op_eq (pv 1) (pe_int) (nomark _)) (pss_one (ps_ret (pe_lst (pa_cons (pEvf K rfl (pn := pnOf m) rfl (pv 0)) pa_nil)))) pss_nil)
      (pss_cons (ps_if (pt_cmpR op_eq (pv 1) (pe_int) (nomark _)) (pss_one (ps_ret (pe_lst (pa_cons (pEvf K rfl (pn := pnOf m) rfl (pv 0)) pa_nil)))) pss_nil)
      (pss_cons (ps_if (pt_cmpR op_eq (pv 1) (pe_int) (nomark _)) (pss_one (ps_ret (pe_lst (pa_cons (pEvf K rfl (pn := pnOf m) rfl (pv 0)) pa_nil)))) pss_nil)
      (pss_cons (ps_if (pt_cmpR op_eq (pv 1) (pe_int) (nomark _)) (pss_one (ps_ret (pe_lst (pa_cons (pEvf K rfl (pn := pnOf m) rfl (pv 0)) (pa_cons (pEvf K rfl (pn := pnOf m) rfl (pv 0)) pa_nil))))) pss_nil)
      (pss_one (ps_ret (pe_lst pa_nil)))))))))), ?_⟩
    have hi := ea.lt
    have hno : i < 37 → PySem.W.findIn K (.ref (exA K i)) (exAttr i) = some none := fun h => (init_facts T h).2.2
    have g31 : ∀ j, j < 31 → exAttr j = "given" := by decide +kernel
    have one1 : i < 37 → ∃ d, EV (pnOf m) H a (exA K i) (some d) ∧ H d = some (.xd [(exAttr i, one)]) ∧ exVals i one other = [one] := fun h => by
      rcases ea with ⟨_, d, e, f⟩ | ⟨h2, _⟩
      · refine ⟨d, e, ?_, if_pos h⟩
        rw [f]
        exact congrArg (fun l => some (HO.xd l)) (if_neg (by omega))
      · omega
    have ret : ∀ (n : Str), i < 37 → exAttr i = n → ∀ {σ : St} {H1 : Hp}, Same H H1 → σ[0]? = some (some (.ref a)) → tRet (tLst (tCons (tEvf K (pnOf m) n (tVar 0)) tNil)) { nx := fun _ H' => Q .non H', rt := Q } σ H1 := fun n h e σ H1 s1 h0 => by
      obtain ⟨d, ev, hd, hv⟩ := one1 h
      refine ⟨_, h0, a, exA K i, d, [(exAttr i, one)], one, rfl, EV.same ev s1, T.exF (by omega), by rw [← e]; exact hno h, s1 _ _ hd, by rw [← e]; simp [List.lookup], (by show 1 ≤ sizeLine; decide), fun p hp => ?_⟩
      exact kq p _ (s1.trans (same_new hp)) (s1.free hp) (by rw [upd_same, hv])
    refine ⟨_, rfl, _, _, rfl, rfl, _, rfl, ite2 (fun c => ?_) (fun c => ?_)⟩
    · have c' : i < 31 := by have := of_decide_eq_true c; omega
      exact ret _ (by omega) (g31 i c') (Same.refl H) rfl
    have c0 : ¬ i < 31 := fun h => c (decide_eq_true (by omega))
    have eqn : ∀ n : Nat, ¬ decide (V.int (i : Int) = V.int (n : Int)) = true → i ≠ n := fun n h z => h (by rw [z]; exact decide_eq_true rfl)
    have eqy : ∀ n : Nat, decide (V.int (i : Int) = V.int (n : Int)) = true → i = n := fun n h => by
      have z := V.int.inj (of_decide_eq_true h)
      omega
    refine ⟨_, rfl, rfl, _, rfl, ite2 (fun c => ?_) (fun c => ?_)⟩
    · obtain rfl := eqy 31 c
      exact ret _ (by decide) (by decide +kernel) (Same.refl H) rfl
    have c1 := eqn 31 c
    refine ⟨_, rfl, (by show 2 ≤ sizeLine; decide), fun tp htp => ⟨tp, _, rfl, .inr (.inl (Rd.of upd_same)), rfl, rfl, _, rfl, ?_⟩⟩
    have st : Same H (upd H tp (.tup [.int 32, .int 33])) := same_new htp
    have inv : inV (.int (i : Int)) [.int 32, .int 33] = (decide (i = 32) || decide (i = 33)) := by
      show (decide ((32 : Int) = i) || (decide ((33 : Int) = i) || false)) = _
      by_cases h : i = 32
      · subst h; rfl
      · by_cases h' : i = 33
        · subst h'; rfl
        · rw [decide_eq_false h, decide_eq_false h', decide_eq_false (by omega), decide_eq_false (by omega)]
          rfl
    refine ite2 (fun c => ?_) (fun c => ?_)
    · have c' : inV (.int (i : Int)) [.int 32, .int 33] = true := c
      rw [inv] at c'
      rcases Bool.or_eq_true_iff.mp c' with h | h
      · obtain rfl := of_decide_eq_true h
        exact ret _ (by decide) (by decide +kernel) st rfl
      · obtain rfl := of_decide_eq_true h
        exact ret _ (by decide) (by decide +kernel) st rfl
    have c2 : i ≠ 32 ∧ i ≠ 33 := by
      have c' : ¬ inV (.int (i : Int)) [.int 32, .int 33] = true := c
      rw [inv] at c'
      exact ⟨fun z => c' (by rw [z]; rfl), fun z => c' (by rw [z]; rfl)⟩
    refine ⟨_, rfl, rfl, _, rfl, ite2 (fun c => ?_) (fun c => ?_)⟩
    · obtain rfl := eqy 34 c
      exact ret _ (by decide) (by decide +kernel) st rfl
    have c3 := eqn 34 c
    refine ⟨_, rfl, rfl, _, rfl, ite2 (fun c => ?_) (fun c => ?_)⟩
    · obtain rfl := eqy 35 c
      exact ret _ (by decide) (by decide +kernel) st rfl
    have c4 := eqn 35 c
    refine ⟨_, rfl, rfl, _, rfl, ite2 (fun c => ?_) (fun c => ?_)⟩
    · obtain rfl := eqy 36 c
      exact ret _ (by decide) (by decide +kernel) st rfl
    have c5 := eqn 36 c
    refine ⟨_, rfl, rfl, _, rfl, ite2 (fun c => ?_) (fun c => ?_)⟩
    · obtain rfl := eqy 37 c
      have q := (chk_parts T.says.chk).2.2.2.2.2.2.1
      unfold exLen at q
      simp only [Bool.and_eq_true, decide_eq_true_eq] at q
      rcases ea with ⟨_, d, e, f⟩ | ⟨h2, _⟩
      · have f' := st _ _ f
        have e' := EV.same e st
        refine ⟨_, rfl, a, exA K 37, d, _, one, rfl, e', T.exF (by decide), q.1, f', rfl, _, rfl, a, exA K 37, d, _, other, rfl, e', T.exF (by decide), q.2, f', rfl, (by show 2 ≤ sizeLine; decide), fun p hp => ?_⟩
        exact kq p _ (st.trans (same_new hp)) (st.free hp) (by rw [upd_same]; rfl)
      · omega
    have c6 := eqn 37 c
    refine ⟨(by show 0 ≤ sizeLine; decide), fun p hp => ?_⟩
    refine kq p _ (st.trans (same_new hp)) (st.free hp) ?_
    rw [upd_same]
    unfold exVals
    rw [if_neg (by omega), if_neg (by omega)]
end
end Kn

set_option Elab.async false
set_option linter.all false
set_option maxRecDepth 100000
set_option maxHeartbeats 4000000
namespace Kn
open PySem PySem.Spec PyProof.Rows L2 L2H Kx
section
variable {P : Program} {w : World} {K : PySem.W.Frag} {mg : Str → Option Value} {base : Heap}
def spJust (m : Md) (K : PySem.W.Frag) : Sp := fun vs H Q _ => ∃ (a : Addr) (i : Nat) (one other : V), vs = [.ref a, .int i] ∧ ExAt (pnOf m) K H a i one other ∧ ∀ (H' : Hp), Same H H' → Q (.bl true) H'
theorem tail_no (n : String) (h : (["ValueError", "Exception", "BaseException", "object"] : List String).contains n = false := by decide) : ([.type "ValueError", .type "Exception", .type "BaseException", .type "object"] : List Value).contains (.type n) = false := by
  have e : ([.type "ValueError", .type "Exception", .type "BaseException", .type "object"] : List Value) = (["ValueError", "Exception", "BaseException", "object"] : List String).map Value.type := rfl
  rw [e]
  rw [List.contains_eq_any_beq] at h ⊢
  rw [List.any_map]
  refine Eq.trans ?_ h
  congr 1
  funext x
  show (Value.type n == Value.type x) = (n == x)
  cases hx : (n == x) with
  | true => rw [beq_iff_eq] at hx ⊢; rw [hx]
  | false =>
    rw [beq_eq_false_iff_ne] at hx ⊢
    exact fun z => hx (Value.type.inj z)
theorem ok_just (m : Md) (T : Txt K mg) : CalM m P w K mg base 2 "_law_is_just" (spJust m K) := by
  obtain ⟨fd, F⟩ := T.fn_ 15 "_law_is_just" s_law_is_just
  have G_law_looks := ok_looks (P := P) (w := w) (base := base) m T
  refine calM F (T.g "_law_is_just") (F.bindsN (ps := ["e", "spot"]) fun _ _ _ _ _ _ us hl => match us, hl with | [_, _], _ => rfl) sc_law_is_just (fun vs H Q E h => ?_) (fun cdv A outer s H vs Q E hr mo h => ?_)
  · obtain ⟨a, i, x, y, rfl, _⟩ := h
    rfl
  · obtain ⟨a, i, one, other, rfl, ea, kq⟩ := h
    refine ⟨_, (pss_cons (ps_set (i := 2) sc_law_is_just.nd rfl (Or.inr rfl) (pe_callC G_law_looks mo (hr.mono (by decide)) rfl (pa_cons (pv 0) pa_nil)))
      (pss_cons (ps_set (i := 3) sc_law_is_just.nd rfl (Or.inl rfl) (pe_and (pe_callB (cIsX K rfl (pn := pnOf m) rfl) (by rfl) (T.free "isinstance") (by decide +kernel) (pa_cons (pv 0) (pa_cons (pe_glob (v := .ref (AE K)) rfl (T.g "AutomatonError") rfl) pa_nil))) (pe_and (pe_callB (cIsX K rfl (pn := pnOf m) rfl) (by rfl) (T.free "isinstance") (by decide +kernel) (pa_cons (pv 0) (pa_cons (pe_bltn (v := .ty "ValueError") (by rfl) (T.free "ValueError") (by decide +kernel) rfl) pa_nil))) (pe_one (pe_callB (cIsX K rfl (pn := pnOf m) rfl) (by rfl) (T.free "isinstance") (by decide +kernel) (pa_cons (pv 0) (pa_cons (pe_bltn (v := .ty "Exception") (by rfl) (T.free "Exception") (by decide +kernel) rfl) pa_nil)))))))
      (pss_cons (ps_set (i := 3) sc_law_is_just.nd rfl (Or.inl rfl) (pe_and (pv 3) (pe_one (pe_not (pe_callB (cIsXT K rfl (pn := pnOf m) rfl) (by rfl) (T.free "isinstance") (by decide +kernel) (pa_cons (pv 0) (pa_cons (pe_tup (pa_cons (pe_bltn (v := .ty "LookupError") (by rfl) (T.free "LookupError") (by decide +kernel) rfl) (pa_cons (pe_bltn (v := .ty "TypeError") (by rfl) (T.free "TypeError") (by decide +kernel) rfl) (pa_cons (pe_bltn (v := .ty "ArithmeticError") (by rfl) (T.free "ArithmeticError") (by decide +kernel) rfl) (pa_cons (pe_bltn (v := .ty "RuntimeError") (by rfl) (T.free "RuntimeError") (by decide +kernel) rfl) (pa_cons (pe_bltn (v := .ty "AttributeError") (by rfl) (T.free "AttributeError") (by decide +kernel) rfl) pa_nil)))))) pa_nil)))))))
      (pss_one (ps_ret (pe_and (pv 3) (pe_one (pe_cmpR (opEqD K rfl hr.hu) (pe_lcM (own := [("k", 4)]) mo sc_law_is_just.nd (pi_rangeM rfl (T.free "range") (pa_cons (pe_callB (cLenSeq K rfl) (by rfl) (T.free "len") (by decide +kernel) (pa_cons (pv 2) pa_nil)) pa_nil)) (blkOk_by (N := ["e", "spot", "looks", "good", "k"]) (sc := defScope s_law_is_just) (by decide +kernel)) (fun _ _ _ _ _ => (pg_name (i := 4) sc_law_is_just.nd rfl (Or.inl rfl))) (fun _ _ _ _ _ => (pts_one (pt_val (pe_ix (ixL K rfl) (pv 2) (pv 4) (fun _ _ => rfl))))) (fun _ _ _ _ _ => (pv 4))) (pe_lst (pa_cons (pv 1) pa_nil)) (nomark _))))))))), ?_⟩
    have hi := ea.lt
    have kt : ∀ {n : String} {b : Bool}, PySem.W.kitMeta n = true → ([.type "ValueError", .type "Exception", .type "BaseException", .type "object"] : List Value).contains (.type n) = b → PySem.W.kitOne K (.ref (exA K i)) (.type n) = some b := fun hm e => by rw [kit_exT T hi hm, e]
    refine ⟨_, rfl, a, i, one, other, rfl, ea, fun p H1 s1 n1 h1 => ?_⟩
    have ea1 := ea.same s1
    refine ⟨_, rfl, .ref a, .ref (AE K), .ref (exA K i), .ref (AE K), true, rfl, .own _, ea1.ty T, kit_ae T hi, true, rfl, iteT ?_⟩
    refine ⟨_, rfl, .ref a, .ty "ValueError", .ref (exA K i), .type "ValueError", true, rfl, .ty _, ea1.ty T, kt (by decide +kernel) (by decide), true, rfl, iteT ?_⟩
    refine ⟨_, rfl, .ref a, .ty "Exception", .ref (exA K i), .type "Exception", true, rfl, .ty _, ea1.ty T, kt (by decide +kernel) (by decide), ?_⟩
    refine ⟨_, rfl, true, rfl, iteT ⟨_, rfl, (by show 5 ≤ sizeLine; decide), fun tp htp => ?_⟩⟩
    have s2 : Same H1 (upd H1 tp (.tup [.ty "LookupError", .ty "TypeError", .ty "ArithmeticError", .ty "RuntimeError", .ty "AttributeError"])) := same_new htp
    have none5 : PySem.W.kitAny K (.ref (exA K i)) [.type "LookupError", .type "TypeError", .type "ArithmeticError", .type "RuntimeError", .type "AttributeError"] = some false :=
      kitAny_cons (kt (by decide +kernel) (tail_no _)) (fun _ => kitAny_cons (kt (by decide +kernel) (tail_no _)) (fun _ => kitAny_cons (kt (by decide +kernel) (tail_no _)) (fun _ => kitAny_cons (kt (by decide +kernel) (tail_no _)) (fun _ => kitAny_cons (kt (by decide +kernel) (tail_no _)) (fun _ => kitAny_nil) (fun z => nomatch z)) (fun z => nomatch z)) (fun z => nomatch z)) (fun z => nomatch z)) (fun z => nomatch z)
    refine ⟨.ref a, tp, _, .ref (exA K i), _, false, rfl, upd_same, .cons (.ty _) (.cons (.ty _) (.cons (.ty _) (.cons (.ty _) (.cons (.ty _) .nil)))), (ea1.same s2).ty T, none5, false, rfl, ?_⟩
    have s02 : Same H (upd H1 tp (.tup [.ty "LookupError", .ty "TypeError", .ty "ArithmeticError", .ty "RuntimeError", .ty "AttributeError"])) := s1.trans s2
    have h2 := s2 _ _ h1
    generalize upd H1 tp (.tup [.ty "LookupError", .ty "TypeError", .ty "ArithmeticError", .ty "RuntimeError", .ty "AttributeError"]) = H2 at s2 s02 h2
    refine ⟨_, rfl, true, rfl, iteT ⟨_, rfl, p, _, rfl, .inl (.inl (Rd.of h2)), _, rfl, (by rw [List.length_map, List.length_range]; decide), (by rw [List.length_map, List.length_range]; decide), fun D hD => ?_⟩⟩
    rw [List.length_map, List.length_range]
    refine pick (n := 43) (j := 4) (by decide) hD ?_ (fun j => decide (j = i)) (fun j H3 hj s3 k kk => ?_) (fun H3 s3 h3 => ?_)
    · show 4 < 5
      decide
    · refine ⟨_, rfl, _, rfl, p, _, _, .bl (decide (j = i)), rfl, rfl, .inl (Rd.of (s3 _ _ h2)), atI_nat ?_, _, rfl, kk H3 (Same.refl H3)⟩
      rw [List.getElem?_map, List.getElem?_range hj]
      rfl
    · rw [filter_one hi] at h3
      refine ⟨_, rfl, (by show 1 ≤ sizeLine; decide), fun q hq => ⟨_, _, lst_eq (l := [(i : Int)]) (.inl (Rd.of (same_new hq _ _ h3))), lst_eq (l := [(i : Int)]) (.inl (Rd.of upd_same)), ?_, ?_, ?_⟩⟩
      · rfl
      · rfl
      · have e : PyData.eqv (.list ([(i : Int)].map PyData.int)) (.list ([(i : Int)].map PyData.int)) = true := SeqAt.eqv_refl _ rfl
        rw [e]
        exact kq _ ((s02.trans s3).trans (same_new hq))
end
end Kn

set_option Elab.async false
set_option linter.all false
set_option maxRecDepth 100000
set_option maxHeartbeats 4000000
namespace Kn
open PySem PySem.Spec PyProof.Rows L2 L2H Kx
/-- the same all through: what _law_same goes down -/
inductive Sm (K : PySem.W.Frag) (H : Hp) : Nat → V → V → Prop
  | non {n : Nat} : Sm K H n .non .non
  | bl {n : Nat} (b : Bool) : Sm K H n (.bl b) (.bl b)
  | int {n : Nat} (i : Int) : Sm K H n (.int i) (.int i)
  | str {n : Nat} (x : Str) (hx : x.length ≤ 1000) : Sm K H n (.str x) (.str x)
  | lst {n : Nat} {a b : Addr} {xs ys : List V} (h1 : SqL K H a xs) (h2 : SqL K H b ys) (hl : xs.length = ys.length) (hn : ys.length ≤ 1000) (hi : ∀ (i : Nat) (x y : V), xs[i]? = some x → ys[i]? = some y → Sm K H n x y) : Sm K H (n + 1) (.ref a) (.ref b)
  | tup {n : Nat} {a b : Addr} {xs ys : List V} (h1 : SqT K H a xs) (h2 : SqT K H b ys) (hl : xs.length = ys.length) (hn : ys.length ≤ 1000) (hi : ∀ (i : Nat) (x y : V), xs[i]? = some x → ys[i]? = some y → Sm K H n x y) : Sm K H (n + 1) (.ref a) (.ref b)
theorem same_sqT {K : PySem.W.Frag} {H H' : Hp} {a : Addr} {xs : List V} (e : Same H H') (h : SqT K H a xs) : SqT K H' a xs := by
  rcases h with (h | ⟨o, h⟩) | h
  · exact .inl (.inl (e _ _ h))
  · exact .inl (.inr ⟨o, e _ _ h⟩)
  · exact .inr h
theorem Sm.same {K : PySem.W.Frag} {H H' : Hp} (s : Same H H') {n : Nat} {x y : V} (h : Sm K H n x y) : Sm K H' n x y := by
  induction h with
  | non => exact .non
  | bl b => exact .bl b
  | int i => exact .int i
  | str x hx => exact .str x hx
  | lst h1 h2 hl hn hi ih => exact .lst (s.seq h1) (s.seq h2) hl hn ih
  | tup h1 h2 hl hn hi ih => exact .tup (same_sqT s h1) (same_sqT s h2) hl hn ih
theorem sq_tyL {K : PySem.W.Frag} {pn : List (Addr × Obj)} {H : Hp} {a : Addr} {xs : List V} (h : SqL K H a xs) : TyE K pn H (.ref a) (.type "list") := by
  rcases h with (h | ⟨o, h⟩) | ⟨o, its, n, e, c, _⟩
  · exact .base (.base (.lst h))
  · exact .base (.base (.frz h))
  · exact .base (.kList e c)
theorem sq_tyT {K : PySem.W.Frag} {pn : List (Addr × Obj)} {H : Hp} {a : Addr} {xs : List V} (h : SqT K H a xs) : TyE K pn H (.ref a) (.type "tuple") := by
  rcases h with (h | ⟨o, h⟩) | ⟨o, its, n, e, c, _⟩
  · exact .base (.base (.tup h))
  · exact .base (.fTuple h)
  · exact .base (.kTuple e c)
/-- isinstance of a value of a built-in type -/
theorem ist {K : PySem.W.Frag} {pn : List (Addr × Obj)} {H : Hp} {x : V} {t n : String} {Q : VK} (b : Bool) (ty : TyE K pn H x (.type t)) (h : kitB t n = some b) (q : Q (.bl b) H) : rIsX K pn [x, .ty n] H Q := ⟨x, .ty n, .type t, .type n, b, rfl, .ty n, ty, kit_ty h, q⟩
theorem cut_one {z : Str} {k : Nat} {c : Nat} (h : z.cps.toList[k]? = some c) : cutS z (some (k : Int)) (some ((k : Int) + 1)) = ⟨#[c]⟩ := by
  obtain ⟨hk, e⟩ := List.getElem?_eq_some_iff.mp h
  have hl : k < z.length := by
    have e1 : z.length = z.cps.size := rfl
    rw [e1, ← Array.length_toList]
    exact hk
  unfold cutS
  have e1 : HT.sIx z.length 0 (some (k : Int)) = k := by rw [HT.sIx_nat]; omega
  have e2 : HT.sIx z.length z.length (some ((k : Int) + 1)) = k + 1 := by
    have := HT.sIx_nat z.length z.length (k + 1)
    rw [Int.natCast_add] at this
    rw [show ((k : Int) + 1) = (k : Int) + ((1 : Nat) : Int) from rfl, this]
    omega
  rw [e1, e2, List.drop_eq_getElem_cons hk, e]
  have e3 : k + 1 - k = 1 := by omega
  rw [e3]
  rfl
/-- a def that promises nothing -/
theorem cal_none {m : Md} {P : Program} {w : World} {K : PySem.W.Frag} {mg : Str → Option Value} {base : Heap} {x : Str} {st : Stmt} {f : Addr} {fd : FuncData} {ps : List Str}
    (F : FunD K x x (defArgs st) (defBody st) (defScope st) [] [] f fd) (hm : mg x = some (.ref f)) (b : Binds K fd ps []) : CalM m P w K mg base 0 x (fun _ _ _ _ => False) :=
  ⟨f, fd, ps, ⟨fun _ _ _ _ h => h.elim, fun _ _ _ _ _ _ _ _ _ _ _ _ _ _ h => h.elim⟩, hm, F.kp, b⟩
section
variable {P : Program} {w : World} {K : PySem.W.Frag} {mg : Str → Option Value} {base : Heap}
def spSame (n : Nat) (K : PySem.W.Frag) : Sp := fun vs H Q _ => ∃ (t d : V) (j : Nat), vs = [t, d] ∧ j < n ∧ Sm K H j t d ∧ ∀ H', Same H H' → Q (.bl true) H'
theorem ok_same (m : Md) (T : Txt K mg) : ∀ n, CalM m P w K mg base n "_law_same" (spSame n K)
  | 0 => by
    obtain ⟨fd, F⟩ := T.fn_ 11 "_law_same" s_law_same
    obtain ⟨f, fd, ps, G, z⟩ := (cal_none (m := m) (P := P) (w := w) (base := base) F (T.g "_law_same") (F.bindsN (ps := ["told", "due"]) fun _ _ _ _ _ _ us hl => match us, hl with | [_, _], _ => rfl)).ex
    exact ⟨f, fd, ps, ⟨fun _ _ _ _ ⟨_, _, _, _, h, _⟩ => absurd h (Nat.not_lt_zero _), fun _ _ _ _ _ _ _ _ _ _ _ _ _ _ ⟨_, _, _, _, h, _⟩ => absurd h (Nat.not_lt_zero _)⟩, z⟩
  | n + 1 => by
    obtain ⟨fd, F⟩ := T.fn_ 11 "_law_same" s_law_same
    have G_law_same := ok_same m T n
    refine calM F (T.g "_law_same") (F.bindsN (ps := ["told", "due"]) fun _ _ _ _ _ _ us hl => match us, hl with | [_, _], _ => rfl) sc_law_same (fun vs H Q E h => ?_) (fun cdv A outer s H vs Q E hr mo h => ?_)
    · obtain ⟨t, d, j, rfl, _⟩ := h
      rfl
    · obtain ⟨t, d, j, rfl, hj, sm, kq⟩ := h
      refine ⟨_, (pss_cons (ps_if (PW.pt (pw_or (pt_cmpR op_isN (pv 1) (pe_non) (nomark _)) (pw_or1 (pt_val (pe_callB (cIsX K rfl (pn := pnOf m) rfl) (by rfl) (T.free "isinstance") (by decide +kernel) (pa_cons (pv 1) (pa_cons (pe_bltn (v := .ty "bool") (by rfl) (T.free "bool") (by decide +kernel) rfl) pa_nil))))))) (pss_one (ps_ret (pe_ifExp (pt_cmpR op_isN (pv 1) (pe_non) (nomark _)) (pe_cmpR op_isN (pv 0) (pe_non) (nomark _)) (pe_and (pe_callB (cIsX K rfl (pn := pnOf m) rfl) (by rfl) (T.free "isinstance") (by decide +kernel) (pa_cons (pv 0) (pa_cons (pe_bltn (v := .ty "bool") (by rfl) (T.free "bool") (by decide +kernel) rfl) pa_nil))) (pe_one (pe_cmpR op_eq (pe_cmpR op_isBl (pv 0) (pe_bl) (nomark _)) (pe_cmpR op_isBl (pv 1) (pe_bl) (nomark _)) (nomark _))))))) pss_nil)
      (pss_cons (ps_if (pt_val (pe_callB (cIsX K rfl (pn := pnOf m) rfl) (by rfl) (T.free "isinstance") (by decide +kernel) (pa_cons (pv 1) (pa_cons (pe_bltn (v := .ty "int") (by rfl) (T.free "int") (by decide +kernel) rfl) pa_nil)))) (pss_one (ps_ret (pe_and (pe_callB (cIsX K rfl (pn := pnOf m) rfl) (by rfl) (T.free "isinstance") (by decide +kernel) (pa_cons (pv 0) (pa_cons (pe_bltn (v := .ty "int") (by rfl) (T.free "int") (by decide +kernel) rfl) pa_nil))) (pe_and (pe_not (pe_callB (cIsX K rfl (pn := pnOf m) rfl) (by rfl) (T.free "isinstance") (by decide +kernel) (pa_cons (pv 0) (pa_cons (pe_bltn (v := .ty "bool") (by rfl) (T.free "bool") (by decide +kernel) rfl) pa_nil)))) (pe_one (pe_cmpR op_eq (pe_op op_sub (pe_callTy call_int1 (by rfl) (T.free "int") (by decide +kernel) (pa_cons (pv 0) pa_nil)) (pv 1)) (pe_int) (nomark _))))))) pss_nil)
      (pss_cons (ps_if (pt_val (pe_callB (cIsX K rfl (pn := pnOf m) rfl) (by rfl) (T.free "isinstance") (by decide +kernel) (pa_cons (pv 1) (pa_cons (pe_bltn (v := .ty "str") (by rfl) (T.free "str") (by decide +kernel) rfl) pa_nil)))) (pss_one (ps_ret (pe_and (pe_callB (cIsX K rfl (pn := pnOf m) rfl) (by rfl) (T.free "isinstance") (by decide +kernel) (pa_cons (pv 0) (pa_cons (pe_bltn (v := .ty "str") (by rfl) (T.free "str") (by decide +kernel) rfl) pa_nil))) (pe_and (pe_cmpR op_eq (pe_callB (cLen K rfl) (by rfl) (T.free "len") (by decide +kernel) (pa_cons (pv 0) pa_nil)) (pe_callB (cLen K rfl) (by rfl) (T.free "len") (by decide +kernel) (pa_cons (pv 1) pa_nil)) (nomark _)) (pe_one (pe_cmpR (opEqD K rfl hr.hu) (pe_lcM (own := [("k", 2)]) mo sc_law_same.nd (pi_rangeM rfl (T.free "range") (pa_cons (pe_callB (cLen K rfl) (by rfl) (T.free "len") (by decide +kernel) (pa_cons (pv 1) pa_nil)) pa_nil)) (blkOk_by (N := ["told", "due", "k"]) (sc := defScope s_law_same) (by decide +kernel)) (fun _ _ _ _ _ => (pg_name (i := 2) sc_law_same.nd rfl (Or.inl rfl))) (fun _ _ _ _ _ => (pts_one (pt_cmpR op_ne (pe_slice sl_str (pv 0) (po_some (pv 2)) (po_some (pe_op op_add (pv 2) pe_int))) (pe_ix (ixS K rfl) (pv 1) (pv 2) (fun _ _ => rfl)) (nomark _)))) (fun _ _ _ _ _ => (pv 2))) (pe_lst pa_nil) (nomark _))))))) pss_nil)
      (pss_cons (ps_if (PW.pt (pw_or (pt_cmpR op_ne (pe_callB (cIsX K rfl (pn := pnOf m) rfl) (by rfl) (T.free "isinstance") (by decide +kernel) (pa_cons (pv 0) (pa_cons (pe_bltn (v := .ty "list") (by rfl) (T.free "list") (by decide +kernel) rfl) pa_nil))) (pe_callB (cIsX K rfl (pn := pnOf m) rfl) (by rfl) (T.free "isinstance") (by decide +kernel) (pa_cons (pv 1) (pa_cons (pe_bltn (v := .ty "list") (by rfl) (T.free "list") (by decide +kernel) rfl) pa_nil))) (nomark _)) (pw_or1 (pt_cmpR op_ne (pe_callB (cIsX K rfl (pn := pnOf m) rfl) (by rfl) (T.free "isinstance") (by decide +kernel) (pa_cons (pv 0) (pa_cons (pe_bltn (v := .ty "tuple") (by rfl) (T.free "tuple") (by decide +kernel) rfl) pa_nil))) (pe_callB (cIsX K rfl (pn := pnOf m) rfl) (by rfl) (T.free "isinstance") (by decide +kernel) (pa_cons (pv 1) (pa_cons (pe_bltn (v := .ty "tuple") (by rfl) (T.free "tuple") (by decide +kernel) rfl) pa_nil))) (nomark _))))) (pss_one (ps_ret (pe_bl))) pss_nil)
      (pss_one (ps_ret (pe_and (pe_cmpR op_eq (pe_callB (cLen K rfl) (by rfl) (T.free "len") (by decide +kernel) (pa_cons (pv 0) pa_nil)) (pe_callB (cLen K rfl) (by rfl) (T.free "len") (by decide +kernel) (pa_cons (pv 1) pa_nil)) (nomark _)) (pe_one (pe_cmpR (opEqD K rfl hr.hu) (pe_lcM (own := [("k", 2)]) mo sc_law_same.nd (pi_rangeM rfl (T.free "range") (pa_cons (pe_callB (cLen K rfl) (by rfl) (T.free "len") (by decide +kernel) (pa_cons (pv 1) pa_nil)) pa_nil)) (blkOk_by (N := ["told", "due", "k"]) (sc := defScope s_law_same) (by decide +kernel)) (fun _ _ _ _ _ => (pg_name (i := 2) sc_law_same.nd rfl (Or.inl rfl))) (fun _ _ _ _ _ => (pts_one (pt_not (pt_val (pe_callC G_law_same ⟨mo.pn, mo.c, mo.h⟩ (hr.mono (by omega)) rfl (pa_cons (pe_ix (ixS K rfl) (pv 0) (pv 2) (fun _ _ => rfl)) (pa_cons (pe_ix (ixS K rfl) (pv 1) (pv 2) (fun _ _ => rfl)) pa_nil))))))) (fun _ _ _ _ _ => (pv 2))) (pe_lst pa_nil) (nomark _)))))))))), ?_⟩
      have fin : ∀ {b : Bool} {H' : Hp}, b = true → Same H H' → Q (.bl b) H' := fun e s => by rw [e]; exact kq _ s
      have kb : ∀ {x : V} {tn : String} (b : Bool), TyX K H x (.type tn) → True := fun _ _ => True.intro
      cases sm with
      | non => exact ⟨_, rfl, rfl, _, rfl, iteT ⟨_, rfl, rfl, _, rfl, iteT ⟨_, rfl, rfl, kq _ (Same.refl H)⟩⟩⟩
      | bl b =>
        have ty : TyE K (pnOf m) H (.bl b) (.type "bool") := .base (.base (.bl b))
        refine ⟨_, rfl, rfl, _, rfl, iteF ⟨_, rfl, _, .ty "bool", _, .type "bool", true, rfl, .ty _, ty, kit_ty (by decide +kernel), _, rfl, iteT ?_⟩⟩
        refine ⟨_, rfl, rfl, _, rfl, iteF ⟨_, rfl, _, .ty "bool", _, .type "bool", true, rfl, .ty _, ty, kit_ty (by decide +kernel), _, rfl, iteT ?_⟩⟩
        exact ⟨_, rfl, b, true, rfl, rfl, _, rfl, b, true, rfl, rfl, rfl, fin (decide_eq_true rfl) (Same.refl H)⟩
      | int i =>
        have ty : TyE K (pnOf m) H (.int i) (.type "int") := .base (.base (.int i))
        refine ⟨_, rfl, rfl, _, rfl, iteF ⟨_, rfl, _, .ty "bool", _, .type "bool", false, rfl, .ty _, ty, kit_ty (by decide +kernel), _, rfl, iteF ?_⟩⟩
        refine ⟨_, rfl, _, .ty "int", _, .type "int", true, rfl, .ty _, ty, kit_ty (by decide +kernel), _, rfl, iteT ?_⟩
        refine ⟨_, rfl, _, .ty "int", _, .type "int", true, rfl, .ty _, ty, kit_ty (by decide +kernel), _, rfl, iteT ⟨_, rfl, _, .ty "bool", _, .type "bool", false, rfl, .ty _, ty, kit_ty (by decide +kernel), _, rfl, ?_⟩⟩
        refine ⟨_, rfl, iteT ⟨_, rfl, .inl ⟨_, rfl, _, rfl, _, _, rfl, rfl, rfl, fin (decide_eq_true ?_) (Same.refl H)⟩⟩⟩
        show V.int (i - i) = V.int 0
        rw [Int.sub_self]
      | str x hx =>
        have ty : TyE K (pnOf m) H (.str x) (.type "str") := .base (.base (.str x))
        have hz : x.length ≤ sizeLine := Nat.le_trans hx (by decide)
        refine ⟨_, rfl, rfl, _, rfl, iteF ⟨_, rfl, _, .ty "bool", _, .type "bool", false, rfl, .ty _, ty, kit_ty (by decide +kernel), _, rfl, iteF ?_⟩⟩
        refine ⟨_, rfl, _, .ty "int", _, .type "int", false, rfl, .ty _, ty, kit_ty (by decide +kernel), _, rfl, iteF ?_⟩
        refine ⟨_, rfl, _, .ty "str", _, .type "str", true, rfl, .ty _, ty, kit_ty (by decide +kernel), _, rfl, iteT ?_⟩
        refine ⟨_, rfl, _, .ty "str", _, .type "str", true, rfl, .ty _, ty, kit_ty (by decide +kernel), _, rfl, iteT ?_⟩
        refine ⟨_, rfl, _, x.length, rfl, ⟨hz, rfl⟩, _, rfl, _, x.length, rfl, ⟨hz, rfl⟩, rfl, _, rfl, ?_⟩
        rw [decide_eq_true (rfl : V.int (x.length : Int) = _)]
        refine iteT ?_
        refine ⟨_, rfl, _, x.length, rfl, ⟨hz, rfl⟩, _, rfl, by omega, by omega, fun D hD => ?_⟩
        refine pick (n := x.length) (j := 2) hx hD ?_ (fun _ => false) (fun k H3 hk s3 kk kq3 => ?_) (fun H3 s3 h3 => ?_)
        · show 2 < 3
          decide
        · have hc : k < x.cps.toList.length := by rw [Array.length_toList]; exact hk
          have hcx := List.getElem?_eq_getElem hc
          refine ⟨_, rfl, _, rfl, _, rfl, _, rfl, _, _, rfl, rfl, _, rfl, x, rfl, hz, _, rfl, _, rfl, .inr (.inr ⟨x, _, _, rfl, rfl, hz, atI_nat hcx, rfl, _, rfl, ?_⟩)⟩
          rw [cut_one hcx, decide_eq_true rfl]
          exact kq3 H3 (Same.refl H3)
        · rw [filter_none] at h3
          refine ⟨Nat.zero_le _, fun q hq => ⟨_, _, lst_eq (l := []) (.inl (Rd.of (same_new hq _ _ h3))), lst_eq (l := []) (.inl (Rd.of upd_same)), rfl, rfl, fin rfl (s3.trans (same_new hq))⟩⟩
      | lst h1 h2 hl hn hi =>
        rename_i n0 a b xs ys
        have ta : TyE K (pnOf m) H (.ref a) (.type "list") := sq_tyL h1
        have tb : TyE K (pnOf m) H (.ref b) (.type "list") := sq_tyL h2
        refine ⟨_, rfl, rfl, _, rfl, iteF ⟨_, rfl, _, .ty "bool", _, .type "bool", false, rfl, .ty _, tb, kit_ty (by decide +kernel), _, rfl, iteF ?_⟩⟩
        refine ⟨_, rfl, _, .ty "int", _, .type "int", false, rfl, .ty _, tb, kit_ty (by decide +kernel), _, rfl, iteF ?_⟩
        refine ⟨_, rfl, _, .ty "str", _, .type "str", false, rfl, .ty _, tb, kit_ty (by decide +kernel), _, rfl, iteF ?_⟩
        refine ⟨_, rfl, _, .ty "list", _, .type "list", true, rfl, .ty _, ta, kit_ty (by decide +kernel), _, rfl, _, .ty "list", _, .type "list", true, rfl, .ty _, tb, kit_ty (by decide +kernel), rfl, _, rfl, iteF ?_⟩
        refine ⟨_, rfl, _, .ty "tuple", _, .type "tuple", false, rfl, .ty _, ta, kit_ty (by decide +kernel), _, rfl, _, .ty "tuple", _, .type "tuple", false, rfl, .ty _, tb, kit_ty (by decide +kernel), rfl, _, rfl, iteF ?_⟩
        refine ⟨_, rfl, _, xs.length, rfl, .inl ⟨_, h1, rfl⟩, _, rfl, _, ys.length, rfl, .inl ⟨_, h2, rfl⟩, rfl, _, rfl, ?_⟩
        rw [hl, decide_eq_true (rfl : V.int (ys.length : Int) = _)]
        refine iteT ⟨_, rfl, _, ys.length, rfl, .inl ⟨_, h2, rfl⟩, _, rfl, by omega, by omega, fun D hD => ?_⟩
        refine pick (n := ys.length) (j := 2) hn hD ?_ (fun _ => false) (fun k H3 hk s3 kk kq3 => ?_) (fun H3 s3 h3 => ?_)
        · show 2 < 3
          decide
        · have hx := List.getElem?_eq_getElem (l := xs) (i := k) (by omega)
          have hy := List.getElem?_eq_getElem (l := ys) (i := k) hk
          refine ⟨_, rfl, _, rfl, .inl ⟨a, xs, _, xs[k], rfl, rfl, s3.seq h1, atI_nat hx, ?_⟩⟩
          refine ⟨_, rfl, _, rfl, .inl ⟨b, ys, _, ys[k], rfl, rfl, s3.seq h2, atI_nat hy, ?_⟩⟩
          exact ⟨_, _, n0, rfl, by omega, (hi k _ _ hx hy).same s3, fun H' s' => ⟨_, rfl, kq3 H' s'⟩⟩
        · rw [filter_none] at h3
          refine ⟨Nat.zero_le _, fun q hq => ⟨_, _, lst_eq (l := []) (.inl (Rd.of (same_new hq _ _ h3))), lst_eq (l := []) (.inl (Rd.of upd_same)), rfl, rfl, fin rfl (s3.trans (same_new hq))⟩⟩
      | tup h1 h2 hl hn hi =>
        rename_i n0 a b xs ys
        have ta : TyE K (pnOf m) H (.ref a) (.type "tuple") := sq_tyT h1
        have tb : TyE K (pnOf m) H (.ref b) (.type "tuple") := sq_tyT h2
        refine ⟨_, rfl, rfl, _, rfl, iteF ⟨_, rfl, _, .ty "bool", _, .type "bool", false, rfl, .ty _, tb, kit_ty (by decide +kernel), _, rfl, iteF ?_⟩⟩
        refine ⟨_, rfl, _, .ty "int", _, .type "int", false, rfl, .ty _, tb, kit_ty (by decide +kernel), _, rfl, iteF ?_⟩
        refine ⟨_, rfl, _, .ty "str", _, .type "str", false, rfl, .ty _, tb, kit_ty (by decide +kernel), _, rfl, iteF ?_⟩
        refine ⟨_, rfl, _, .ty "list", _, .type "list", false, rfl, .ty _, ta, kit_ty (by decide +kernel), _, rfl, _, .ty "list", _, .type "list", false, rfl, .ty _, tb, kit_ty (by decide +kernel), rfl, _, rfl, iteF ?_⟩
        refine ⟨_, rfl, _, .ty "tuple", _, .type "tuple", true, rfl, .ty _, ta, kit_ty (by decide +kernel), _, rfl, _, .ty "tuple", _, .type "tuple", true, rfl, .ty _, tb, kit_ty (by decide +kernel), rfl, _, rfl, iteF ?_⟩
        refine ⟨_, rfl, _, xs.length, rfl, .inr ⟨_, h1, rfl⟩, _, rfl, _, ys.length, rfl, .inr ⟨_, h2, rfl⟩, rfl, _, rfl, ?_⟩
        rw [hl, decide_eq_true (rfl : V.int (ys.length : Int) = _)]
        refine iteT ⟨_, rfl, _, ys.length, rfl, .inr ⟨_, h2, rfl⟩, _, rfl, by omega, by omega, fun D hD => ?_⟩
        refine pick (n := ys.length) (j := 2) hn hD ?_ (fun _ => false) (fun k H3 hk s3 kk kq3 => ?_) (fun H3 s3 h3 => ?_)
        · show 2 < 3
          decide
        · have hx := List.getElem?_eq_getElem (l := xs) (i := k) (by omega)
          have hy := List.getElem?_eq_getElem (l := ys) (i := k) hk
          refine ⟨_, rfl, _, rfl, .inr (.inl ⟨a, xs, _, xs[k], rfl, rfl, same_sqT s3 h1, atI_nat hx, ?_⟩)⟩
          refine ⟨_, rfl, _, rfl, .inr (.inl ⟨b, ys, _, ys[k], rfl, rfl, same_sqT s3 h2, atI_nat hy, ?_⟩)⟩
          exact ⟨_, _, n0, rfl, by omega, (hi k _ _ hx hy).same s3, fun H' s' => ⟨_, rfl, kq3 H' s'⟩⟩
        · rw [filter_none] at h3
          refine ⟨Nat.zero_le _, fun q hq => ⟨_, _, lst_eq (l := []) (.inl (Rd.of (same_new hq _ _ h3))), lst_eq (l := []) (.inl (Rd.of upd_same)), rfl, rfl, fin rfl (s3.trans (same_new hq))⟩⟩
end
end Kn

set_option Elab.async false
set_option linter.all false
set_option maxRecDepth 100000
set_option maxHeartbeats 4000000
namespace Kx
open PySem PySem.Spec PyProof.Rows L2
/-- runs with the dict at hand locked, or as it is -/
def tLock2 (t : TE) : TE := fun σ H Q => tLockE t σ H Q ∨ t σ H Q
theorem pe_lock2 {X : Cx} {e : Expr} {t : TE} (h : PE X e t) : PE X e (tLock2 t) := by
  refine ⟨fun pins s σ H Q I hw => ?_⟩
  rcases hw with hw | hw
  · exact (pe_lock h).run pins s σ H Q I hw
  · exact h.run pins s σ H Q I hw
def LenU (K : PySem.W.Frag) (x : V) (H : Hp) (n : Nat) : Prop := LenV K x H n ∨ ∃ a kvs, x = V.ref a ∧ Rd H a (.dK kvs) ∧ n = kvs.length
theorem cLenU {X : Cx} (K : PySem.W.Frag) (h : X.K = K) : CallR X (.builtin "len") (fun xs H Q => ∃ x n, xs = [x] ∧ LenU K x H n ∧ Q (.int n) H) := by
  intro pins s σ H xs us Q I r hw
  obtain ⟨x, n, rfl, l, q⟩ := hw
  rcases l with l | ⟨a, kvs, rfl, hd, rfl⟩
  · exact cLen K h pins s σ H [x] us Q I r ⟨x, n, rfl, l, q⟩
  · exact cLenDict pins s σ H [.ref a] us Q I r ⟨a, kvs, rfl, hd, q⟩
end Kx

set_option Elab.async false
set_option linter.all false
set_option maxRecDepth 100000
set_option maxHeartbeats 4000000
namespace Kn
open PySem PySem.Spec PyProof.Rows L2 L2H Kx
/-- what stood stands, or is locked -/
def Sees (H H' : Hp) : Prop := ∀ b o, H b = some o → H' b = some o ∨ ∃ (od : Obj) (kvs : List (Key × V)), o = .dK kvs ∧ H' b = some (.frz od (.dK kvs))
theorem Sees.of {H H' : Hp} (s : Same H H') : Sees H H' := fun b o e => .inl (s b o e)
theorem Sees.lock {H : Hp} {d : Addr} {od : Obj} {kvs : List (Key × V)} (h : H d = some (.dK kvs)) : Sees H (upd H d (.frz od (.dK kvs))) := fun b o e => by
  by_cases z : b = d
  · subst z
    rw [h] at e
    cases e
    exact .inr ⟨od, kvs, rfl, upd_same⟩
  · rw [upd_ne z]
    exact .inl e
theorem Sees.sqL {K : PySem.W.Frag} {H H' : Hp} (s : Sees H H') {a : Addr} {xs : List V} (h : SqL K H a xs) : SqL K H' a xs := by
  rcases h with (h | ⟨o, h⟩) | h
  · rcases s _ _ h with e | ⟨_, _, z, _⟩
    · exact .inl (.inl e)
    · cases z
  · rcases s _ _ h with e | ⟨_, _, z, _⟩
    · exact .inl (.inr ⟨o, e⟩)
    · cases z
  · exact .inr h
theorem Sees.sqT {K : PySem.W.Frag} {H H' : Hp} (s : Sees H H') {a : Addr} {xs : List V} (h : SqT K H a xs) : SqT K H' a xs := by
  rcases h with (h | ⟨o, h⟩) | h
  · rcases s _ _ h with e | ⟨_, _, z, _⟩
    · exact .inl (.inl e)
    · cases z
  · rcases s _ _ h with e | ⟨_, _, z, _⟩
    · exact .inl (.inr ⟨o, e⟩)
    · cases z
  · exact .inr h
theorem Sees.dic {H H' : Hp} (s : Sees H H') {a : Addr} {kvs : List (Key × V)} (h : Rd H a (.dK kvs)) : Rd H' a (.dK kvs) := by
  rcases h with h | ⟨o, h⟩
  · rcases s _ _ h with e | ⟨od, _, z, e⟩
    · exact .inl e
    · cases z
      exact .inr ⟨od, e⟩
  · rcases s _ _ h with e | ⟨_, _, z, _⟩
    · exact .inr ⟨o, e⟩
    · cases z
theorem Sees.ex {K : PySem.W.Frag} {H H' : Hp} (s : Sees H H') {a : Addr} {i : Nat} {one other : V} (x : ExAt [] K H a i one other) : ExAt [] K H' a i one other := by
  have ev : ∀ {C : Addr} {d : Option Addr}, EV [] H a C d → EV [] H' a C d := fun e => by
    rcases e with e | ⟨_, h, _⟩
    · rcases s _ _ e with e | ⟨_, _, z, _⟩
      · exact .inl e
      · cases z
    · cases h
  rcases x with ⟨h, d, e, f⟩ | ⟨h, h2, e⟩
  · refine .inl ⟨h, d, ev e, ?_⟩
    rcases s _ _ f with f | ⟨_, _, z, _⟩
    · exact f
    · cases z
  · exact .inr ⟨h, h2, ev e⟩
theorem ExAt.pn {K : PySem.W.Frag} {H : Hp} {a : Addr} {i : Nat} {one other : V} (pn : List (Addr × Obj)) (x : ExAt [] K H a i one other) : ExAt pn K H a i one other := by
  have ev : ∀ {C : Addr} {d : Option Addr}, EV [] H a C d → EV pn H a C d := fun e => by
    rcases e with e | ⟨_, h, _⟩
    · exact .inl e
    · cases h
  rcases x with ⟨h, d, e, f⟩ | ⟨h, h2, e⟩
  · exact .inl ⟨h, d, ev e, f⟩
  · exact .inr ⟨h, h2, ev e⟩
/-- the one automaton of the values -/
structure AutAt (K : PySem.W.Frag) (H : Hp) (a : Addr) : Prop where
  ex : ∃ (dx : Addr) (fs : List (Str × V)) (s r e : Addr), H a = some (.ins (AU K) dx fs) ∧ fs.lookup ("letters" : Str) = some (V.int 1) ∧ fs.lookup ("start" : Str) = some (V.int 0) ∧ fs.lookup ("steps" : Str) = some (V.ref s) ∧ fs.lookup ("accepting" : Str) = some (V.ref e) ∧
    SqT K H s [.ref r] ∧ SqT K H r [.int 0] ∧ SqT K H e []
theorem Sees.aut {K : PySem.W.Frag} {H H' : Hp} (s : Sees H H') {a : Addr} (x : AutAt K H a) : AutAt K H' a := by
  obtain ⟨dx, fs, q, r, e, h, l1, l2, l3, l4, t1, t2, t3⟩ := x.ex
  refine ⟨dx, fs, q, r, e, ?_, l1, l2, l3, l4, s.sqT t1, s.sqT t2, s.sqT t3⟩
  rcases s _ _ h with h | ⟨_, _, z, _⟩
  · exact h
  · cases z
/-- alike: what _law_like goes down -/
inductive Lk (K : PySem.W.Frag) (H : Hp) : Nat → V → V → Prop
  | leaf {n : Nat} {x y : V} (h : Sm K H 0 x y) : Lk K H n x y
  | lst {n : Nat} {a b : Addr} {xs ys : List V} (h1 : SqL K H a xs) (h2 : SqL K H b ys) (hl : xs.length = ys.length) (hn : ys.length ≤ 1000) (hi : ∀ (i : Nat) (x y : V), xs[i]? = some x → ys[i]? = some y → Lk K H n x y) : Lk K H (n + 1) (.ref a) (.ref b)
  | tup {n : Nat} {a b : Addr} {xs ys : List V} (h1 : SqT K H a xs) (h2 : SqT K H b ys) (hl : xs.length = ys.length) (hn : ys.length ≤ 1000) (hi : ∀ (i : Nat) (x y : V), xs[i]? = some x → ys[i]? = some y → Lk K H n x y) : Lk K H (n + 1) (.ref a) (.ref b)
  | dic {n : Nat} {a b : Addr} {xs ys : List (Key × V)} (h1 : Rd H a (.dK xs)) (h2 : Rd H b (.dK ys)) (hl : xs.length = ys.length) (hn : ys.length ≤ 1000) (hv : ∀ (i : Nat) (k : Key) (y : V), ys[i]? = some (k, y) → valV ys k = some y ∧ ∃ x, valV xs k = some x) (hi : ∀ (i : Nat) (k : Key) (x y : V), ys[i]? = some (k, y) → valV xs k = some x → Lk K H n x y) : Lk K H (n + 1) (.ref a) (.ref b)
  | aut {n : Nat} {a : Addr} (h : AutAt K H a) : Lk K H n (.ref a) (.ref a)
  | iw {n : Nat} {a : Addr} {one other : V} (x : ExAt [] K H a 27 one other) (h : Lk K H n one one) : Lk K H (n + 1) (.ref a) (.ref a)
  | nt {n : Nat} {a : Addr} {one other : V} (x : ExAt [] K H a 40 one other) : Lk K H n (.ref a) (.ref a)
theorem Sm.any {K : PySem.W.Frag} {H H' : Hp} {x y : V} (n : Nat) (h : Sm K H 0 x y) : Sm K H' n x y := by
  cases h with
  | non => exact .non
  | bl b => exact .bl b
  | int i => exact .int i
  | str x hx => exact .str x hx
theorem Lk.sees {K : PySem.W.Frag} {H H' : Hp} (s : Sees H H') {n : Nat} {x y : V} (h : Lk K H n x y) : Lk K H' n x y := by
  induction h with
  | leaf h => exact .leaf (Sm.any 0 h)
  | lst h1 h2 hl hn hi ih => exact .lst (s.sqL h1) (s.sqL h2) hl hn ih
  | tup h1 h2 hl hn hi ih => exact .tup (s.sqT h1) (s.sqT h2) hl hn ih
  | dic h1 h2 hl hn hv hi ih => exact .dic (s.dic h1) (s.dic h2) hl hn hv ih
  | aut h => exact .aut (s.aut h)
  | iw x h ih => exact .iw (s.ex x) ih
  | nt x => exact .nt (s.ex x)
theorem Lk.same {K : PySem.W.Frag} {H H' : Hp} (s : Same H H') {n : Nat} {x y : V} (h : Lk K H n x y) : Lk K H' n x y := h.sees (Sees.of s)
theorem rd_ty {K : PySem.W.Frag} {pn : List (Addr × Obj)} {H : Hp} {a : Addr} {kvs : List (Key × V)} (h : Rd H a (.dK kvs)) : TyE K pn H (.ref a) (.type "dict") := by
  rcases h with h | ⟨o, h⟩
  · exact .base (.base (.dK h))
  · exact .base (.fDict h)
theorem aut_ty {K : PySem.W.Frag} {mg : Str → Option Value} {pn : List (Addr × Obj)} {H : Hp} {a : Addr} (T : Txt K mg) (h : AutAt K H a) : TyE K pn H (.ref a) (.ref (AU K)) := by
  obtain ⟨dx, fs, q, r, e, h, _⟩ := h.ex
  have c := (chk_parts T.says.chk).2.2.2.2.2.2.2.2.2.2
  have c1 := c.1
  have c2 := c.2.1
  unfold auCls at c1
  unfold auIs at c2
  simp only [Bool.and_eq_true, decide_eq_true_eq] at c1 c2
  exact .base (.base (.ins h (He.cls_ok c1.1) c2.1 c2.2.1 c2.2.2.1 c2.2.2.2))
theorem au_noat {K : PySem.W.Frag} {mg : Str → Option Value} (T : Txt K mg) (f : Str) (h : (["letters", "start", "steps", "accepting", "size"] : List Str).contains f = true := by decide) : NoAttr K (AU K) f := by
  have c1 := (chk_parts T.says.chk).2.2.2.2.2.2.2.2.2.2.1
  unfold auCls at c1
  simp only [Bool.and_eq_true, List.all_eq_true] at c1
  exact He.noat_ok (c1.2.2 f (List.contains_iff_mem.mp h))
theorem au_isCls {K : PySem.W.Frag} {mg : Str → Option Value} (T : Txt K mg) : Cls K (AU K) := by
  have c1 := (chk_parts T.says.chk).2.2.2.2.2.2.2.2.2.2.1
  unfold auCls at c1
  simp only [Bool.and_eq_true] at c1
  exact He.cls_ok c1.1
/-- over the keys of a locked dict, none picked -/
theorem pickD {d : Addr} {o : Obj} {kvs : List (Key × V)} {j : Nat} {tt : TT} {σ : St} {Q : Hp → Prop} {D : Addr} {H1 : Hp} (hlk : H1 d = some (.frz o (.dK kvs))) (hD : H1 D = none)
    (hs : ∀ (i : Nat) (k : Key) (v : V) (H : Hp), kvs[i]? = some (k, v) → Same H1 H → ∀ kk : Bool → Hp → Prop, (∀ H', Same H H' → kk false H') → tt (σ.set j (some (kV k))) H kk)
    (hd : ∀ H, Same H1 H → H D = some (.lst []) → Q H) : LcEnd (Itk d o kvs) (gName j) tt (tVar j) [j] σ Q D H1 := by
  refine ⟨fun i m H => m = kvs.length - i ∧ i ≤ kvs.length ∧ Same H1 H ∧ H D = some (.lst []), ⟨_, rfl, Nat.zero_le _, same_new hD, upd_same⟩, ?_⟩
  rintro i m H ⟨rfl, hi, s, e⟩
  by_cases hlt : i < kvs.length
  · refine .inr ⟨⟨s _ _ hlk, hlt⟩, fun H' => Same H1 H' ∧ H' D = some (.lst []), fun H' h => ⟨_, by omega, rfl, hlt, h⟩, fun x H' y => ?_⟩
    obtain ⟨rfl, k, v, ek, rfl⟩ := y
    refine ⟨wipe1, ?_⟩
    rw [wipe_set]
    refine hs i k v H' ek s _ fun H2 s2 => ?_
    rw [if_neg Bool.false_ne_true]
    exact ⟨s.trans s2, s2 _ _ e⟩
  · exact .inl ⟨⟨s _ _ hlk, by omega⟩, hd H s e⟩
theorem kit_lt {K : PySem.W.Frag} {n : String} (h : n = "list" ∨ n = "tuple") : PySem.W.kitAny K (.type n) [.type "list", .type "tuple"] = some true := by
  rcases h with rfl | rfl
  · exact kitAny_cons (b := true) (kit_ty (by decide +kernel)) (fun z => nomatch z) (fun _ => rfl)
  · exact kitAny_cons (b := false) (kit_ty (by decide +kernel)) (fun _ => kitAny_cons (b := true) (kit_ty (by decide +kernel)) (fun z => nomatch z) (fun _ => rfl)) (fun z => nomatch z)
theorem iteF' {c : Bool} {p q : Prop} (h : c = false) (k : q) : if c = true then p else q := by
  subst h
  exact k
section
variable {P : Program} {w : World} {K : PySem.W.Frag} {mg : Str → Option Value} {base : Heap}
def spLike (n : Nat) (K : PySem.W.Frag) : Sp := fun vs H Q _ => ∃ (t d : V) (j : Nat), vs = [t, d] ∧ j < n ∧ Lk K H j t d ∧ ∀ H', Same H H' → Q (.bl true) H'
/-- isinstance of a value, whose type is told -/
theorem istE {pn : List (Addr × Obj)} {H : Hp} {x c : V} {t u : Value} {Q : VK} (b : Bool) (ty : TyE K pn H x t) (k : ClsV c u) (h : PySem.W.kitOne K t u = some b) (q : Q (.bl b) H) : rIsX K pn [x, c] H Q := ⟨x, c, t, u, b, rfl, k, ty, h, q⟩
theorem ok_like (m : Md) (T : Txt K mg) : ∀ n, CalM m P w K mg base (n + 4) "_law_like" (spLike n K)
  | 0 => by
    obtain ⟨fd, F⟩ := T.fn_ 20 "_law_like" s_law_like
    obtain ⟨f, fd, ps, G, z⟩ := (cal_none (m := m) (P := P) (w := w) (base := base) F (T.g "_law_like") (F.bindsN (ps := ["told", "due"]) fun _ _ _ _ _ _ us hl => match us, hl with | [_, _], _ => rfl)).ex
    refine CalM.mono (j := 0) ?_ (by omega)
    exact ⟨f, fd, ps, ⟨fun _ _ _ _ ⟨_, _, _, _, h, _⟩ => absurd h (Nat.not_lt_zero _), fun _ _ _ _ _ _ _ _ _ _ _ _ _ _ ⟨_, _, _, _, h, _⟩ => absurd h (Nat.not_lt_zero _)⟩, z⟩
  | n + 1 => by
    obtain ⟨fd, F⟩ := T.fn_ 20 "_law_like" s_law_like
    have G_law_like := ok_like m T n
    have G_law_same := ok_same (P := P) (w := w) (base := base) m T 4
    refine calM F (T.g "_law_like") (F.bindsN (ps := ["told", "due"]) fun _ _ _ _ _ _ us hl => match us, hl with | [_, _], _ => rfl) sc_law_like (fun vs H Q E h => ?_) (fun cdv A outer s H vs Q E hr mo h => ?_)
    · obtain ⟨t, d, j, rfl, _⟩ := h
      rfl
    · obtain ⟨t, d, j, rfl, hj, lk, kq⟩ := h
      refine ⟨_, (pss_cons (ps_if (pt_val (pe_callB (cIsX K rfl (pn := pnOf m) rfl) (by rfl) (T.free "isinstance") (by decide +kernel) (pa_cons (pv 1) (pa_cons (pe_bltn (v := .ty "dict") (by rfl) (T.free "dict") (by decide +kernel) rfl) pa_nil)))) (pss_cons (ps_if (PW.pt (pw_or (pt_not (pt_val (pe_callB (cIsX K rfl (pn := pnOf m) rfl) (by rfl) (T.free "isinstance") (by decide +kernel) (pa_cons (pv 0) (pa_cons (pe_bltn (v := .ty "dict") (by rfl) (T.free "dict") (by decide +kernel) rfl) pa_nil))))) (pw_or1 (pt_cmpR op_ne (pe_callB (cLenU K rfl) (by rfl) (T.free "len") (by decide +kernel) (pa_cons (pv 0) pa_nil)) (pe_callB (cLenU K rfl) (by rfl) (T.free "len") (by decide +kernel) (pa_cons (pv 1) pa_nil)) (nomark _))))) (pss_one (ps_ret (pe_bl))) pss_nil)
        (pss_one (ps_ret (pe_cmpR (opEqD K rfl hr.hu) (pe_lock2 (pe_lcM (own := [("key", 2)]) mo sc_law_like.nd (pi_keyM (pv 1)) (blkOk_by (N := ["told", "due", "key", "k"]) (sc := defScope s_law_like) (by decide +kernel)) (fun _ _ _ _ _ => (pg_name (i := 2) sc_law_like.nd rfl (Or.inl rfl))) (fun _ _ _ _ _ => (pts_one (PW.pt (pw_or (pt_cmp (pc_dnotin (RoomM.hu1 hr) (pv 2) (pv 0))) (pw_or1 (pt_not (pt_val (pe_callC G_law_like ⟨mo.pn, mo.c, mo.h⟩ (hr.mono (by omega)) rfl (pa_cons (pe_dget (RoomM.hu1 hr) (pv 0) (pv 2) (fun _ _ => rfl)) (pa_cons (pe_dget (RoomM.hu1 hr) (pv 1) (pv 2) (fun _ _ => rfl)) pa_nil)))))))))) (fun _ _ _ _ _ => (pv 2)))) (pe_lst pa_nil) (nomark _))))) pss_nil)
      (pss_cons (ps_if (pt_val (pe_callB (cIsXT K rfl (pn := pnOf m) rfl) (by rfl) (T.free "isinstance") (by decide +kernel) (pa_cons (pv 1) (pa_cons (pe_tup (pa_cons (pe_bltn (v := .ty "list") (by rfl) (T.free "list") (by decide +kernel) rfl) (pa_cons (pe_bltn (v := .ty "tuple") (by rfl) (T.free "tuple") (by decide +kernel) rfl) pa_nil))) pa_nil)))) (pss_cons (ps_if (PW.pt (pw_or (pt_cmpR op_ne (pe_callB (cIsX K rfl (pn := pnOf m) rfl) (by rfl) (T.free "isinstance") (by decide +kernel) (pa_cons (pv 0) (pa_cons (pe_bltn (v := .ty "list") (by rfl) (T.free "list") (by decide +kernel) rfl) pa_nil))) (pe_callB (cIsX K rfl (pn := pnOf m) rfl) (by rfl) (T.free "isinstance") (by decide +kernel) (pa_cons (pv 1) (pa_cons (pe_bltn (v := .ty "list") (by rfl) (T.free "list") (by decide +kernel) rfl) pa_nil))) (nomark _)) (pw_or (pt_cmpR op_ne (pe_callB (cIsX K rfl (pn := pnOf m) rfl) (by rfl) (T.free "isinstance") (by decide +kernel) (pa_cons (pv 0) (pa_cons (pe_bltn (v := .ty "tuple") (by rfl) (T.free "tuple") (by decide +kernel) rfl) pa_nil))) (pe_callB (cIsX K rfl (pn := pnOf m) rfl) (by rfl) (T.free "isinstance") (by decide +kernel) (pa_cons (pv 1) (pa_cons (pe_bltn (v := .ty "tuple") (by rfl) (T.free "tuple") (by decide +kernel) rfl) pa_nil))) (nomark _)) (pw_or1 (pt_cmpR op_ne (pe_callB (cLenU K rfl) (by rfl) (T.free "len") (by decide +kernel) (pa_cons (pv 0) pa_nil)) (pe_callB (cLenU K rfl) (by rfl) (T.free "len") (by decide +kernel) (pa_cons (pv 1) pa_nil)) (nomark _)))))) (pss_one (ps_ret (pe_bl))) pss_nil)
        (pss_one (ps_ret (pe_cmpR (opEqD K rfl hr.hu) (pe_lcM (own := [("k", 3)]) mo sc_law_like.nd (pi_rangeM rfl (T.free "range") (pa_cons (pe_callB (cLenU K rfl) (by rfl) (T.free "len") (by decide +kernel) (pa_cons (pv 1) pa_nil)) pa_nil)) (blkOk_by (N := ["told", "due", "key", "k"]) (sc := defScope s_law_like) (by decide +kernel)) (fun _ _ _ _ _ => (pg_name (i := 3) sc_law_like.nd rfl (Or.inl rfl))) (fun _ _ _ _ _ => (pts_one (pt_not (pt_val (pe_callC G_law_like ⟨mo.pn, mo.c, mo.h⟩ (hr.mono (by omega)) rfl (pa_cons (pe_ix (ixS K rfl) (pv 0) (pv 3) (fun _ _ => rfl)) (pa_cons (pe_ix (ixS K rfl) (pv 1) (pv 3) (fun _ _ => rfl)) pa_nil))))))) (fun _ _ _ _ _ => (pv 3))) (pe_lst pa_nil) (nomark _))))) pss_nil)
      (pss_cons (ps_if (pt_val (pe_callB (cIsX K rfl (pn := pnOf m) rfl) (by rfl) (T.free "isinstance") (by decide +kernel) (pa_cons (pv 1) (pa_cons (pe_glob (v := .ref (AU K)) rfl (T.g "Automaton") rfl) pa_nil)))) (pss_one (ps_ret (pe_and (pe_callB (cIsX K rfl (pn := pnOf m) rfl) (by rfl) (T.free "isinstance") (by decide +kernel) (pa_cons (pv 0) (pa_cons (pe_glob (v := .ref (AU K)) rfl (T.g "Automaton") rfl) pa_nil))) (pe_one (pe_callC G_law_same ⟨mo.pn, mo.c, mo.h⟩ (hr.mono (by omega)) rfl (pa_cons (pe_lst (pa_cons (pFld K rfl (pv 0) rfl) (pa_cons (pFld K rfl (pv 0) rfl) (pa_cons (pFld K rfl (pv 0) rfl) (pa_cons (pFld K rfl (pv 0) rfl) pa_nil))))) (pa_cons (pe_lst (pa_cons (pe_int) (pa_cons (pe_int) (pa_cons (pe_tup (pa_cons (pe_tup (pa_cons (pe_int) pa_nil)) pa_nil)) (pa_cons (pe_tup pa_nil) pa_nil))))) pa_nil))))))) pss_nil)
      (pss_cons (ps_if (pt_val (pe_callB (cIsX K rfl (pn := pnOf m) rfl) (by rfl) (T.free "isinstance") (by decide +kernel) (pa_cons (pv 0) (pa_cons (pe_glob (v := .ref (AU K)) rfl (T.g "Automaton") rfl) pa_nil)))) (pss_one (ps_ret (pe_bl))) pss_nil)
      (pss_cons (ps_if (pt_val (pe_callB (cIsX K rfl (pn := pnOf m) rfl) (by rfl) (T.free "isinstance") (by decide +kernel) (pa_cons (pv 1) (pa_cons (pe_glob (v := .ref (exA K 27)) rfl (T.exg 27 (by decide)) rfl) pa_nil)))) (pss_one (ps_ret (pe_and (pe_callB (cIsX K rfl (pn := pnOf m) rfl) (by rfl) (T.free "isinstance") (by decide +kernel) (pa_cons (pv 0) (pa_cons (pe_glob (v := .ref (exA K 27)) rfl (T.exg 27 (by decide)) rfl) pa_nil))) (pe_one (pe_callC G_law_like ⟨mo.pn, mo.c, mo.h⟩ (hr.mono (by omega)) rfl (pa_cons (pEvf K rfl (pn := pnOf m) rfl (pv 0)) (pa_cons (pEvf K rfl (pn := pnOf m) rfl (pv 1)) pa_nil))))))) pss_nil)
      (pss_one (ps_ret (pe_ifExp (pt_val (pe_callB (cIsX K rfl (pn := pnOf m) rfl) (by rfl) (T.free "isinstance") (by decide +kernel) (pa_cons (pv 1) (pa_cons (pe_glob (v := .ref (exA K 40)) rfl (T.exg 40 (by decide)) rfl) pa_nil)))) (pe_callB (cIsX K rfl (pn := pnOf m) rfl) (by rfl) (T.free "isinstance") (by decide +kernel) (pa_cons (pv 0) (pa_cons (pe_glob (v := .ref (exA K 40)) rfl (T.exg 40 (by decide)) rfl) pa_nil))) (pe_and (pe_not (pe_callB (cIsXT K rfl (pn := pnOf m) rfl) (by rfl) (T.free "isinstance") (by decide +kernel) (pa_cons (pv 0) (pa_cons (pe_tup (pa_cons (pe_glob (v := .ref (AE K)) rfl (T.g "AutomatonError") rfl) (pa_cons (pe_bltn (v := .ty "dict") (by rfl) (T.free "dict") (by decide +kernel) rfl) pa_nil))) pa_nil)))) (pe_one (pe_callC G_law_same ⟨mo.pn, mo.c, mo.h⟩ (hr.mono (by omega)) rfl (pa_cons (pv 0) (pa_cons (pv 1) pa_nil))))))))))))), ?_⟩
      have fin : ∀ {b : Bool} {H' : Hp}, b = true → Same H H' → Q (.bl b) H' := fun e s => by rw [e]; exact kq _ s
      cases lk with
      | leaf sm =>
        have ltn : ∀ {tn : String}, kitB tn "list" = some false → kitB tn "tuple" = some false → PySem.W.kitAny K (.type tn) [.type "list", .type "tuple"] = some false := fun h1 h2 =>
          kitAny_cons (b := false) (kit_ty h1) (fun _ => kitAny_cons (b := false) (kit_ty h2) (fun _ => kitAny_nil) (fun z => nomatch z)) (fun z => nomatch z)
        have aed : ∀ {tn : String}, PySem.W.kitOne K (.type tn) (.ref (AE K)) = some false → kitB tn "dict" = some false → PySem.W.kitAny K (.type tn) [.ref (AE K), .type "dict"] = some false := fun h1 h2 =>
          kitAny_cons (b := false) h1 (fun _ => kitAny_cons (b := false) (kit_ty h2) (fun _ => kitAny_nil) (fun z => nomatch z)) (fun z => nomatch z)
        cases sm with
        | non =>
          have ty : ∀ H1 : Hp, TyE K (pnOf m) H1 .non (.type "NoneType") := fun _ => .base (.base (.non))
          refine ⟨_, rfl, _, .ty "dict", _, .type "dict", false, rfl, .ty _, (ty _), kit_ty (by decide +kernel), _, rfl, iteF ?_⟩
          refine ⟨_, rfl, (by show 2 ≤ sizeLine; decide), fun tp htp => ?_⟩
          have s1 : Same H (upd H tp (.tup [.ty "list", .ty "tuple"])) := same_new htp
          refine ⟨_, tp, _, .type "NoneType", _, false, rfl, upd_same, .cons (.ty _) (.cons (.ty _) .nil), ty _, ltn (by decide +kernel) (by decide +kernel), _, rfl, iteF ?_⟩
          refine ⟨_, rfl, _, .ref (AU K), _, .ref (AU K), false, rfl, .own _, (ty _), kit_tRef (is_au T) (by decide +kernel), _, rfl, iteF ?_⟩
          refine ⟨_, rfl, _, .ref (AU K), _, .ref (AU K), false, rfl, .own _, (ty _), kit_tRef (is_au T) (by decide +kernel), _, rfl, iteF ?_⟩
          refine ⟨_, rfl, _, .ref (exA K 27), _, .ref (exA K 27), false, rfl, .own _, (ty _), kit_tRef (is_ex T (by decide)) (by decide +kernel), _, rfl, iteF ?_⟩
          refine ⟨_, rfl, _, .ref (exA K 40), _, .ref (exA K 40), false, rfl, .own _, (ty _), kit_tRef (is_ex T (by decide)) (by decide +kernel), _, rfl, iteF ?_⟩
          refine ⟨_, rfl, (by show 2 ≤ sizeLine; decide), fun tq htq => ?_⟩
          refine ⟨_, tq, _, .type "NoneType", _, false, rfl, upd_same, .cons (.own _) (.cons (.ty _) .nil), ty _, aed (kit_tRef (is_ae T) (by decide +kernel)) (by decide +kernel), ?_⟩
          refine ⟨_, rfl, _, rfl, iteT ?_⟩
          exact ⟨_, rfl, _, rfl, _, _, 0, rfl, by omega, .non, fun H' s' => fin rfl ((s1.trans (same_new htq)).trans s')⟩
        | bl b =>
          have ty : ∀ H1 : Hp, TyE K (pnOf m) H1 (.bl b) (.type "bool") := fun _ => .base (.base (.bl b))
          refine ⟨_, rfl, _, .ty "dict", _, .type "dict", false, rfl, .ty _, (ty _), kit_ty (by decide +kernel), _, rfl, iteF ?_⟩
          refine ⟨_, rfl, (by show 2 ≤ sizeLine; decide), fun tp htp => ?_⟩
          have s1 : Same H (upd H tp (.tup [.ty "list", .ty "tuple"])) := same_new htp
          refine ⟨_, tp, _, .type "bool", _, false, rfl, upd_same, .cons (.ty _) (.cons (.ty _) .nil), ty _, ltn (by decide +kernel) (by decide +kernel), _, rfl, iteF ?_⟩
          refine ⟨_, rfl, _, .ref (AU K), _, .ref (AU K), false, rfl, .own _, (ty _), kit_tRef (is_au T) (by decide +kernel), _, rfl, iteF ?_⟩
          refine ⟨_, rfl, _, .ref (AU K), _, .ref (AU K), false, rfl, .own _, (ty _), kit_tRef (is_au T) (by decide +kernel), _, rfl, iteF ?_⟩
          refine ⟨_, rfl, _, .ref (exA K 27), _, .ref (exA K 27), false, rfl, .own _, (ty _), kit_tRef (is_ex T (by decide)) (by decide +kernel), _, rfl, iteF ?_⟩
          refine ⟨_, rfl, _, .ref (exA K 40), _, .ref (exA K 40), false, rfl, .own _, (ty _), kit_tRef (is_ex T (by decide)) (by decide +kernel), _, rfl, iteF ?_⟩
          refine ⟨_, rfl, (by show 2 ≤ sizeLine; decide), fun tq htq => ?_⟩
          refine ⟨_, tq, _, .type "bool", _, false, rfl, upd_same, .cons (.own _) (.cons (.ty _) .nil), ty _, aed (kit_tRef (is_ae T) (by decide +kernel)) (by decide +kernel), ?_⟩
          refine ⟨_, rfl, _, rfl, iteT ?_⟩
          exact ⟨_, rfl, _, rfl, _, _, 0, rfl, by omega, .bl b, fun H' s' => fin rfl ((s1.trans (same_new htq)).trans s')⟩
        | int i =>
          have ty : ∀ H1 : Hp, TyE K (pnOf m) H1 (.int i) (.type "int") := fun _ => .base (.base (.int i))
          refine ⟨_, rfl, _, .ty "dict", _, .type "dict", false, rfl, .ty _, (ty _), kit_ty (by decide +kernel), _, rfl, iteF ?_⟩
          refine ⟨_, rfl, (by show 2 ≤ sizeLine; decide), fun tp htp => ?_⟩
          have s1 : Same H (upd H tp (.tup [.ty "list", .ty "tuple"])) := same_new htp
          refine ⟨_, tp, _, .type "int", _, false, rfl, upd_same, .cons (.ty _) (.cons (.ty _) .nil), ty _, ltn (by decide +kernel) (by decide +kernel), _, rfl, iteF ?_⟩
          refine ⟨_, rfl, _, .ref (AU K), _, .ref (AU K), false, rfl, .own _, (ty _), kit_tRef (is_au T) (by decide +kernel), _, rfl, iteF ?_⟩
          refine ⟨_, rfl, _, .ref (AU K), _, .ref (AU K), false, rfl, .own _, (ty _), kit_tRef (is_au T) (by decide +kernel), _, rfl, iteF ?_⟩
          refine ⟨_, rfl, _, .ref (exA K 27), _, .ref (exA K 27), false, rfl, .own _, (ty _), kit_tRef (is_ex T (by decide)) (by decide +kernel), _, rfl, iteF ?_⟩
          refine ⟨_, rfl, _, .ref (exA K 40), _, .ref (exA K 40), false, rfl, .own _, (ty _), kit_tRef (is_ex T (by decide)) (by decide +kernel), _, rfl, iteF ?_⟩
          refine ⟨_, rfl, (by show 2 ≤ sizeLine; decide), fun tq htq => ?_⟩
          refine ⟨_, tq, _, .type "int", _, false, rfl, upd_same, .cons (.own _) (.cons (.ty _) .nil), ty _, aed (kit_tRef (is_ae T) (by decide +kernel)) (by decide +kernel), ?_⟩
          refine ⟨_, rfl, _, rfl, iteT ?_⟩
          exact ⟨_, rfl, _, rfl, _, _, 0, rfl, by omega, .int i, fun H' s' => fin rfl ((s1.trans (same_new htq)).trans s')⟩
        | str x hx =>
          have ty : ∀ H1 : Hp, TyE K (pnOf m) H1 (.str x) (.type "str") := fun _ => .base (.base (.str x))
          refine ⟨_, rfl, _, .ty "dict", _, .type "dict", false, rfl, .ty _, (ty _), kit_ty (by decide +kernel), _, rfl, iteF ?_⟩
          refine ⟨_, rfl, (by show 2 ≤ sizeLine; decide), fun tp htp => ?_⟩
          have s1 : Same H (upd H tp (.tup [.ty "list", .ty "tuple"])) := same_new htp
          refine ⟨_, tp, _, .type "str", _, false, rfl, upd_same, .cons (.ty _) (.cons (.ty _) .nil), ty _, ltn (by decide +kernel) (by decide +kernel), _, rfl, iteF ?_⟩
          refine ⟨_, rfl, _, .ref (AU K), _, .ref (AU K), false, rfl, .own _, (ty _), kit_tRef (is_au T) (by decide +kernel), _, rfl, iteF ?_⟩
          refine ⟨_, rfl, _, .ref (AU K), _, .ref (AU K), false, rfl, .own _, (ty _), kit_tRef (is_au T) (by decide +kernel), _, rfl, iteF ?_⟩
          refine ⟨_, rfl, _, .ref (exA K 27), _, .ref (exA K 27), false, rfl, .own _, (ty _), kit_tRef (is_ex T (by decide)) (by decide +kernel), _, rfl, iteF ?_⟩
          refine ⟨_, rfl, _, .ref (exA K 40), _, .ref (exA K 40), false, rfl, .own _, (ty _), kit_tRef (is_ex T (by decide)) (by decide +kernel), _, rfl, iteF ?_⟩
          refine ⟨_, rfl, (by show 2 ≤ sizeLine; decide), fun tq htq => ?_⟩
          refine ⟨_, tq, _, .type "str", _, false, rfl, upd_same, .cons (.own _) (.cons (.ty _) .nil), ty _, aed (kit_tRef (is_ae T) (by decide +kernel)) (by decide +kernel), ?_⟩
          refine ⟨_, rfl, _, rfl, iteT ?_⟩
          exact ⟨_, rfl, _, rfl, _, _, 0, rfl, by omega, .str x hx, fun H' s' => fin rfl ((s1.trans (same_new htq)).trans s')⟩
      | lst h1 h2 hl hn hi =>
        rename_i n0 a b xs ys
        have ta : TyE K (pnOf m) H (.ref a) (.type "list") := sq_tyL h1
        have tb : TyE K (pnOf m) H (.ref b) (.type "list") := sq_tyL h2
        refine ⟨_, rfl, _, .ty "dict", _, .type "dict", false, rfl, .ty _, tb, kit_ty (by decide +kernel), _, rfl, iteF ?_⟩
        refine ⟨_, rfl, (by show 2 ≤ sizeLine; decide), fun tp htp => ?_⟩
        have s1 : Same H (upd H tp (.tup [.ty "list", .ty "tuple"])) := same_new htp
        have tas : TyE K (pnOf m) (upd H tp (.tup [.ty "list", .ty "tuple"])) (.ref a) (.type "list") := sq_tyL (Same.seq s1 h1)
        have tbs : TyE K (pnOf m) (upd H tp (.tup [.ty "list", .ty "tuple"])) (.ref b) (.type "list") := sq_tyL (Same.seq s1 h2)
        refine ⟨_, tp, _, .type "list", _, true, rfl, upd_same, .cons (.ty _) (.cons (.ty _) .nil), tbs, kit_lt (by decide), _, rfl, iteT ?_⟩
        refine ⟨_, rfl, _, .ty "list", _, .type "list", true, rfl, .ty _, tas, kit_ty (by decide +kernel), _, rfl, _, .ty "list", _, .type "list", true, rfl, .ty _, tbs, kit_ty (by decide +kernel), rfl, _, rfl, iteF ?_⟩
        refine ⟨_, rfl, _, .ty "tuple", _, .type "tuple", false, rfl, .ty _, tas, kit_ty (by decide +kernel), _, rfl, _, .ty "tuple", _, .type "tuple", false, rfl, .ty _, tbs, kit_ty (by decide +kernel), rfl, _, rfl, iteF ?_⟩
        refine ⟨_, rfl, _, xs.length, rfl, .inl (.inl ⟨_, Same.seq s1 h1, rfl⟩), _, rfl, _, ys.length, rfl, .inl (.inl ⟨_, Same.seq s1 h2, rfl⟩), rfl, _, rfl, ?_⟩
        rw [hl]
        refine iteF' (by rw [decide_eq_true rfl]; rfl) ⟨_, rfl, _, ys.length, rfl, .inl (.inl ⟨_, Same.seq s1 h2, rfl⟩), _, rfl, by omega, by omega, fun D hD => ?_⟩
        refine pick (n := ys.length) (j := 3) hn hD ?_ (fun _ => false) (fun k H3 hk s3 kk kq3 => ?_) (fun H3 s3 h3 => ?_)
        · show 3 < 4
          decide
        · have s13 := s1.trans s3
          have hx := List.getElem?_eq_getElem (l := xs) (i := k) (by omega)
          have hy := List.getElem?_eq_getElem (l := ys) (i := k) hk
          refine ⟨_, rfl, _, rfl, .inl ⟨a, xs, _, xs[k], rfl, rfl, Same.seq s13 h1, atI_nat hx, ?_⟩⟩
          refine ⟨_, rfl, _, rfl, .inl ⟨b, ys, _, ys[k], rfl, rfl, Same.seq s13 h2, atI_nat hy, ?_⟩⟩
          exact ⟨_, _, n0, rfl, by omega, (hi k _ _ hx hy).same s13, fun H' s' => ⟨_, rfl, kq3 H' s'⟩⟩
        · rw [filter_none] at h3
          refine ⟨Nat.zero_le _, fun q hq => ⟨_, _, lst_eq (l := []) (.inl (Rd.of (same_new hq _ _ h3))), lst_eq (l := []) (.inl (Rd.of upd_same)), rfl, rfl, fin rfl ((s1.trans s3).trans (same_new hq))⟩⟩
      | tup h1 h2 hl hn hi =>
        rename_i n0 a b xs ys
        have ta : TyE K (pnOf m) H (.ref a) (.type "tuple") := sq_tyT h1
        have tb : TyE K (pnOf m) H (.ref b) (.type "tuple") := sq_tyT h2
        refine ⟨_, rfl, _, .ty "dict", _, .type "dict", false, rfl, .ty _, tb, kit_ty (by decide +kernel), _, rfl, iteF ?_⟩
        refine ⟨_, rfl, (by show 2 ≤ sizeLine; decide), fun tp htp => ?_⟩
        have s1 : Same H (upd H tp (.tup [.ty "list", .ty "tuple"])) := same_new htp
        have tas : TyE K (pnOf m) (upd H tp (.tup [.ty "list", .ty "tuple"])) (.ref a) (.type "tuple") := sq_tyT (same_sqT s1 h1)
        have tbs : TyE K (pnOf m) (upd H tp (.tup [.ty "list", .ty "tuple"])) (.ref b) (.type "tuple") := sq_tyT (same_sqT s1 h2)
        refine ⟨_, tp, _, .type "tuple", _, true, rfl, upd_same, .cons (.ty _) (.cons (.ty _) .nil), tbs, kit_lt (by decide), _, rfl, iteT ?_⟩
        refine ⟨_, rfl, _, .ty "list", _, .type "list", false, rfl, .ty _, tas, kit_ty (by decide +kernel), _, rfl, _, .ty "list", _, .type "list", false, rfl, .ty _, tbs, kit_ty (by decide +kernel), rfl, _, rfl, iteF ?_⟩
        refine ⟨_, rfl, _, .ty "tuple", _, .type "tuple", true, rfl, .ty _, tas, kit_ty (by decide +kernel), _, rfl, _, .ty "tuple", _, .type "tuple", true, rfl, .ty _, tbs, kit_ty (by decide +kernel), rfl, _, rfl, iteF ?_⟩
        refine ⟨_, rfl, _, xs.length, rfl, .inl (.inr ⟨_, same_sqT s1 h1, rfl⟩), _, rfl, _, ys.length, rfl, .inl (.inr ⟨_, same_sqT s1 h2, rfl⟩), rfl, _, rfl, ?_⟩
        rw [hl]
        refine iteF' (by rw [decide_eq_true rfl]; rfl) ⟨_, rfl, _, ys.length, rfl, .inl (.inr ⟨_, same_sqT s1 h2, rfl⟩), _, rfl, by omega, by omega, fun D hD => ?_⟩
        refine pick (n := ys.length) (j := 3) hn hD ?_ (fun _ => false) (fun k H3 hk s3 kk kq3 => ?_) (fun H3 s3 h3 => ?_)
        · show 3 < 4
          decide
        · have s13 := s1.trans s3
          have hx := List.getElem?_eq_getElem (l := xs) (i := k) (by omega)
          have hy := List.getElem?_eq_getElem (l := ys) (i := k) hk
          refine ⟨_, rfl, _, rfl, .inr (.inl ⟨a, xs, _, xs[k], rfl, rfl, same_sqT s13 h1, atI_nat hx, ?_⟩)⟩
          refine ⟨_, rfl, _, rfl, .inr (.inl ⟨b, ys, _, ys[k], rfl, rfl, same_sqT s13 h2, atI_nat hy, ?_⟩)⟩
          exact ⟨_, _, n0, rfl, by omega, (hi k _ _ hx hy).same s13, fun H' s' => ⟨_, rfl, kq3 H' s'⟩⟩
        · rw [filter_none] at h3
          refine ⟨Nat.zero_le _, fun q hq => ⟨_, _, lst_eq (l := []) (.inl (Rd.of (same_new hq _ _ h3))), lst_eq (l := []) (.inl (Rd.of upd_same)), rfl, rfl, fin rfl ((s1.trans s3).trans (same_new hq))⟩⟩
      | dic h1 h2 hl hn hv hi =>
        rename_i n0 a b xs ys
        have ta : TyE K (pnOf m) H (.ref a) (.type "dict") := rd_ty h1
        have tb : TyE K (pnOf m) H (.ref b) (.type "dict") := rd_ty h2
        refine ⟨_, rfl, _, .ty "dict", _, .type "dict", true, rfl, .ty _, tb, kit_ty (by decide +kernel), _, rfl, iteT ?_⟩
        refine ⟨_, rfl, _, .ty "dict", _, .type "dict", true, rfl, .ty _, ta, kit_ty (by decide +kernel), _, rfl, iteF ?_⟩
        refine ⟨_, rfl, _, xs.length, rfl, .inr ⟨a, xs, rfl, h1, rfl⟩, _, rfl, _, ys.length, rfl, .inr ⟨b, ys, rfl, h2, rfl⟩, rfl, _, rfl, ?_⟩
        rw [hl]
        refine iteF' (by rw [decide_eq_true rfl]; rfl) ?_
        rcases h2 with h2 | ⟨od, h2⟩
        · refine .inl ⟨b, .dK ys, h2, True.intro, fun od => ?_⟩
          have SL : ∀ {H3 : Hp}, Same (upd H b (.frz od (.dK ys))) H3 → Sees H H3 := fun s c o e => by
            rcases Sees.lock (od := od) h2 c o e with z | ⟨od', kvs, z, z'⟩
            · exact .inl (s _ _ z)
            · exact .inr ⟨od', kvs, z, s _ _ z'⟩
          refine ⟨_, rfl, b, od, ys, rfl, upd_same, fun D hD => pickD upd_same hD (fun i k v H3 ek s3 kk kq3 => ?_) (fun H3 s3 h3 => ?_)⟩
          · obtain ⟨e1, x, e2⟩ := hv i k v ek
            have lk3 := (hi i k x v ek e2).sees (SL s3)
            refine ⟨_, rfl, _, rfl, a, some x, rfl, .inl ⟨xs, k, (SL s3).dic h1, rfl, e2.symm⟩, ?_⟩
            refine ⟨_, rfl, iteF ?_⟩
            refine ⟨_, rfl, _, rfl, a, x, rfl, .inl ⟨xs, k, (SL s3).dic h1, rfl, e2.symm⟩, ?_⟩
            refine ⟨_, rfl, _, rfl, b, v, rfl, .inl ⟨ys, k, (SL s3).dic (.inl h2), rfl, e1.symm⟩, ?_⟩
            exact ⟨_, _, n0, rfl, by omega, lk3, fun H' s' => ⟨_, rfl, kq3 H' s'⟩⟩
          · have hbD : D ≠ b := fun z => by
              rw [z, upd_same] at hD
              cases hD
            have sb : Same H (upd H3 b (.dK ys)) := fun c o e => by
              by_cases z : c = b
              · subst z
                rw [h2] at e
                cases e
                exact upd_same
              · rw [upd_ne z]
                exact s3 c o (by rw [upd_ne z]; exact e)
            have h3' : upd H3 b (.dK ys) D = some (.lst []) := by
              rw [upd_ne hbD]
              exact h3
            refine ⟨s3 _ _ upd_same, Nat.zero_le _, fun q hq => ⟨_, _, lst_eq (l := []) (.inl (Rd.of (same_new hq _ _ h3'))), lst_eq (l := []) (.inl (Rd.of upd_same)), rfl, rfl, fin rfl (sb.trans (same_new hq))⟩⟩
        · refine .inr ?_
          have SL : ∀ {H3 : Hp}, Same H H3 → Sees H H3 := fun s => Sees.of s
          refine ⟨_, rfl, b, od, ys, rfl, h2, fun D hD => pickD h2 hD (fun i k v H3 ek s3 kk kq3 => ?_) (fun H3 s3 h3 => ?_)⟩
          · obtain ⟨e1, x, e2⟩ := hv i k v ek
            have lk3 := (hi i k x v ek e2).sees (SL s3)
            refine ⟨_, rfl, _, rfl, a, some x, rfl, .inl ⟨xs, k, (SL s3).dic h1, rfl, e2.symm⟩, ?_⟩
            refine ⟨_, rfl, iteF ?_⟩
            refine ⟨_, rfl, _, rfl, a, x, rfl, .inl ⟨xs, k, (SL s3).dic h1, rfl, e2.symm⟩, ?_⟩
            refine ⟨_, rfl, _, rfl, b, v, rfl, .inl ⟨ys, k, (SL s3).dic (.inr ⟨od, h2⟩), rfl, e1.symm⟩, ?_⟩
            exact ⟨_, _, n0, rfl, by omega, lk3, fun H' s' => ⟨_, rfl, kq3 H' s'⟩⟩
          · refine ⟨Nat.zero_le _, fun q hq => ⟨_, _, lst_eq (l := []) (.inl (Rd.of (same_new hq _ _ h3))), lst_eq (l := []) (.inl (Rd.of upd_same)), rfl, rfl, fin rfl (s3.trans (same_new hq))⟩⟩
      | aut h =>
        rename_i a
        have ty : ∀ {H1 : Hp}, Same H H1 → TyE K (pnOf m) H1 (.ref a) (.ref (AU K)) := fun s => aut_ty T (Sees.aut (Sees.of s) h)
        refine ⟨_, rfl, _, .ty "dict", _, .type "dict", false, rfl, .ty _, (ty (Same.refl H)), ((kit_auT T (by decide +kernel)).trans (congrArg some (by decide +kernel))), _, rfl, iteF ?_⟩
        refine ⟨_, rfl, (by show 2 ≤ sizeLine; decide), fun tp htp => ?_⟩
        have s1 : Same H (upd H tp (.tup [.ty "list", .ty "tuple"])) := same_new htp
        refine ⟨_, tp, _, .ref (AU K), _, false, rfl, upd_same, .cons (.ty _) (.cons (.ty _) .nil), ty s1, kitAny_cons (b := false) ((kit_auT T (by decide +kernel)).trans (congrArg some (by decide +kernel))) (fun _ => kitAny_cons (b := false) ((kit_auT T (by decide +kernel)).trans (congrArg some (by decide +kernel))) (fun _ => kitAny_nil) (fun z => nomatch z)) (fun z => nomatch z), _, rfl, iteF ?_⟩
        refine ⟨_, rfl, _, .ref (AU K), _, .ref (AU K), true, rfl, .own _, (ty s1), kit_auAu T, _, rfl, iteT ?_⟩
        refine ⟨_, rfl, _, .ref (AU K), _, .ref (AU K), true, rfl, .own _, (ty s1), kit_auAu T, _, rfl, iteT ?_⟩
        obtain ⟨dx, fs, q, r, e, h0, l1, l2, l3, l4, t1, t2, t3⟩ := h.ex
        have C := au_isCls T
        have g := s1 _ _ h0
        refine ⟨_, rfl, a, _, dx, fs, _, rfl, g, C, au_noat T _, l1, _, rfl, a, _, dx, fs, _, rfl, g, C, au_noat T _, l2, _, rfl, a, _, dx, fs, _, rfl, g, C, au_noat T _, l3, _, rfl, a, _, dx, fs, _, rfl, g, C, au_noat T _, l4, ?_⟩
        refine ⟨(by show 4 ≤ sizeLine; decide), fun p1 e1 => ?_⟩
        refine ⟨(by show 1 ≤ sizeLine; decide), fun p2 e2 => ?_⟩
        refine ⟨(by show 1 ≤ sizeLine; decide), fun p3 e3 => ?_⟩
        refine ⟨(by show 0 ≤ sizeLine; decide), fun p4 e4 => ?_⟩
        refine ⟨(by show 4 ≤ sizeLine; decide), fun p5 e5 => ?_⟩
        have s5 := same_new e5 (o := .lst [.int 1, .int 0, .ref p3, .ref p4])
        have s4 := (same_new e4 (o := .tup [])).trans s5
        have s3 := (same_new e3 (o := .tup [.ref p2])).trans s4
        have s2 := (same_new e2 (o := .tup [.int 0])).trans s3
        have sa := (same_new e1 (o := .lst [.int 1, .int 0, .ref q, .ref e])).trans s2
        have row : SqT K _ p2 [.int 0] := same_sqT s3 (.inl (.inl upd_same))
        have tp3 : SqT K _ p3 [.ref p2] := same_sqT s4 (.inl (.inl upd_same))
        have tp4 : SqT K _ p4 [] := same_sqT s5 (.inl (.inl upd_same))
        refine ⟨_, _, 3, rfl, by omega, .lst (s2.seq (.inl (.inl upd_same))) (.inl (.inl upd_same)) rfl (by show 4 ≤ 1000; decide) ?_, fun H' s' => fin rfl ((s1.trans sa).trans s')⟩
        intro i x y hx hy
        match i, hx, hy with
        | 0, hx, hy => cases hx; cases hy; exact .int 1
        | 1, hx, hy => cases hx; cases hy; exact .int 0
        | 2, hx, hy =>
          cases hx
          cases hy
          refine .tup (same_sqT (s1.trans sa) t1) tp3 rfl (by show 1 ≤ 1000; decide) fun i x y hx hy => ?_
          match i, hx, hy with
          | 0, hx, hy =>
            cases hx
            cases hy
            refine .tup (same_sqT (s1.trans sa) t2) row rfl (by show 1 ≤ 1000; decide) fun i x y hx hy => ?_
            match i, hx, hy with
            | 0, hx, hy => cases hx; cases hy; exact .int 0
        | 3, hx, hy =>
          cases hx
          cases hy
          exact .tup (same_sqT (s1.trans sa) t3) tp4 rfl (by show 0 ≤ 1000; decide) fun i x y hx hy => nomatch hx
      | iw x hh =>
        rename_i n0 a one other
        have ty : ∀ {H1 : Hp}, Same H H1 → TyE K (pnOf m) H1 (.ref a) (.ref (exA K 27)) := fun s => ((x.same s).pn (pnOf m)).ty T
        refine ⟨_, rfl, _, .ty "dict", _, .type "dict", false, rfl, .ty _, (ty (Same.refl H)), ((kit_exT T (by decide) (by decide +kernel)).trans (congrArg some (tail_no _))), _, rfl, iteF ?_⟩
        refine ⟨_, rfl, (by show 2 ≤ sizeLine; decide), fun tp htp => ?_⟩
        have s1 : Same H (upd H tp (.tup [.ty "list", .ty "tuple"])) := same_new htp
        refine ⟨_, tp, _, .ref (exA K 27), _, false, rfl, upd_same, .cons (.ty _) (.cons (.ty _) .nil), ty s1, kitAny_cons (b := false) ((kit_exT T (by decide) (by decide +kernel)).trans (congrArg some (tail_no _))) (fun _ => kitAny_cons (b := false) ((kit_exT T (by decide) (by decide +kernel)).trans (congrArg some (tail_no _))) (fun _ => kitAny_nil) (fun z => nomatch z)) (fun z => nomatch z), _, rfl, iteF ?_⟩
        refine ⟨_, rfl, _, .ref (AU K), _, .ref (AU K), false, rfl, .own _, (ty s1), kit_exAu T (by decide), _, rfl, iteF ?_⟩
        refine ⟨_, rfl, _, .ref (AU K), _, .ref (AU K), false, rfl, .own _, (ty s1), kit_exAu T (by decide), _, rfl, iteF ?_⟩
        refine ⟨_, rfl, _, .ref (exA K 27), _, .ref (exA K 27), true, rfl, .own _, (ty s1), kit_ex T (by decide) (by decide), _, rfl, iteT ?_⟩
        refine ⟨_, rfl, _, .ref (exA K 27), _, .ref (exA K 27), true, rfl, .own _, (ty s1), kit_ex T (by decide) (by decide), _, rfl, iteT ?_⟩
        have no : PySem.W.findIn K (.ref (exA K 27)) "given" = some none := (init_facts T (i := 27) (by decide)).2.2
        rcases (x.same s1).pn (pnOf m) with ⟨_, d, e, f⟩ | ⟨h2, _⟩
        · refine ⟨_, rfl, a, exA K 27, d, [(exAttr 27, one)], one, rfl, e, T.exF (by decide), no, f, rfl, ?_⟩
          refine ⟨_, rfl, a, exA K 27, d, [(exAttr 27, one)], one, rfl, e, T.exF (by decide), no, f, rfl, ?_⟩
          exact ⟨_, _, n0, rfl, by omega, hh.same s1, fun H' s' => fin rfl (s1.trans s')⟩
        · omega
      | nt x =>
        rename_i a one other
        have ty : ∀ {H1 : Hp}, Same H H1 → TyE K (pnOf m) H1 (.ref a) (.ref (exA K 40)) := fun s => ((x.same s).pn (pnOf m)).ty T
        refine ⟨_, rfl, _, .ty "dict", _, .type "dict", false, rfl, .ty _, (ty (Same.refl H)), ((kit_exT T (by decide) (by decide +kernel)).trans (congrArg some (tail_no _))), _, rfl, iteF ?_⟩
        refine ⟨_, rfl, (by show 2 ≤ sizeLine; decide), fun tp htp => ?_⟩
        have s1 : Same H (upd H tp (.tup [.ty "list", .ty "tuple"])) := same_new htp
        refine ⟨_, tp, _, .ref (exA K 40), _, false, rfl, upd_same, .cons (.ty _) (.cons (.ty _) .nil), ty s1, kitAny_cons (b := false) ((kit_exT T (by decide) (by decide +kernel)).trans (congrArg some (tail_no _))) (fun _ => kitAny_cons (b := false) ((kit_exT T (by decide) (by decide +kernel)).trans (congrArg some (tail_no _))) (fun _ => kitAny_nil) (fun z => nomatch z)) (fun z => nomatch z), _, rfl, iteF ?_⟩
        refine ⟨_, rfl, _, .ref (AU K), _, .ref (AU K), false, rfl, .own _, (ty s1), kit_exAu T (by decide), _, rfl, iteF ?_⟩
        refine ⟨_, rfl, _, .ref (AU K), _, .ref (AU K), false, rfl, .own _, (ty s1), kit_exAu T (by decide), _, rfl, iteF ?_⟩
        refine ⟨_, rfl, _, .ref (exA K 27), _, .ref (exA K 27), false, rfl, .own _, (ty s1), kit_ex T (by decide) (by decide), _, rfl, iteF ?_⟩
        refine ⟨_, rfl, _, .ref (exA K 40), _, .ref (exA K 40), true, rfl, .own _, (ty s1), kit_ex T (by decide) (by decide), _, rfl, iteT ?_⟩
        exact ⟨_, rfl, _, .ref (exA K 40), _, .ref (exA K 40), true, rfl, .own _, (ty s1), kit_ex T (by decide) (by decide), fin rfl s1⟩
end
end Kn

set_option Elab.async false
set_option linter.all false
set_option maxRecDepth 100000
set_option maxHeartbeats 4000000
namespace Kx
open PySem PySem.Spec PyProof.Rows L2 RZ
theorem slA {X : Cx} (K : PySem.W.Frag) (h : X.K = K) : SlR X (rSlA K) := h ▸ sl_tupA
theorem ziA {X : Cx} (K : PySem.W.Frag) (h : X.K = K) {e e2 : Expr} {ta : TA} {p pos tpos : Pos} {elts : List Expr} {kk : Nat} (hm : X.mg "zip" = none) (ha : PA X [e, e2] ta) (hg : Gl X "zip" := by rfl)
    (hs : starEach [e, e2] X.env = (false, eval e X.env) :: starEach [e2] X.env := by rfl) (hpl : (backTo pos (starEach [e2] X.env)).any (·.1) = false := by rfl) :
    PI X (.Tuple elts kk tpos) (.Call (.Name "zip" p) [e, e2] [] pos) (iZipA K ta) := h ▸ pi_zipA hg hm ha hs hpl
theorem pgTup {X : Cx} (K : PySem.W.Frag) (h : X.K = K) {es : List Expr} {k : Nat} {pos : Pos} {t : TGs} {n : Nat} (hc : X.calm = true) (h1 : PGs X es t)
    (hn : (assignEach es X.env).length = n := by rfl) (hst : (assignEach es X.env).findIdx? (·.1) = none := by rfl) : PG X (.Tuple es k pos) (gTup K n t) := h ▸ pg_tup hc h1 hn hst
end Kx
namespace Kn
open PySem PySem.Spec PyProof.Rows L2 L2H Kx RZ
/-- [.. for x in a tuple], every one of them true -/
theorem everyT {K : PySem.W.Frag} {a : Addr} {xs : List V} {j : Nat} {te : TE} {σ : St} {Q : Hp → Prop} {D : Addr} {H1 : Hp} (hT : SqT K H1 a xs) (hl : xs.length ≤ 1000) (hD : H1 D = none)
    (hs : ∀ (i : Nat) (x : V) (H : Hp), xs[i]? = some x → Same H1 H → ∀ kk : V → Hp → Prop, (∀ H', Same H H' → kk (.bl true) H') → te (σ.set j (some x)) H kk)
    (hd : ∀ H, Same H1 H → H D = some (.lst ((List.replicate xs.length true).map V.bl)) → Q H) : LcEnd (Itt K a) (gName j) tYes te [j] σ Q D H1 := by
  refine lc_tup (fun i H => Same H1 H ∧ H D = some (.lst ((List.replicate i true).map V.bl))) ⟨same_new hD, upd_same⟩ (fun i H hi h => same_sqT h.1 hT) (fun i x H hi h => ?_) (fun H h => hd H h.1 h.2)
  obtain ⟨s, e⟩ := h
  refine ⟨wipe1, ?_⟩
  dsimp only [tYes]
  rw [if_pos rfl, wipe_set]
  refine hs i x H hi s _ fun H' s' => ⟨_, s' _ _ e, ?_, ?_, ?_⟩
  · rw [List.length_map, List.length_replicate]
    have := (List.getElem?_eq_some_iff.mp hi).1
    exact Nat.lt_of_lt_of_le this (Nat.le_trans hl (by decide))
  · intro b o eb
    have eb' := s' _ _ (s _ _ eb)
    rw [upd_ne (ne_of_none eb hD)]
    exact eb'
  · rw [upd_same, List.replicate_succ', List.map_append]
    rfl
theorem all_true {n : Nat} : (List.replicate n true).all id = true := by simp
section
variable {P : Program} {w : World} {K : PySem.W.Frag} {mg : Str → Option Value} {base : Heap}
def spInt : Sp := fun vs H Q _ => ∃ i : Int, vs = [.int i] ∧ ∀ H', Same H H' → Q (.bl true) H'
theorem ok_int (T : Txt K mg) : CalM none P w K mg base 1 "is_integer" spInt := by
  obtain ⟨fd, F⟩ := T.fn_ 0 "is_integer" s_is_integer
  refine calM F (T.g "is_integer") (F.bindsN (ps := ["value"]) fun _ _ _ _ _ _ us hl => match us, hl with | [_], _ => rfl) sc_is_integer (fun vs H Q E h => ?_) (fun cdv A outer s H vs Q E hr mo h => ?_)
  · obtain ⟨i, rfl, _⟩ := h
    rfl
  · obtain ⟨i, rfl, kq⟩ := h
    refine ⟨_, (pss_one (ps_ret (pe_and (pe_callB (cIsX K rfl (pn := []) rfl) (by rfl) (T.free "isinstance") (by decide +kernel) (pa_cons (pv 0) (pa_cons (pe_bltn (v := .ty "int") (by rfl) (T.free "int") (by decide +kernel) rfl) pa_nil))) (pe_one (pe_not (pe_callB (cIsX K rfl (pn := []) rfl) (by rfl) (T.free "isinstance") (by decide +kernel) (pa_cons (pv 0) (pa_cons (pe_bltn (v := .ty "bool") (by rfl) (T.free "bool") (by decide +kernel) rfl) pa_nil)))))))), ?_⟩
    have ty : TyE K [] H (.int i) (.type "int") := .base (.base (.int i))
    refine ⟨_, rfl, _, .ty "int", _, .type "int", true, rfl, .ty _, ty, kit_ty (by decide +kernel), _, rfl, iteT ?_⟩
    exact ⟨_, rfl, _, .ty "bool", _, .type "bool", false, rfl, .ty _, ty, kit_ty (by decide +kernel), _, rfl, kq H (Same.refl H)⟩
def spBet : Sp := fun vs H Q _ => ∃ i a b : Int, vs = [.int i, .int a, .int b] ∧ a ≤ i ∧ i ≤ b ∧ ∀ H', Same H H' → Q (.bl true) H'
theorem ok_bet (T : Txt K mg) : CalM none P w K mg base 2 "is_between" spBet := by
  obtain ⟨fd, F⟩ := T.fn_ 1 "is_between" s_is_between
  have G_is_integer := ok_int (P := P) (w := w) (base := base) T
  refine calM F (T.g "is_between") (F.bindsN (ps := ["value", "least", "most"]) fun _ _ _ _ _ _ us hl => match us, hl with | [_, _, _], _ => rfl) sc_is_between (fun vs H Q E h => ?_) (fun cdv A outer s H vs Q E hr mo h => ?_)
  · obtain ⟨i, a, b, rfl, _⟩ := h
    rfl
  · obtain ⟨i, a, b, rfl, h1, h2, kq⟩ := h
    refine ⟨_, (pss_one (ps_ret (pe_and (pe_callC G_is_integer ⟨mo.pn, mo.c, mo.h⟩ (hr.mono (by omega)) rfl (pa_cons (pv 0) pa_nil)) (pe_one (pe_chain op_le op_le (pv 1) (pv 0) (pv 2)))))), ?_⟩
    refine ⟨_, rfl, i, rfl, fun H' s' => ⟨_, rfl, iteT ?_⟩⟩
    refine ⟨_, rfl, _, rfl, _, _, rfl, rfl, _, rfl, ?_⟩
    rw [decide_eq_true h1]
    refine iteT ⟨_, rfl, _, _, rfl, rfl, ?_⟩
    have e := kq H' s'
    rw [← decide_eq_true h2] at e
    exact e
def spTup (K : PySem.W.Frag) : Sp := fun vs H Q _ => ∃ (p : Addr) (xs : List V), vs = [.ref p, .int xs.length] ∧ SqT K H p xs ∧ ∀ H', Same H H' → Q (.bl true) H'
theorem ok_tup (T : Txt K mg) : CalM none P w K mg base 1 "is_tuple_of" (spTup K) := by
  obtain ⟨fd, F⟩ := T.fn_ 2 "is_tuple_of" s_is_tuple_of
  refine calM F (T.g "is_tuple_of") (F.bindsN (ps := ["value", "many"]) fun _ _ _ _ _ _ us hl => match us, hl with | [_, _], _ => rfl) sc_is_tuple_of (fun vs H Q E h => ?_) (fun cdv A outer s H vs Q E hr mo h => ?_)
  · obtain ⟨p, xs, rfl, _⟩ := h
    rfl
  · obtain ⟨p, xs, rfl, hT, kq⟩ := h
    refine ⟨_, (pss_one (ps_ret (pe_and (pe_callB (cIsX K rfl (pn := []) rfl) (by rfl) (T.free "isinstance") (by decide +kernel) (pa_cons (pv 0) (pa_cons (pe_bltn (v := .ty "tuple") (by rfl) (T.free "tuple") (by decide +kernel) rfl) pa_nil))) (pe_one (pe_cmpR op_eq (pe_callB (cLenSeq K rfl) (by rfl) (T.free "len") (by decide +kernel) (pa_cons (pv 0) pa_nil)) (pv 1) (nomark _)))))), ?_⟩
    have ty : TyE K [] H (.ref p) (.type "tuple") := sq_tyT hT
    refine ⟨_, rfl, _, .ty "tuple", _, .type "tuple", true, rfl, .ty _, ty, kit_ty (by decide +kernel), _, rfl, iteT ?_⟩
    refine ⟨_, rfl, p, xs, rfl, .inr hT, _, rfl, rfl, ?_⟩
    rw [decide_eq_true rfl]
    exact kq H (Same.refl H)
def spRow (K : PySem.W.Frag) : Sp := fun vs H Q _ => ∃ (p : Addr) (ns : List Int) (a b : Int), vs = [.ref p, .int ns.length, .int a, .int b] ∧ SqT K H p (ns.map V.int) ∧ ns.length ≤ 1000 ∧ (∀ n ∈ ns, a ≤ n ∧ n ≤ b) ∧ ∀ H', Same H H' → Q (.bl true) H'
theorem ok_row (T : Txt K mg) : CalM none P w K mg base 3 "is_row" (spRow K) := by
  obtain ⟨fd, F⟩ := T.fn_ 3 "is_row" s_is_row
  have G_is_tuple_of := ok_tup (P := P) (w := w) (base := base) T
  have G_is_between := ok_bet (P := P) (w := w) (base := base) T
  refine calM F (T.g "is_row") (F.bindsN (ps := ["value", "many", "least", "most"]) fun _ _ _ _ _ _ us hl => match us, hl with | [_, _, _, _], _ => rfl) sc_is_row (fun vs H Q E h => ?_) (fun cdv A outer s H vs Q E hr mo h => ?_)
  · obtain ⟨p, ns, a, b, rfl, _⟩ := h
    rfl
  · obtain ⟨p, ns, a, b, rfl, hT, hl, hb, kq⟩ := h
    refine ⟨_, (pss_one (ps_ret (pe_and (pe_callC G_is_tuple_of ⟨mo.pn, mo.c, mo.h⟩ (hr.mono (by omega)) rfl (pa_cons (pv 0) (pa_cons (pv 1) pa_nil))) (pe_one (pe_callB (cAll K rfl rfl) (by rfl) (T.free "all") (by decide +kernel) (pa_cons (pe_lc (own := [("item", 4)]) rfl sc_is_row.nd (piT K rfl (pv 0)) (blkOk_by (N := ["value", "many", "least", "most", "item"]) (sc := defScope s_is_row) (by decide +kernel)) (fun _ _ _ _ _ => (pg_name (i := 4) sc_is_row.nd rfl (Or.inl rfl))) (fun _ _ _ _ _ => pts_nil) (fun _ _ _ _ _ => (pe_callC G_is_between ⟨mo.pn, mo.c, mo.h⟩ (hr.mono (by omega)) rfl (pa_cons (pv 4) (pa_cons (pv 2) (pa_cons (pv 3) pa_nil)))))) pa_nil)))))), ?_⟩
    refine ⟨_, rfl, _, rfl, p, ns.map V.int, by rw [List.length_map]; rfl, hT, fun H1 s1 => ⟨_, rfl, iteT ?_⟩⟩
    refine ⟨_, rfl, p, rfl, ⟨_, same_sqT s1 hT⟩, fun D hD => everyT (same_sqT s1 hT) (by rw [List.length_map]; exact hl) hD (fun i x H2 hx s2 kk kq2 => ?_) (fun H3 s3 h3 => ?_)⟩
    · rw [List.getElem?_map] at hx
      obtain ⟨n, hn, rfl⟩ := Option.map_eq_some_iff.mp hx
      have := hb n (List.mem_of_getElem? hn)
      exact ⟨_, rfl, _, rfl, _, rfl, n, a, b, rfl, this.1, this.2, kq2⟩
    · refine ⟨D, _, rfl, .inl (.inl h3), ?_⟩
      rw [all_true]
      exact kq H3 (s1.trans s3)
def spRise (K : PySem.W.Frag) : Sp := fun vs H Q _ => ∃ (p : Addr), vs = [.ref p] ∧ SqT K H p [] ∧ ∀ H', Same H H' → Q (.bl true) H'
theorem ok_rise (T : Txt K mg) : CalM none P w K mg base 1 "is_rising" (spRise K) := by
  obtain ⟨fd, F⟩ := T.fn_ 4 "is_rising" s_is_rising
  refine calM F (T.g "is_rising") (F.bindsN (ps := ["items"]) fun _ _ _ _ _ _ us hl => match us, hl with | [_], _ => rfl) sc_is_rising (fun vs H Q E h => ?_) (fun cdv A outer s H vs Q E hr mo h => ?_)
  · obtain ⟨p, rfl, _⟩ := h
    rfl
  · obtain ⟨p, rfl, hT, kq⟩ := h
    refine ⟨_, (pss_one (ps_ret (pe_callB (cAll K rfl rfl) (by rfl) (T.free "all") (by decide +kernel) (pa_cons (pe_lc (own := [("one", 1), ("other", 2)]) rfl sc_is_rising.nd (ziA K rfl (T.free "zip") (pa_cons (pv 0) (pa_cons (pe_slice (slA K rfl) (pv 0) (po_some pe_int) po_none) pa_nil))) (blkOk_by (N := ["items", "one", "other"]) (sc := defScope s_is_rising) (by decide +kernel)) (fun _ _ _ _ _ => (pgTup K (n := 2) rfl rfl (pgs_cons (pg_name (i := 1) sc_is_rising.nd rfl (Or.inl rfl)) (pgs_cons (pg_name (i := 2) sc_is_rising.nd rfl (Or.inl rfl)) pgs_nil)))) (fun _ _ _ _ _ => pts_nil) (fun _ _ _ _ _ => (pe_cmpR op_lt (pv 1) (pv 2) (nomark _)))) pa_nil)))), ?_⟩
    refine ⟨_, rfl, _, rfl, _, rfl, p, [], rfl, hT, fun _ => ?_, fun z => absurd ⟨rfl, rfl⟩ z⟩
    refine ⟨p, p, [], [], rfl, .inr ⟨hT, hT, fun D hD => ?_⟩⟩
    refine ⟨fun i m H' => i = 0 ∧ m = 0 ∧ Same H H' ∧ H' D = some (.lst []), ⟨0, rfl, rfl, same_new hD, upd_same⟩, fun i m H' h => .inl ⟨⟨[], [], same_sqT h.2.2.1 hT, same_sqT h.2.2.1 hT, .inl (Nat.zero_le _)⟩, ?_⟩⟩
    exact ⟨D, [], rfl, .inl (.inl h.2.2.2), kq H' h.2.2.1⟩
def spSet (K : PySem.W.Frag) : Sp := fun vs H Q _ => ∃ (p : Addr) (n : Int), vs = [.ref p, .int n] ∧ SqT K H p [] ∧ ∀ H', Same H H' → Q (.bl true) H'
theorem ok_set (T : Txt K mg) : CalM none P w K mg base 4 "is_set" (spSet K) := by
  obtain ⟨fd, F⟩ := T.fn_ 5 "is_set" s_is_set
  have G_is_row := ok_row (P := P) (w := w) (base := base) T
  have G_is_rising := ok_rise (P := P) (w := w) (base := base) T
  refine calM F (T.g "is_set") (F.bindsN (ps := ["value", "size"]) fun _ _ _ _ _ _ us hl => match us, hl with | [_, _], _ => rfl) sc_is_set (fun vs H Q E h => ?_) (fun cdv A outer s H vs Q E hr mo h => ?_)
  · obtain ⟨p, n, rfl, _⟩ := h
    rfl
  · obtain ⟨p, n, rfl, hT, kq⟩ := h
    refine ⟨_, (pss_one (ps_ret (pe_and (pe_callB (cIsX K rfl (pn := []) rfl) (by rfl) (T.free "isinstance") (by decide +kernel) (pa_cons (pv 0) (pa_cons (pe_bltn (v := .ty "tuple") (by rfl) (T.free "tuple") (by decide +kernel) rfl) pa_nil))) (pe_and (pe_callC G_is_row ⟨mo.pn, mo.c, mo.h⟩ (hr.mono (by omega)) rfl (pa_cons (pv 0) (pa_cons (pe_callB (cLenSeq K rfl) (by rfl) (T.free "len") (by decide +kernel) (pa_cons (pv 0) pa_nil)) (pa_cons (pe_int) (pa_cons (pe_op op_sub (pv 1) (pe_int)) pa_nil))))) (pe_one (pe_callC G_is_rising ⟨mo.pn, mo.c, mo.h⟩ (hr.mono (by omega)) rfl (pa_cons (pv 0) pa_nil))))))), ?_⟩
    have ty : TyE K [] H (.ref p) (.type "tuple") := sq_tyT hT
    refine ⟨_, rfl, _, .ty "tuple", _, .type "tuple", true, rfl, .ty _, ty, kit_ty (by decide +kernel), _, rfl, iteT ?_⟩
    refine ⟨_, rfl, _, rfl, p, _, rfl, .inr hT, _, rfl, _, _, rfl, rfl, ?_⟩
    refine ⟨p, [], _, _, rfl, hT, by decide, (fun _ h => nomatch h), fun H1 s1 => ⟨_, rfl, iteT ?_⟩⟩
    exact ⟨_, rfl, p, rfl, same_sqT s1 hT, fun H2 s2 => kq H2 (s1.trans s2)⟩
def spLet : Sp := fun vs H Q _ => vs = [.int 1] ∧ ∀ H', Same H H' → Q (.bl true) H'
theorem ok_let (T : Txt K mg) : CalM none P w K mg base 3 "is_number_of_letters" spLet := by
  obtain ⟨fd, F⟩ := T.fn_ 6 "is_number_of_letters" s_is_number_of_letters
  have G_is_between := ok_bet (P := P) (w := w) (base := base) T
  obtain ⟨tm, mML⟩ := T.mL
  refine calM F (T.g "is_number_of_letters") (F.bindsN (ps := ["value"]) fun _ _ _ _ _ _ us hl => match us, hl with | [_], _ => rfl) sc_is_number_of_letters (fun vs H Q E h => ?_) (fun cdv A outer s H vs Q E hr mo h => ?_)
  · obtain ⟨rfl, _⟩ := h
    rfl
  · obtain ⟨rfl, kq⟩ := h
    refine ⟨_, (pss_one (ps_ret (pe_callC G_is_between ⟨mo.pn, mo.c, mo.h⟩ (hr.mono (by omega)) rfl (pa_cons (pv 0) (pa_cons (pe_int) (pa_cons (pe_glob (v := .int 3) rfl mML ⟨_, rfl⟩) pa_nil)))))), ?_⟩
    exact ⟨_, rfl, 1, 1, 3, rfl, by decide, by decide, fun H' s' => kq H' s'⟩
def spStep (K : PySem.W.Frag) : Sp := fun vs H Q _ => ∃ (p r : Addr), vs = [.int 1, .ref p] ∧ SqT K H p [.ref r] ∧ SqT K H r [.int 0] ∧ ∀ H', Same H H' → Q (.bl true) H'
theorem ok_steps (T : Txt K mg) : CalM none P w K mg base 4 "are_steps" (spStep K) := by
  obtain ⟨fd, F⟩ := T.fn_ 7 "are_steps" s_are_steps
  have G_is_row := ok_row (P := P) (w := w) (base := base) T
  obtain ⟨tm, mMS⟩ := T.mS
  refine calM F (T.g "are_steps") (F.bindsN (ps := ["letters", "value"]) fun _ _ _ _ _ _ us hl => match us, hl with | [_, _], _ => rfl) sc_are_steps (fun vs H Q E h => ?_) (fun cdv A outer s H vs Q E hr mo h => ?_)
  · obtain ⟨p, r, rfl, _⟩ := h
    rfl
  · obtain ⟨p, r, rfl, hT, hR, kq⟩ := h
    refine ⟨_, (pss_cons (ps_if (PW.pt (pw_or (pt_not (pt_val (pe_callB (cIsX K rfl (pn := []) rfl) (by rfl) (T.free "isinstance") (by decide +kernel) (pa_cons (pv 1) (pa_cons (pe_bltn (v := .ty "tuple") (by rfl) (T.free "tuple") (by decide +kernel) rfl) pa_nil))))) (pw_or1 (pt_not (pt_chain op_le op_le (pe_int) (pe_callB (cLenSeq K rfl) (by rfl) (T.free "len") (by decide +kernel) (pa_cons (pv 1) pa_nil)) (pe_glob (v := .int 64) rfl mMS ⟨_, rfl⟩)))))) (pss_one (ps_ret (pe_bl))) pss_nil)
      (pss_one (ps_ret (pe_callB (cAll K rfl rfl) (by rfl) (T.free "all") (by decide +kernel) (pa_cons (pe_lc (own := [("row", 2)]) rfl sc_are_steps.nd (piT K rfl (pv 1)) (blkOk_by (N := ["letters", "value", "row"]) (sc := defScope s_are_steps) (by decide +kernel)) (fun _ _ _ _ _ => (pg_name (i := 2) sc_are_steps.nd rfl (Or.inl rfl))) (fun _ _ _ _ _ => pts_nil) (fun _ _ _ _ _ => (pe_callC G_is_row ⟨mo.pn, mo.c, mo.h⟩ (hr.mono (by omega)) rfl (pa_cons (pv 2) (pa_cons (pv 0) (pa_cons (pe_int) (pa_cons (pe_op op_sub (pe_callB (cLenSeq K rfl) (by rfl) (T.free "len") (by decide +kernel) (pa_cons (pv 1) pa_nil)) (pe_int)) pa_nil))))))) pa_nil))))), ?_⟩
    have ty : TyE K [] H (.ref p) (.type "tuple") := sq_tyT hT
    refine ⟨_, rfl, _, .ty "tuple", _, .type "tuple", true, rfl, .ty _, ty, kit_ty (by decide +kernel), _, rfl, iteF ?_⟩
    refine ⟨_, rfl, p, _, rfl, .inr hT, _, _, rfl, rfl, _, rfl, iteT ⟨_, _, rfl, rfl, _, rfl, iteF ?_⟩⟩
    refine ⟨_, rfl, p, rfl, ⟨_, hT⟩, fun D hD => everyT hT (by show 1 ≤ 1000; decide) hD (fun i x H2 hx s2 kk kq2 => ?_) (fun H3 s3 h3 => ?_)⟩
    · match i, hx with
      | 0, hx =>
        cases hx
        refine ⟨_, rfl, _, rfl, _, rfl, p, _, rfl, .inr (same_sqT s2 hT), _, _, rfl, rfl, ?_⟩
        exact ⟨r, [0], 0, 0, rfl, same_sqT s2 hR, by decide, (fun n h => by simp at h; omega), kq2⟩
    · refine ⟨D, _, rfl, .inl (.inl h3), ?_⟩
      rw [all_true]
      exact kq H3 s3
def spAut (K : PySem.W.Frag) : Sp := fun vs H Q _ => ∃ (x dx p r e : Addr), vs = [.ref x, .int 1, .int 0, .ref p, .ref e] ∧ H x = some (.ins (AU K) dx []) ∧ SqT K H p [.ref r] ∧ SqT K H r [.int 0] ∧ SqT K H e [] ∧
  ∀ (H' : Hp) (fs : List (Str × V)), Keep x H H' → H' x = some (.ins (AU K) dx fs) → fs.lookup ("letters" : Str) = some (V.int 1) → fs.lookup ("start" : Str) = some (V.int 0) → fs.lookup ("steps" : Str) = some (V.ref p) → fs.lookup ("accepting" : Str) = some (V.ref e) → Q .non H'
theorem keep_sqT {K : PySem.W.Frag} {H H' : Hp} {b a : Addr} {xs : List V} (e : Keep b H H') (n : ∀ o, H b = some o → (∀ u, o ≠ .tup u) ∧ ∀ q u, o ≠ .frz q (.tup u)) (h : SqT K H a xs) : SqT K H' a xs := by
  rcases h with (h | ⟨o, h⟩) | h
  · exact .inl (.inl (e _ _ h fun z => (n _ (z ▸ h)).1 _ rfl))
  · exact .inl (.inr ⟨o, e _ _ h fun z => (n _ (z ▸ h)).2 _ _ rfl⟩)
  · exact .inr h
theorem ok_aut (T : Txt K mg) {fd : FuncData} {f : Addr} (F : FunD K "__init__" "Automaton.__init__" (defArgs s_Automaton_init) (defBody s_Automaton_init) (defScope s_Automaton_init) [] [] f fd) : FnOk P w K mg base CX0 5 f fd ["self", "letters", "start", "steps", "accepting"] (spAut K) := by
  have G_is_number_of_letters := ok_let (P := P) (w := w) (base := base) T
  have G_are_steps := ok_steps (P := P) (w := w) (base := base) T
  have G_is_between := ok_bet (P := P) (w := w) (base := base) T
  have G_is_set := ok_set (P := P) (w := w) (base := base) T
  refine F.ok sc_Automaton_init (fun vs H Q E h => ?_) (fun cdv A outer s H vs Q E hr0 h => ?_)
  · obtain ⟨x, dx, p, r, e, rfl, _⟩ := h
    rfl
  · obtain ⟨x, dx, p, r, e, rfl, hx, hp, hR, he, kq⟩ := h
    have hr := roomM_of hr0
    have mo : MdOk none (cxOf CX0 P w K mg base ["self", "letters", "start", "steps", "accepting"] "Automaton.__init__" (defScope s_Automaton_init) f cdv A outer s H E).nox := ⟨rfl, fun _ => rfl, fun _ z => nomatch z⟩
    refine ⟨_, PSs.nox (pss_cons (ps_if (pt_not (pt_val (pe_callC G_is_number_of_letters ⟨mo.pn, mo.c, mo.h⟩ (hr.mono (by omega)) rfl (pa_cons (pv 1) pa_nil)))) (pss_one (ps_never)) pss_nil)
      (pss_cons (ps_if (pt_not (pt_val (pe_callC G_are_steps ⟨mo.pn, mo.c, mo.h⟩ (hr.mono (by omega)) rfl (pa_cons (pv 1) (pa_cons (pv 3) pa_nil))))) (pss_one (ps_never)) pss_nil)
      (pss_cons (ps_if (pt_not (pt_val (pe_callC G_is_between ⟨mo.pn, mo.c, mo.h⟩ (hr.mono (by omega)) rfl (pa_cons (pv 2) (pa_cons (pe_int) (pa_cons (pe_op op_sub (pe_callB (cLenSeq K rfl) (by rfl) (T.free "len") (by decide +kernel) (pa_cons (pv 3) pa_nil)) (pe_int)) pa_nil)))))) (pss_one (ps_never)) pss_nil)
      (pss_cons (ps_if (pt_not (pt_val (pe_callC G_is_set ⟨mo.pn, mo.c, mo.h⟩ (hr.mono (by omega)) rfl (pa_cons (pv 4) (pa_cons (pe_callB (cLenSeq K rfl) (by rfl) (T.free "len") (by decide +kernel) (pa_cons (pv 3) pa_nil)) pa_nil))))) (pss_one (ps_never)) pss_nil)
      (pss_cons (ps_fld (pv 0) (pv 1) rfl)
      (pss_cons (ps_fld (pv 0) (pv 2) rfl)
      (pss_cons (ps_fld (pv 0) (pv 3) rfl)
      (pss_cons (ps_fld (pv 0) (pv 4) rfl)
      (pss_one (ps_fld (pv 0) (pe_callB (cLenSeq K rfl) (by rfl) (T.free "len") (by decide +kernel) (pa_cons (pv 3) pa_nil)) rfl)))))))))), ?_⟩
    refine ⟨_, rfl, rfl, fun H1 s1 => ⟨_, rfl, iteF ?_⟩⟩
    refine ⟨_, rfl, _, rfl, p, r, rfl, same_sqT s1 hp, same_sqT s1 hR, fun H2 s2 => ⟨_, rfl, iteF ?_⟩⟩
    have s12 := s1.trans s2
    refine ⟨_, rfl, _, rfl, p, _, rfl, .inr (same_sqT s12 hp), _, _, rfl, rfl, 0, 0, 0, rfl, by decide, by decide, fun H3 s3 => ⟨_, rfl, iteF ?_⟩⟩
    have s13 := s12.trans s3
    refine ⟨_, rfl, _, rfl, p, _, rfl, .inr (same_sqT s13 hp), e, 1, rfl, same_sqT s13 he, fun H4 s4 => ⟨_, rfl, iteF ?_⟩⟩
    have s14 := s13.trans s4
    have C := au_isCls T
    have nt : ∀ {o : HO}, HO.ins (AU K) dx [] = o → (∀ u, o ≠ .tup u) ∧ ∀ q u, o ≠ .frz q (.tup u) := fun z => by
      subst z
      exact ⟨fun _ z => (nomatch z), fun _ _ z => (nomatch z)⟩
    refine ⟨_, rfl, _, rfl, x, _, dx, _, rfl, s14 _ _ hx, C, au_noat T _, by decide, ?_⟩
    refine ⟨_, rfl, _, rfl, x, _, dx, _, rfl, upd_same, C, au_noat T _, (by show 1 < 1000; decide), ?_⟩
    refine ⟨_, rfl, _, rfl, x, _, dx, _, rfl, upd_same, C, au_noat T _, (by show 2 < 1000; decide), ?_⟩
    refine ⟨_, rfl, _, rfl, x, _, dx, _, rfl, upd_same, C, au_noat T _, (by show 3 < 1000; decide), ?_⟩
    have k5 : ∀ {o1 o2 o3 o4 : HO}, Keep x H (upd (upd (upd (upd H4 x o1) x o2) x o3) x o4) := ((((Keep.of_same (b := x) s14).trans keep_upd).trans keep_upd).trans keep_upd).trans keep_upd
    have nx : ∀ o, H x = some o → (∀ u, o ≠ .tup u) ∧ ∀ q u, o ≠ .frz q (.tup u) := fun o ho => by
      rw [hx] at ho
      exact nt (Option.some.inj ho)
    refine ⟨_, rfl, p, [.ref r], rfl, .inr (keep_sqT k5 nx hp), _, rfl, x, _, dx, _, rfl, upd_same, C, au_noat T _, (by show 4 < 1000; decide), ?_⟩
    have k6 : ∀ {o1 o2 o3 o4 o5 : HO}, Keep x H (upd (upd (upd (upd (upd H4 x o1) x o2) x o3) x o4) x o5) := k5.trans keep_upd
    exact kq _ _ k6 upd_same rfl rfl rfl rfl
end
end Kn

set_option Elab.async false
set_option linter.all false
set_option maxRecDepth 100000
set_option maxHeartbeats 4000000
namespace Kx
open PySem PySem.Spec PyProof.Rows L2
theorem jnK {X : Cx} (K : PySem.W.Frag) (h : X.K = K) {o e : Expr} {to te : TE} {apos pos : Pos} (ho : PE X o to) (he : PE X e te) (hs : starEach [e] X.env = [(false, eval e X.env)] := by rfl) (hbase : attributeBase o "join" X.env (eval o X.env) = eval o X.env := by rfl) (hline : (apos.endLine == pos.line) = true := by rfl) :
    PE X (.Call (.Attribute o "join" apos) [e] [] pos) (tM1 (fun x xs H Q => ∃ a p, ∃ ys : List Str, x = .str a ∧ xs = [.ref p] ∧ (SqL K H p (ys.map V.str) ∨ SqT K H p (ys.map V.str)) ∧
      (ys.map (·.length)).sum + ys.length * a.length ≤ 16777216 ∧ Q (.str (Txt.join a ys)) H) to te) := h ▸ pe_join ho he hs hbase hline
end Kx
namespace Kn
open PySem PySem.Spec PyProof.Rows L2 L2H Kx RZ
theorem len_join : ∀ {ys : List Str}, (∀ y ∈ ys, y.length ≤ 1) → (Txt.join ⟨#[]⟩ ys).length ≤ ys.length := by
  intro ys h
  rw [TL.join_eq]
  have e : ∀ x : Str, x.length = (TL.tl x).length := fun x => by
    show x.cps.size = x.cps.toList.length
    rw [Array.length_toList]
  rw [e, TL.tl_join]
  have k : ∀ ps : List (List Nat), (∀ p ∈ ps, p.length ≤ 1) → (TL.joinL [] ps).length ≤ ps.length := by
    intro ps
    induction ps with
    | nil => exact fun _ => Nat.le_refl _
    | cons p r ih =>
      intro h
      cases r with
      | nil => exact h p List.mem_cons_self
      | cons q r =>
        have h1 := h p List.mem_cons_self
        have h2 := ih fun z hz => h z (List.mem_cons_of_mem _ hz)
        show (p ++ ([] ++ TL.joinL [] (q :: r))).length ≤ _
        rw [List.nil_append, List.length_append]
        simp only [List.length_cons] at h2 ⊢
        omega
  have := k (ys.map TL.tl) fun p hp => by
    obtain ⟨y, hy, rfl⟩ := List.mem_map.mp hp
    rw [← e]
    exact h y hy
  rw [List.length_map] at this
  exact this
theorem sum_one : ∀ {ys : List Str}, (∀ y ∈ ys, y.length ≤ 1) → (ys.map (·.length)).sum ≤ ys.length
  | [], _ => Nat.le_refl _
  | y :: r, h => by
    have h1 := h y List.mem_cons_self
    have h2 := sum_one (ys := r) fun z hz => h z (List.mem_cons_of_mem _ hz)
    simp only [List.map_cons, List.sum_cons, List.length_cons]
    omega
/-! ### the heap without the box -/
def wo (bs : List Addr) (H : Hp) : Hp := fun a => if a ∈ bs then none else H a
theorem wo_at {bs : List Addr} {a : Addr} {H : Hp} (h : a ∉ bs) : wo bs H a = H a := if_neg h
theorem wo_get {bs : List Addr} {a : Addr} {H : Hp} {o : HO} (h : wo bs H a = some o) : a ∉ bs ∧ H a = some o := by
  by_cases z : a ∈ bs
  · unfold wo at h
    rw [if_pos z] at h
    cases h
  · rw [wo_at z] at h
    exact ⟨z, h⟩
theorem wo_keep {b : Addr} {bs : List Addr} {H H' : Hp} (hb : b ∈ bs) (k : Keep b H H') : Same (wo bs H) (wo bs H') := fun a o e => by
  obtain ⟨z, e⟩ := wo_get e
  rw [wo_at z]
  exact k a o e fun y => z (y ▸ hb)
theorem wo_mono {bs : List Addr} {H H' : Hp} (k : Same H H') : Same (wo bs H) (wo bs H') := fun a o e => by
  obtain ⟨z, e⟩ := wo_get e
  rw [wo_at z]
  exact k a o e
theorem wo_same {bs : List Addr} {H : Hp} : Same (wo bs H) H := fun a o e => (wo_get e).2
theorem wo_less {p : Addr} {bs : List Addr} {H : Hp} {o : HO} : Same (wo (p :: bs) H) (wo bs (upd H p o)) := fun a u e => by
  obtain ⟨z, e⟩ := wo_get e
  rw [wo_at fun y => z (List.mem_cons_of_mem _ y), upd_ne fun y : a = p => z (by rw [y]; exact List.mem_cons_self)]
  exact e
theorem Lk.le {K : PySem.W.Frag} {H : Hp} {n : Nat} {x y : V} (h : Lk K H n x y) : ∀ {m : Nat}, n ≤ m → Lk K H m x y := by
  induction h with
  | leaf h => exact fun _ => .leaf h
  | lst h1 h2 hl hn hi ih =>
    intro m hm
    obtain ⟨m, rfl⟩ : ∃ k, m = k + 1 := ⟨m - 1, by omega⟩
    exact .lst h1 h2 hl hn fun i x y a b => ih i x y a b (by omega)
  | tup h1 h2 hl hn hi ih =>
    intro m hm
    obtain ⟨m, rfl⟩ : ∃ k, m = k + 1 := ⟨m - 1, by omega⟩
    exact .tup h1 h2 hl hn fun i x y a b => ih i x y a b (by omega)
  | dic h1 h2 hl hn hv hi ih =>
    intro m hm
    obtain ⟨m, rfl⟩ : ∃ k, m = k + 1 := ⟨m - 1, by omega⟩
    exact .dic h1 h2 hl hn hv fun i k x y a b => ih i k x y a b (by omega)
  | aut h => exact fun _ => .aut h
  | iw x h ih =>
    intro m hm
    obtain ⟨m, rfl⟩ : ∃ k, m = k + 1 := ⟨m - 1, by omega⟩
    exact .iw x (ih (by omega))
  | nt x => exact fun _ => .nt x
/-! ### expressions that make values alike to themselves, away from some addresses -/
def Has (bs : List Addr) (H : Hp) : Prop := ∀ b ∈ bs, ∃ u, H b = some u
section
variable (K : PySem.W.Frag) (bs : List Addr) (H0 : Hp)
def Yd (j : Nat) (te : TE) (σ : St) : Prop := ∀ (H : Hp), Same H0 H → ∀ Q : VK, (∀ v H1, Same H H1 → Lk K (wo bs H1) j v v → Q v H1) → te σ H Q
def Ys (j n : Nat) (ta : TA) (σ : St) : Prop := ∀ (H : Hp), Same H0 H → ∀ Q : List V → Hp → Prop, (∀ vs H1, Same H H1 → vs.length = n → (∀ v ∈ vs, Lk K (wo bs H1) j v v) → Q vs H1) → ta σ H Q
end
section
variable {K : PySem.W.Frag} {bs : List Addr} {H0 : Hp} {σ : St}
theorem fresh_ne {H : Hp} {p : Addr} (hB : Has bs H) (hp : H p = none) : p ∉ bs := fun z => by
  obtain ⟨u, hu⟩ := hB p z
  rw [hu] at hp
  cases hp
theorem has_same {H H' : Hp} (hB : Has bs H) (s : Same H H') : Has bs H' := fun b h => (hB b h).imp fun u e => s _ _ e
theorem Yd.le {i j : Nat} {te : TE} (h : Yd K bs H0 i te σ) (l : i ≤ j) : Yd K bs H0 j te σ := fun H sH Q q => h H sH Q fun v H1 s g => q v H1 s (g.le l)
theorem Yd.c {j : Nat} {v : V} (h : Sm K (fun _ => none) 0 v v) : Yd K bs H0 j (tC v) σ := fun H sH Q q => q v H (Same.refl H) (.leaf (Sm.any 0 h))
theorem Yd.v {j i : Nat} {v : V} (e : σ[i]? = some (some v)) (h : Lk K (wo bs H0) j v v) : Yd K bs H0 j (tVar i) σ := fun H sH Q q => ⟨v, e, q v H (Same.refl H) (h.same (wo_mono sH))⟩
theorem Ys.nil {j : Nat} : Ys K bs H0 j 0 tNil σ := fun H sH Q q => q [] H (Same.refl H) rfl fun _ h => nomatch h
theorem Ys.cons {j n : Nat} {t : TE} {ts : TA} (h : Yd K bs H0 j t σ) (r : Ys K bs H0 j n ts σ) : Ys K bs H0 j (n + 1) (tCons t ts) σ := fun H sH Q q =>
  h H sH _ fun v H1 s1 g => r H1 (sH.trans s1) _ fun vs H2 s2 l gs => q (v :: vs) H2 (s1.trans s2) (by rw [List.length_cons, l]) fun u hu => by
    rcases List.mem_cons.mp hu with rfl | hu
    · exact g.same (wo_mono s2)
    · exact gs u hu
theorem Yd.lst {j n : Nat} {ts : TA} (hB : Has bs H0) (h : Ys K bs H0 j n ts σ) (hn : n ≤ 1000) : Yd K bs H0 (j + 1) (tLst ts) σ := fun H sH Q q =>
  h H sH _ fun vs H1 s1 l gs => ⟨by rw [l]; exact Nat.le_trans hn (by decide), fun p hp => by
    have hne := fresh_ne (has_same hB (sH.trans s1)) hp
    have hq : SqL K (wo bs (upd H1 p (.lst vs))) p vs := .inl (.inl (by rw [wo_at hne, upd_same]))
    exact q _ _ (s1.trans (same_new hp)) (.lst hq hq rfl (by omega) fun i x y hx hy => by
      obtain rfl := some_inj (hx.symm.trans hy)
      exact (gs x (List.mem_of_getElem? hx)).same (wo_mono (same_new hp)))⟩
theorem Ys.into {j n : Nat} {ts : TA} {H : Hp} {Q : VK} (h : Ys K bs H0 j n ts σ) (sH : Same H0 H) (hn : n ≤ 1000) (k : ∀ (vs : List V) (H1 : Hp) (p : Addr), Same H H1 → vs.length = n → (∀ v ∈ vs, Lk K (wo bs H1) j v v) → H1 p = none → Q (.ref p) (upd H1 p (.lst vs))) : tLst ts σ H Q :=
  h H sH _ fun vs H1 s1 l gs => ⟨by rw [l]; exact Nat.le_trans hn (by decide), fun p hp => k vs H1 p s1 l gs hp⟩
theorem Yd.tup {j n : Nat} {ts : TA} (hB : Has bs H0) (h : Ys K bs H0 j n ts σ) (hn : n ≤ 1000) : Yd K bs H0 (j + 1) (tTup ts) σ := fun H sH Q q =>
  h H sH _ fun vs H1 s1 l gs => ⟨by rw [l]; exact Nat.le_trans hn (by decide), fun p hp => by
    have hne := fresh_ne (has_same hB (sH.trans s1)) hp
    have hq : SqT K (wo bs (upd H1 p (.tup vs))) p vs := .inl (.inl (by rw [wo_at hne, upd_same]))
    exact q _ _ (s1.trans (same_new hp)) (.tup hq hq rfl (by omega) fun i x y hx hy => by
      obtain rfl := some_inj (hx.symm.trans hy)
      exact (gs x (List.mem_of_getElem? hx)).same (wo_mono (same_new hp)))⟩
theorem Yd.dnew {j : Nat} (hB : Has bs H0) : Yd K bs H0 (j + 1) tDNewK σ := fun H sH Q q p hp => by
  have hne := fresh_ne (has_same hB sH) hp
  have hq : Rd (wo bs (upd H p (.dK []))) p (.dK []) := .inl (by rw [wo_at hne, upd_same])
  exact q _ _ (same_new hp) (.dic hq hq rfl (by decide) (fun i k y h => nomatch h) fun i k x y h => nomatch h)
theorem one_dic {H : Hp} {p : Addr} {k : Str} {v : V} {j : Nat} (hq : Rd H p (.dK [(.inr k, v)])) (g : Lk K H j v v) : Lk K H (j + 1) (.ref p) (.ref p) := by
  have e : valV [((.inr k : Key), v)] (.inr k) = some v := valV_pos rfl
  refine .dic hq hq rfl (by show 1 ≤ 1000; decide) (fun i k' y h => ?_) fun i k' x y h h2 => ?_
  · match i, h with
    | 0, h => cases h; exact ⟨e, v, e⟩
  · match i, h with
    | 0, h =>
      cases h
      rw [e] at h2
      cases h2
      exact g
theorem disp_same {H H1 : Hp} {p : Addr} {o u : HO} (hp : H p = none) (s1 : Same (upd H p o) H1) : Same H (upd H1 p u) := fun a x e => by
  have e1 := s1 _ _ (same_new hp _ _ e)
  rw [upd_ne (ne_of_none e hp)]
  exact e1
theorem Yd.disp {j : Nat} {k : Str} {te : TE} (hB : Has bs H0) (h : ∀ bs H0, Has bs H0 → Yd K bs H0 j te σ) : Yd K bs H0 (j + 1) (tDisp [(tC (.str k), te)]) σ := fun H sH Q q p hp => by
  have hne := fresh_ne (has_same hB sH) hp
  have s0 : Same H (upd H p (.dK [])) := same_new hp
  refine h (p :: bs) _ (fun b hb => ?_) _ (Same.refl _) _ fun v H1 s1 g => ?_
  · rcases List.mem_cons.mp hb with rfl | hb
    · exact ⟨_, upd_same⟩
    · exact has_same hB (sH.trans s0) b hb
  refine ⟨s1 _ _ upd_same, [(.inr k, v)], rfl, by show 1 ≤ 15; decide, ?_⟩
  exact q _ _ (disp_same hp s1) (one_dic (.inl (by rw [wo_at hne, upd_same]; rfl)) (g.same wo_less))
theorem Yd.dispV {j i : Nat} {k : Str} {v : V} (hB : Has bs H0) (e : σ[i]? = some (some v)) (h : Lk K (wo bs H0) j v v) : Yd K bs H0 (j + 1) (tDisp [(tC (.str k), tVar i)]) σ := fun H sH Q q p hp => by
  have hne := fresh_ne (has_same hB sH) hp
  refine ⟨v, e, upd_same, [(.inr k, v)], rfl, by show 1 ≤ 15; decide, ?_⟩
  exact q _ _ (disp_same hp (Same.refl _)) (one_dic (.inl (by rw [wo_at hne, upd_same]; rfl)) (h.same (wo_mono (sH.trans (disp_same hp (Same.refl _))))))
end
section
variable {P : Program} {w : World} {K : PySem.W.Frag} {mg : Str → Option Value} {base : Heap}
/-! ### the strings -/
theorem get_ex {z : Str} {k : Nat} (h : k < z.length) : ∃ c, atI z.cps.toList (k : Int) = some c := by
  have h' : k < z.cps.toList.length := by rw [Array.length_toList]; exact h
  exact ⟨_, atI_nat (List.getElem?_eq_getElem h')⟩
def spStr : Sp := fun vs H Q _ => ∃ (b : Addr) (n : Nat), vs = [.ref b] ∧ BoxAt H b n ∧ n ≤ 100000 ∧ ∀ (x : Str) (H' : Hp), x.length ≤ 1000 → Keep b H H' → BoxAt H' b (n + 100) → Q (.str x) H'
theorem ok_str (T : Txt K mg) : CalM none P w K mg base 2 "_law_string" spStr := by
  obtain ⟨fd, F⟩ := T.fn_ 17 "_law_string" s_law_string
  have G_law_take := ok_take (P := P) (w := w) (base := base) T
  refine calM F (T.g "_law_string") (F.bindsN (ps := ["box"]) fun _ _ _ _ _ _ us hl => match us, hl with | [_], _ => rfl) sc_law_string (fun vs H Q E h => ?_) (fun cdv A outer s H vs Q E hr mo h => ?_)
  · obtain ⟨b, n, rfl, _⟩ := h
    rfl
  · obtain ⟨b, n, rfl, hb, hn, kq⟩ := h
    refine ⟨_, (pss_cons (ps_set (i := 1) sc_law_string.nd rfl (Or.inr rfl) (pe_str))
      (pss_one (ps_ret ((jnK K rfl (pe_str) (pe_lc (own := [("k", 2)]) rfl sc_law_string.nd (pi_range1 rfl (T.free "range") (pa_cons (pe_ix (ixL K rfl) (pe_lst (pa_cons (pe_int) (pa_cons (pe_int) (pa_cons (pe_int) (pa_cons (pe_int) (pa_cons (pe_int) pa_nil)))))) (pe_callC G_law_take ⟨mo.pn, mo.c, mo.h⟩ (hr.mono (by omega)) rfl (pa_cons (pv 0) (pa_cons (pe_int) pa_nil))) (fun _ _ => rfl)) pa_nil)) (blkOk_by (N := ["box", "signs", "k"]) (sc := defScope s_law_string) (by decide +kernel)) (fun _ _ _ _ _ => (pg_name (i := 2) sc_law_string.nd rfl (Or.inl rfl))) (fun _ _ _ _ _ => pts_nil) (fun _ _ _ _ _ => (pe_ix ix_str (pv 1) (pe_callC G_law_take ⟨mo.pn, mo.c, mo.h⟩ (hr.mono (by omega)) rfl (pa_cons (pv 0) (pa_cons (pe_callB call_len_str (by rfl) (T.free "len") (by decide +kernel) (pa_cons (pv 1) pa_nil)) pa_nil))) (fun _ _ => rfl))))))))), ?_⟩
    refine ⟨⟨_, rfl⟩, by decide, fun p hp => ?_⟩
    have hbp : b ≠ p := fun z => by
      obtain ⟨_, _, _, _, e, _⟩ := hb
      rw [z, hp] at e
      cases e
    have s0 : Same H (upd H p (.lst [.int 0, .int 1, .int 2, .int 7, .int 40])) := same_new hp
    refine ⟨_, rfl, b, 5, n, rfl, by decide, by decide, hb.same s0, by omega, fun d o h0 h5 hb1 => ?_⟩
    obtain ⟨m, hm, hat⟩ : ∃ m : Nat, m ≤ 40 ∧ atI [V.int 0, V.int 1, V.int 2, V.int 7, V.int 40] d = some (V.int (m : Nat)) := by
      obtain ⟨k, rfl⟩ := Int.eq_ofNat_of_zero_le h0
      match k, (by omega : k < 5) with
      | 0, _ => exact ⟨0, by decide, rfl⟩
      | 1, _ => exact ⟨1, by decide, rfl⟩
      | 2, _ => exact ⟨2, by decide, rfl⟩
      | 3, _ => exact ⟨7, by decide, rfl⟩
      | 4, _ => exact ⟨40, by decide, rfl⟩
    refine ⟨p, _, d, _, rfl, rfl, .inl (.inl (by rw [upd_ne (Ne.symm hbp), upd_same])), hat, _, rfl, by omega, by omega, fun D hD => ?_⟩
    rw [Int.toNat_natCast]
    have k1 : Keep b H (upd (upd H p (.lst [.int 0, .int 1, .int 2, .int 7, .int 40])) b o) := (Keep.of_same s0).trans keep_upd
    generalize (upd (upd H p (.lst [.int 0, .int 1, .int 2, .int 7, .int 40])) b o) = H1 at hD hb1 k1 ⊢
    have hbD : b ≠ D := fun z => by
      obtain ⟨_, _, _, _, e, _⟩ := hb1
      rw [z, hD] at e
      cases e
    refine lc_range (lo := 0) (n := m) (fun i H' => Keep b H1 H' ∧ BoxAt H' b (n + 1 + i) ∧ ∃ ys : List Str, ys.length = i ∧ (∀ y ∈ ys, y.length ≤ 1) ∧ H' D = some (.lst (ys.map V.str))) ⟨Keep.of_same (same_new hD), hb1.same (same_new hD), [], rfl, (fun _ h => nomatch h), upd_same⟩ (fun i H' hi h => ?_) (fun H' h => ?_)
    · obtain ⟨kk, bx, ys, hl, hy, hd⟩ := h
      refine ⟨wipe1, ?_⟩
      dsimp only [tYes]
      rw [if_pos rfl]
      refine ⟨_, rfl, _, rfl, _, rfl, _, rfl, by decide +kernel, b, _, n + 1 + i, rfl, by decide +kernel, by decide +kernel, bx, by omega, fun d2 o2 g0 g1 bx2 => ?_⟩
      obtain ⟨k2, rfl⟩ := Int.eq_ofNat_of_zero_le g0
      have hk2 := Int.ofNat_lt.mp g1
      obtain ⟨c, hc⟩ := get_ex hk2
      refine ⟨_, _, c, rfl, rfl, by decide +kernel, hc, ?_⟩
      have hdD : upd H' b o2 D = some (.lst (ys.map V.str)) := by rw [upd_ne (Ne.symm hbD)]; exact hd
      have bz : ∀ u : HO, BoxAt (upd (upd H' b o2) D u) b (n + 1 + (i + 1)) := fun u => by
        obtain ⟨g, big, mm, c, e, z⟩ := bx2
        exact ⟨g, big, mm, c, by rw [upd_ne hbD]; exact e, z.1, z.2.1, z.2.2.1, z.2.2.2.1, by omega⟩
      refine ⟨_, hdD, by rw [List.length_map, hl]; exact Nat.lt_of_lt_of_le hi (Nat.le_trans hm (by decide)), ?_, bz _, ys ++ [⟨#[c]⟩], by rw [List.length_append, hl]; rfl, ?_, ?_⟩
      · intro a u e hne
        rw [upd_ne (ne_of_none e hD), upd_ne hne]
        exact kk a u e hne
      · intro y h
        rcases List.mem_append.mp h with h | h
        · exact hy y h
        · obtain rfl := List.mem_singleton.mp h
          exact Nat.le_refl 1
      · rw [upd_same, List.map_append]
        rfl
    · obtain ⟨kk, bx, ys, hl, hy, hd⟩ := h
      refine ⟨_, D, ys, rfl, rfl, .inl (.inl (.inl hd)), ?_, ?_⟩
      · have := sum_one hy
        show (ys.map (·.length)).sum + ys.length * 0 ≤ _
        omega
      · refine kq _ _ (Nat.le_trans (len_join hy) (by omega)) (k1.trans kk) (bx.mono (by omega))
def spNest (K : PySem.W.Frag) : Sp := fun vs H Q _ => ∃ (b : Addr) (n : Nat), vs = [.ref b] ∧ BoxAt H b n ∧ n ≤ 100000 ∧ ∀ (v : V) (H' : Hp), Keep b H H' → BoxAt H' b (n + 100) → Lk K (wo [b] H') 10 v v → Q v H'
theorem BoxAt.has {H : Hp} {b : Addr} {n : Nat} (h : BoxAt H b n) : Has [b] H := fun c hc => by
  obtain rfl := List.mem_singleton.mp hc
  obtain ⟨_, _, _, _, e, _⟩ := h
  exact ⟨_, e⟩
theorem ok_nest (T : Txt K mg) : CalM none P w K mg base 2 "_law_nested" (spNest K) := by
  obtain ⟨fd, F⟩ := T.fn_ 18 "_law_nested" s_law_nested
  have G_law_take := ok_take (P := P) (w := w) (base := base) T
  refine calM F (T.g "_law_nested") (F.bindsN (ps := ["box"]) fun _ _ _ _ _ _ us hl => match us, hl with | [_], _ => rfl) sc_law_nested (fun vs H Q E h => ?_) (fun cdv A outer s H vs Q E hr mo h => ?_)
  · obtain ⟨b, n, rfl, _⟩ := h
    rfl
  · obtain ⟨b, n, rfl, hb, hn, kq⟩ := h
    refine ⟨_, (pss_cons (ps_set (i := 1) sc_law_nested.nd rfl (Or.inl rfl) (pe_callC G_law_take ⟨mo.pn, mo.c, mo.h⟩ (hr.mono (by omega)) rfl (pa_cons (pv 0) (pa_cons (pe_int) pa_nil))))
      (pss_cons (ps_for PassesOwn.never rfl (pi_range1 rfl (T.free "range") (pa_cons (pe_int) pa_nil)) (pg_name (i := 2) sc_law_nested.nd rfl (Or.inl rfl))
        (pss_one (ps_set (i := 1) sc_law_nested.nd rfl (Or.inl rfl) (pe_ix (ixL K rfl) (pe_lst (pa_cons (pe_lst (pa_cons (pv 1) pa_nil)) (pa_cons (pe_tup (pa_cons (pv 1) (pa_cons (pe_non) pa_nil))) (pa_cons (pe_disp (pps_cons (pe_str) (pv 1) pps_nil) (by rfl) (by rfl) (fun z => by cases z) (by decide)) pa_nil)))) (pe_callC G_law_take ⟨mo.pn, mo.c, mo.h⟩ (hr.mono (by omega)) rfl (pa_cons (pv 0) (pa_cons (pe_int) pa_nil))) (fun _ _ => rfl)))))
      (pss_one (ps_ret (pv 1))))), ?_⟩
    refine ⟨_, rfl, b, 5, n, rfl, by decide, by decide, hb, by omega, fun d o h0 h5 hb1 => ?_⟩
    refine ⟨10, rfl, by decide, by decide, for_range (lo := 0) (n := 10) (fun i σ H' => ∃ v x, σ = [some (.ref b), some v, x] ∧ Lk K (wo [b] H') i v v ∧ Keep b H H' ∧ BoxAt H' b (n + 1 + i)) ⟨_, _, rfl, .leaf (.int d), keep_upd, hb1⟩ (fun i σ H' hi h => ?_) (fun σ H' h => ?_)⟩
    · obtain ⟨v, x, rfl, lk, kp, bx⟩ := h
      have hB := bx.has
      have Y1 : Yd K [b] H' (i + 1) (tLst (tCons (tVar 1) tNil)) [some (.ref b), some v, some (.int (0 + (i : Int)))] := .lst hB (.cons (.v rfl lk) .nil) (by decide)
      have Y2 : Yd K [b] H' (i + 1) (tTup (tCons (tVar 1) (tCons (tC .non) tNil))) [some (.ref b), some v, some (.int (0 + (i : Int)))] := .tup hB (.cons (.v rfl lk) (.cons (.c .non) .nil)) (by decide)
      have Y3 : Yd K [b] H' (i + 1) (tDisp [(tC (.str "in"), tVar 1)]) [some (.ref b), some v, some (.int (0 + (i : Int)))] := .dispV hB rfl lk
      show tAsg _ _ _ _ _
      show tOp _ _ _ _ _ _
      show tLst _ _ _ _
      refine Ys.into (bs := [b]) (H0 := H') (.cons Y1 (.cons Y2 (.cons Y3 .nil))) (Same.refl H') (by decide) fun vs H1 p s1 l gs hp => ?_
      have bx1 := bx.same (s1.trans (same_new (o := .lst vs) hp))
      have hbp : b ≠ p := fun z => fresh_ne (has_same hB s1) hp (by rw [← z]; exact List.mem_singleton.mpr rfl)
      refine ⟨_, rfl, b, 3, _, rfl, by decide, by decide, bx1, by omega, fun d2 o2 g0 g3 bx2 => ?_⟩
      obtain ⟨k, rfl⟩ := Int.eq_ofNat_of_zero_le g0
      have hk : k < vs.length := by omega
      have hv := List.getElem?_eq_getElem hk
      refine ⟨p, vs, _, vs[k], rfl, rfl, .inl (.inl (by rw [upd_ne (Ne.symm hbp), upd_same])), atI_nat hv, ?_⟩
      refine ⟨vs[k], _, rfl, ?_, (kp.trans (Keep.of_same (s1.trans (same_new hp)))).trans keep_upd, bx2⟩
      exact (gs _ (List.getElem_mem hk)).same ((wo_mono (same_new hp)).trans (wo_keep (List.mem_singleton.mpr rfl) keep_upd))
    · obtain ⟨v, x, rfl, lk, kp, bx⟩ := h
      exact ⟨v, rfl, kq v H' kp (bx.mono (by omega)) lk⟩
end
end Kn

set_option Elab.async false
set_option linter.all false
set_option maxRecDepth 100000
set_option maxHeartbeats 4000000
namespace Kn
open PySem PySem.Spec PyProof.Rows L2 L2H Kx RZ
section
variable {P : Program} {w : World} {K : PySem.W.Frag} {mg : Str → Option Value} {base : Heap} {bs : List Addr} {H0 : Hp} {σ : St}
theorem made_at {H : Hp} {a C d : Addr} {fs : List (Str × V)} : Same H (made H a C d fs) → True := fun _ => True.intro
theorem Yd.iw {X : Cx} {j : Nat} {t : TE} (T : Txt X.K mg) (hB : Has bs H0) (h : Yd X.K bs H0 j t σ) : Yd X.K bs H0 (j + 1) (tMkX (exA X.K 27) 1 0 (spI1 X.K (exAttr 27)) (fun vs zs => vs ++ zs) (tCons t tNil) tNil) σ := fun H sH Q q =>
  h H sH _ fun v H1 s1 g => by
    dsimp only [tNil]
    refine mk1 (X := X) (v := v) (vs := [v]) (zs := []) (T.exF (by decide)).oex (init_facts T (i := 27) (by decide)).2.2 rfl rfl rfl (by decide) fun a d ha hd hne => ?_
    have ma := fresh_ne (has_same hB (sH.trans s1)) ha
    have md := fresh_ne (has_same hB (sH.trans s1)) hd
    have s2 := same_made (C := exA X.K 27) (fs := [(exAttr 27, v)]) (Same.refl H1) ha hd
    have e1 : exFs 27 v v = [(exAttr 27, v)] := rfl
    refine q _ _ (s1.trans s2) (.iw (one := v) (other := v) ?_ (g.same (wo_mono s2)))
    refine .inl ⟨by decide, d, .inl ?_, ?_⟩
    · rw [wo_at ma]
      unfold made
      rw [upd_same]
    · rw [wo_at md]
      unfold made
      rw [upd_ne hne, upd_same]
      rfl
theorem Yd.nt {j : Nat} (hB : Has bs H0) : Yd K bs H0 j (fun _ H Q => ∀ a, H a = none → Q (.ref a) (upd H a (exv a (exA K 40) none))) σ := fun H sH Q q a ha => by
  have ma := fresh_ne (has_same hB sH) ha
  exact q _ _ (same_new ha) (.nt (one := .non) (other := .non) (.inr ⟨by decide, by decide, .inl (by rw [wo_at ma, upd_same])⟩))
theorem Yd.aut {j : Nat} (hB : Has bs H0) : Yd K bs H0 j (tMake (AU K) (spAut K) [] E0 (tCons (tC (.int 1)) (tCons (tC (.int 0)) (tCons (tTup (tCons (tTup (tCons (tC (.int 0)) tNil)) tNil)) (tCons (tTup tNil) tNil))))) σ := fun H sH Q q => by
  refine ⟨by show 1 ≤ sizeLine; decide, fun p2 e2 => ⟨by show 1 ≤ sizeLine; decide, fun p3 e3 => ⟨by show 0 ≤ sizeLine; decide, fun p4 e4 => fun x dx hx hdx hne => ?_⟩⟩⟩
  have s2 := same_new (o := .tup [.int 0]) e2
  have s3 := same_new (o := .tup [.ref p2]) e3
  have s4 := same_new (o := .tup []) e4
  have t2 := has_same hB sH
  have n2 := fresh_ne t2 e2
  have n3 := fresh_ne (has_same t2 s2) e3
  have n4 := fresh_ne (has_same t2 (s2.trans s3)) e4
  have s24 := (s2.trans s3).trans s4
  have nx := fresh_ne (has_same t2 s24) hx
  generalize hH4 : upd (upd (upd H p2 (.tup [.int 0])) p3 (.tup [.ref p2])) p4 (.tup []) = H4 at hx hdx s24 ⊢
  have g2 : H4 p2 = some (.tup [.int 0]) := by rw [← hH4]; exact s4 _ _ (s3 _ _ upd_same)
  have g3 : H4 p3 = some (.tup [.ref p2]) := by rw [← hH4]; exact s4 _ _ upd_same
  have g4 : H4 p4 = some (.tup []) := by rw [← hH4]; exact upd_same
  have s5 : Same H4 (upd (upd H4 dx (.own x)) x (.ins (AU K) dx [])) := fun a o e => by
    rw [upd_ne (ne_of_none e hx), upd_ne (ne_of_none e hdx)]
    exact e
  refine ⟨x, dx, p3, p2, p4, rfl, upd_same, .inl (.inl (s5 _ _ g3)), .inl (.inl (s5 _ _ g2)), .inl (.inl (s5 _ _ g4)), fun H' fs k hX l1 l2 l3 l4 => ⟨rfl, ?_⟩⟩
  have s6 : Same H4 H' := fun a o e => k a o (s5 _ _ e) (ne_of_none e hx)
  refine q _ _ (s24.trans s6) (.aut ⟨dx, fs, p3, p2, p4, ?_, l1, l2, l3, l4, ?_, ?_, ?_⟩)
  · rw [wo_at nx]
    exact hX
  · exact .inl (.inl (by rw [wo_at n3]; exact s6 _ _ g3))
  · exact .inl (.inl (by rw [wo_at n2]; exact s6 _ _ g2))
  · exact .inl (.inl (by rw [wo_at n4]; exact s6 _ _ g4))
theorem Yd.neg {j i : Nat} {n : Int} (e : σ[i]? = some (some (.int n))) : Yd K bs H0 j (tUn (rU fun i => .int (-i)) (tVar i)) σ := fun H sH Q q => ⟨_, e, n, rfl, q _ H (Same.refl H) (.leaf (.int _))⟩
theorem Yd.negc {j : Nat} {n : Int} : Yd K bs H0 j (tUn (rU fun i => .int (-i)) (tC (.int n))) σ := fun H sH Q q => ⟨n, rfl, q _ H (Same.refl H) (.leaf (.int _))⟩
def spVal (K : PySem.W.Frag) : Sp := fun vs H Q _ => ∃ (b : Addr) (n : Nat), vs = [.ref b] ∧ BoxAt H b n ∧ n ≤ 10000 ∧ ∀ (v : V) (H' : Hp), Keep b H H' → BoxAt H' b (n + 1000) → Lk K (wo [b] H') 10 v v → Q v H'
theorem ok_val (T : Txt K mg) : CalM none P w K mg base 7 "_law_value" (spVal K) := by
  obtain ⟨fd, F⟩ := T.fn_ 19 "_law_value" s_law_value
  have G_law_take := ok_take (P := P) (w := w) (base := base) T
  have G_law_string := ok_str (P := P) (w := w) (base := base) T
  have G_law_nested := ok_nest (P := P) (w := w) (base := base) T
  obtain ⟨fA, FA⟩ := T.says.def_ 26 (d := d_Automaton_init) rfl
  have FAu := ok_aut (P := P) (w := w) (base := base) T FA
  have mkAu : Mk K (AU K) (He.ma K (AU K) "__init__") := by
    have c1 := (chk_parts T.says.chk).2.2.2.2.2.2.2.2.2.2.1
    unfold auCls at c1
    simp only [Bool.and_eq_true] at c1
    exact He.mkr_ok c1.2.1
  have bAu := FA.bindsN (ps := ["self", "letters", "start", "steps", "accepting"]) fun _ _ _ _ _ _ us hl => match us, hl with | [_, _, _, _, _], _ => rfl
  refine calM F (T.g "_law_value") (F.bindsN (ps := ["box"]) fun _ _ _ _ _ _ us hl => match us, hl with | [_], _ => rfl) sc_law_value (fun vs H Q E h => ?_) (fun cdv A outer s H vs Q E hr mo h => ?_)
  · obtain ⟨b, n, rfl, _⟩ := h
    rfl
  · obtain ⟨b, n, rfl, hb, hn, kq⟩ := h
    refine ⟨_, (pss_cons (ps_par (i := 1) (j := 2) (by rfl) sc_law_value.nd rfl rfl  (by decide) rfl rfl (pa_cons (pe_callC G_law_take ⟨mo.pn, mo.c, mo.h⟩ (hr.mono (by omega)) rfl (pa_cons (pv 0) (pa_cons (pe_int) pa_nil))) (pa_cons (pe_op op_add (pe_op op_mulW (pe_callTy call_int1 (by rfl) (T.free "int") (by decide +kernel) (pa_cons (pe_op op_add (pe_op op_pow (pe_int) (pe_int)) (pe_callC G_law_take ⟨mo.pn, mo.c, mo.h⟩ (hr.mono (by omega)) rfl (pa_cons (pv 0) (pa_cons (pe_op op_pow (pe_int) (pe_int)) pa_nil)))) pa_nil)) (pe_int)) (pe_int)) pa_nil)) (by rfl))
      (pss_cons (ps_if (pt_cmpR op_lt (pv 1) (pe_int) (nomark _)) (pss_one (ps_ret (pe_ifExp (pt_cmpR op_lt (pv 1) (pe_int) (nomark _)) (pe_callC G_law_string ⟨mo.pn, mo.c, mo.h⟩ (hr.mono (by omega)) rfl (pa_cons (pv 0) pa_nil)) (pe_callC G_law_nested ⟨mo.pn, mo.c, mo.h⟩ (hr.mono (by omega)) rfl (pa_cons (pv 0) pa_nil))))) pss_nil)
      (pss_cons (ps_set (i := 3) sc_law_value.nd rfl (Or.inl rfl) (pe_lst (pa_cons (pe_non) (pa_cons (pe_bl) (pa_cons (pe_bl) (pa_cons (pe_int) (pa_cons (pe_int) (pa_cons (pe_un un_neg (pe_int)) (pa_cons (pv 2) (pa_cons (pe_un un_neg (pv 2)) (pa_cons (pe_str) (pa_cons (pe_lst pa_nil) (pa_cons (pe_tup pa_nil) (pa_cons (pe_dnewK) (pa_cons (pe_lst (pa_cons (pe_non) (pa_cons (pe_lst pa_nil) pa_nil))) (pa_cons (pe_tup (pa_cons (pe_int) (pa_cons (pe_bl) pa_nil))) (pa_cons (pe_disp (pps_cons (pe_str) (pe_lst (pa_cons (pe_int) pa_nil)) pps_nil) (by rfl) (by rfl) (fun z => by cases z) (by decide)) (pa_cons (pe_make mkAu FAu (hr.mono (by decide)).room rfl (T.g "Automaton") bAu .nil pass0 (pa_cons pe_int (pa_cons pe_int (pa_cons (pe_tup (pa_cons (pe_tup (pa_cons pe_int pa_nil)) pa_nil)) (pa_cons (pe_tup pa_nil) pa_nil))))) pa_nil))))))))))))))))))
      (pss_cons (ps_set (i := 3) sc_law_value.nd rfl (Or.inl rfl) (pe_op op_cat (pv 3) (pe_lst (pa_cons (pe_x1 (ex1_27 T) (hr.mono (by decide)).room rfl (pe_lst (pa_cons (pe_int) pa_nil))) (pa_cons (pe_mk0 PySem.F.excBase_ValueError (ex0 T (i := 2) (by decide)) (T.exg 40 (by decide)) ((T.exF (i := 40) (by decide)).oex.kC) rfl) (pa_cons (pe_lst (pa_cons (pe_lst pa_nil) (pa_cons (pe_lst (pa_cons (pe_str) pa_nil)) pa_nil))) (pa_cons (pe_disp (pps_cons (pe_str) (pe_non) pps_nil) (by rfl) (by rfl) (fun z => by cases z) (by decide)) (pa_cons (pe_lst (pa_cons (pe_str) (pa_cons (pe_str) pa_nil))) pa_nil))))))))
      (pss_one (ps_ret (pe_ix (ixL K rfl) (pv 3) (pe_op op_sub (pv 1) (pe_int)) (fun _ _ => rfl)))))))), ?_⟩
    refine ⟨_, rfl, b, 25, n, rfl, by decide, by decide, hb, by omega, fun d o h0 h25 hb1 => ?_⟩
    refine ⟨_, _, rfl, rfl, ⟨by decide, by decide, by decide⟩, ?_⟩
    refine ⟨_, rfl, _, _, rfl, rfl, ⟨by decide, by decide, by decide⟩, b, _, n + 1, rfl, by decide +kernel, by decide +kernel, hb1, by omega, fun d2 o2 g0 g1 hb2 => ?_⟩
    refine ⟨_, _, rfl, rfl, .inl ⟨_, rfl, _, _, rfl, rfl, ?_, _, _, rfl, rfl, _, _, rfl, ?_⟩⟩
    · have e : (10 : Int) ^ (28 : Int).toNat = 10000000000000000000000000000 := by decide +kernel
      have e2 : (10 : Int) ^ (9 : Int).toNat = 1000000000 := by decide +kernel
      have e3 : (2 : Nat) ^ 100 = 1267650600228229401496703205376 := by decide +kernel
      rw [e2] at g1
      refine wide_mul (a := 100) (b := 3) ?_ (by decide) (by decide) (by decide) (by decide)
      rw [e, e3]
      omega
    have kp : Keep b H (upd (upd H b o) b o2) := keep_upd.trans keep_upd
    generalize (upd (upd H b o) b o2) = H1 at hb2 kp ⊢
    refine ⟨_, rfl, _, _, rfl, rfl, _, rfl, ite2 (fun c => ?_) (fun c => ?_)⟩
    · refine ⟨_, rfl, _, _, rfl, rfl, _, rfl, ite2 (fun c => ?_) (fun c => ?_)⟩
      · exact ⟨_, rfl, b, n + 1 + 1, rfl, hb2, by omega, fun x H' hx k bx => kq _ H' (kp.trans k) (bx.mono (by omega)) (.leaf (.str x hx))⟩
      · exact ⟨_, rfl, b, n + 1 + 1, rfl, hb2, by omega, fun v H' k bx g => kq _ H' (kp.trans k) (bx.mono (by omega)) g⟩
    have h4 : ¬ d < 4 := fun z => c (decide_eq_true z)
    have hB := hb2.has
    dsimp only [tNext, tSeq, tAsg]
    refine Ys.into (K := K) (bs := [b]) (H0 := H1) (j := 3) (.cons (.c .non) (.cons (.c (.bl true)) (.cons (.c (.bl false)) (.cons (.c (.int 0)) (.cons (.c (.int 1)) (.cons .negc (.cons (.v rfl (.leaf (.int _))) (.cons (.neg rfl) (.cons (.c (.str _ (by decide)))
      (.cons (.lst hB .nil (by decide)) (.cons (.tup hB .nil (by decide)) (.cons (.dnew hB) (.cons (.lst hB (.cons (.c .non) (.cons (.lst hB .nil (by decide)) .nil)) (by decide)) (.cons (.tup hB (.cons (.c (.int 1)) (.cons (.c (.bl true)) .nil)) (by decide))
      (.cons (.disp hB fun bs H0 hB => .lst hB (.cons (.c (.int 2)) .nil) (by decide)) (.cons (.aut hB) .nil)))))))))))))))) (Same.refl H1) (by decide) fun vs H2 p s2 l2 g2 hp => ?_
    have s2' := s2.trans (same_new (o := .lst vs) hp)
    have hB2 := has_same hB s2'
    have gv : ∀ v ∈ vs, Lk K (wo [b] (upd H2 p (.lst vs))) 3 v v := fun v hv => (g2 v hv).same (wo_mono (same_new hp))
    have hpv : upd H2 p (.lst vs) p = some (.lst vs) := upd_same
    generalize upd H2 p (.lst vs) = H3 at s2' hB2 gv hpv ⊢
    refine ⟨_, rfl, ?_⟩
    show tLst _ _ _ _
    refine Ys.into (K := K) (bs := [b]) (H0 := H3) (j := 3) (.cons (.iw (X := (cxM none CX0 P w K mg base ["box", "way", "far", "kinds"] "_law_value" (defScope s_law_value) (He.ga K "_law_value") cdv A outer s H E).nox) T hB2 (.lst hB2 (.cons (.c (.int 1)) .nil) (by decide))) (.cons (.nt hB2) (.cons (.lst hB2 (.cons (.lst hB2 .nil (by decide)) (.cons (.lst hB2 (.cons (.c (.str _ (by decide))) .nil) (by decide)) .nil)) (by decide))
      (.cons (.disp hB2 fun bs H0 hB => .c .non) (.cons (.lst hB2 (.cons (.c (.str _ (by decide))) (.cons (.c (.str _ (by decide))) .nil)) (by decide)) .nil))))) (Same.refl H3) (by decide) fun ws H4 p2 s4 l4 g4 hp2 => ?_
    refine ⟨p, p2, vs, ws, rfl, rfl, same_new hp2 _ _ (s4 _ _ hpv), upd_same, by rw [l2, l4]; decide, fun q hq => ?_⟩
    have sq := same_new (o := .lst (vs ++ ws)) hq
    have s6 := (s4.trans (same_new (o := .lst ws) hp2)).trans sq
    obtain ⟨k, rfl⟩ : ∃ k : Nat, d = (k : Int) + 4 := ⟨(d - 4).toNat, by omega⟩
    have hk : k < (vs ++ ws).length := by rw [List.length_append, l2, l4]; omega
    have hv := List.getElem?_eq_getElem hk
    refine ⟨_, rfl, _, rfl, _, _, rfl, rfl, q, vs ++ ws, _, (vs ++ ws)[k], rfl, rfl, .inl (.inl upd_same), ?_, ?_⟩
    · rw [show (k : Int) + 4 - 4 = (k : Int) from by omega]
      exact atI_nat hv
    · refine kq _ _ (kp.trans (Keep.of_same (s2'.trans s6))) ((hb2.same (s2'.trans s6)).mono (by omega)) (Lk.le (n := 3) ?_ (by decide))
      rcases List.mem_append.mp (List.getElem_mem hk) with h | h
      · exact (gv _ h).same (wo_mono s6)
      · exact (g4 _ h).same (wo_mono ((same_new hp2).trans sq))
end
end Kn

set_option Elab.async false
set_option linter.all false
set_option maxRecDepth 100000
set_option maxHeartbeats 4000000
namespace Kn
open PySem PySem.Spec PyProof.Rows L2 L2H Kx RZ
theorem lk_list {K : PySem.W.Frag} {H : Hp} {a b : Addr} {xs : List V} {n : Nat} (h1 : SqL K H a xs) (h2 : SqL K H b xs) (hn : xs.length ≤ 1000) (hi : ∀ x ∈ xs, Lk K H n x x) : Lk K H (n + 1) (.ref a) (.ref b) :=
  .lst h1 h2 rfl hn fun i x y hx hy => by
    obtain rfl := some_inj (hx.symm.trans hy)
    exact hi x (List.mem_of_getElem? hx)
theorem exVals_len {i : Nat} {one other : V} : (exVals i one other).length ≤ 2 := by
  unfold exVals
  split
  · show 1 ≤ 2; decide
  · split
    · exact Nat.le_refl _
    · exact Nat.zero_le _
theorem cut_ex {i : Nat} {one other : V} : cutV [one, other] none (some ((exVals i one other).length : Int)) = exVals i one other := by
  unfold exVals
  split
  · rfl
  · split
    · rfl
    · rfl
theorem ex_mem {i : Nat} {one other x : V} (h : x ∈ exVals i one other) : x = one ∨ x = other := by
  unfold exVals at h
  split at h
  · exact .inl (List.mem_singleton.mp h)
  · split at h
    · rcases List.mem_cons.mp h with h | h
      · exact .inl h
      · exact .inr (List.mem_singleton.mp h)
    · cases h
section
variable {P : Program} {w : World} {K : PySem.W.Frag} {mg : Str → Option Value} {base : Heap}
def spAll (K : PySem.W.Frag) : Sp := fun vs H Q _ => ∃ (one other : V), vs = [one, other] ∧ Lk K H 10 one one ∧ Lk K H 10 other other ∧ ∀ H', Same H H' → Q (.bl true) H'
/-- which come from where -/
def tOne (t : Nat) (a b : V) : V := if t = 0 ∨ t = 3 then a else b
theorem ok_all (T : Txt K mg) : CalM none P w K mg base 17 "_law_all_right" (spAll K) := by
  obtain ⟨fd, F⟩ := T.fn_ 21 "_law_all_right" s_law_all_right
  have G_law_placed := ok_placed (P := P) (w := w) (base := base) T
  have G_law_named := ok_named (P := P) (w := w) (base := base) T
  have G_law_inside := ok_inside (P := P) (w := w) (base := base) none T
  have G_law_is_just := ok_just (P := P) (w := w) (base := base) none T
  have G_law_like := ok_like (P := P) (w := w) (base := base) none T 12
  refine calM F (T.g "_law_all_right") (F.bindsN (ps := ["first", "last"]) fun _ _ _ _ _ _ us hl => match us, hl with | [_, _], _ => rfl) sc_law_all_right (fun vs H Q E h => ?_) (fun cdv A outer s H vs Q E hr mo h => ?_)
  · obtain ⟨one, other, rfl, _⟩ := h
    rfl
  · obtain ⟨fi, la, rfl, lf, ll, kq⟩ := h
    refine ⟨_, (pss_cons (ps_par (i := 2) (j := 3) (by rfl) sc_law_all_right.nd rfl rfl  (by decide) rfl rfl (pa_cons (pe_lst (pa_cons (pe_callC G_law_placed ⟨mo.pn, mo.c, mo.h⟩ (hr.mono (by omega)) rfl (pa_cons (pv 0) (pa_cons (pv 1) pa_nil))) (pa_cons (pe_callC G_law_named ⟨mo.pn, mo.c, mo.h⟩ (hr.mono (by omega)) rfl (pa_cons (pv 1) (pa_cons (pv 0) pa_nil))) (pa_cons (pe_callC G_law_placed ⟨mo.pn, mo.c, mo.h⟩ (hr.mono (by omega)) rfl (pa_cons (pv 1) (pa_cons (pv 0) pa_nil))) (pa_cons (pe_callC G_law_named ⟨mo.pn, mo.c, mo.h⟩ (hr.mono (by omega)) rfl (pa_cons (pv 0) (pa_cons (pv 1) pa_nil))) pa_nil))))) (pa_cons (pe_lst (pa_cons (pv 0) (pa_cons (pv 1) (pa_cons (pv 1) (pa_cons (pv 0) pa_nil))))) pa_nil)) (by rfl))
      (pss_cons (ps_for PassesOwn.never rfl (pi_range1 rfl (T.free "range") (pa_cons (pe_callB (cLenSeq K rfl) (by rfl) (T.free "len") (by decide +kernel) (pa_cons (pe_ix (ixL K rfl) (pv 2) (pe_int) (fun _ _ => rfl)) pa_nil)) pa_nil)) (pg_name (i := 4) sc_law_all_right.nd rfl (Or.inl rfl))
        (pss_one (ps_for PassesOwn.never rfl (pi_range1 rfl (T.free "range") (pa_cons (pe_int) pa_nil)) (pg_name (i := 6) sc_law_all_right.nd rfl (Or.inl rfl))
          (pss_cons (ps_par (i := 7) (j := 8) (by rfl) sc_law_all_right.nd rfl rfl  (by decide) rfl rfl (pa_cons (pe_ix (ixL K rfl) (pe_ix (ixL K rfl) (pv 2) (pv 6) (fun _ _ => rfl)) (pv 4) (fun _ _ => rfl)) (pa_cons (pe_lst (pa_cons (pe_ix (ixL K rfl) (pv 3) (pv 6) (fun _ _ => rfl)) (pa_cons (pe_ix (ixL K rfl) (pv 3) (pe_ifExp (pt_cmpR op_lt (pv 6) (pe_int) (nomark _)) (pe_op op_sub (pe_int) (pv 6)) (pe_op op_sub (pe_int) (pv 6))) (fun _ _ => rfl)) pa_nil))) pa_nil)) (by rfl))
          (pss_cons (ps_set (i := 9) sc_law_all_right.nd rfl (Or.inl rfl) (pe_callC G_law_inside ⟨mo.pn, mo.c, mo.h⟩ (hr.mono (by omega)) rfl (pa_cons (pv 7) (pa_cons (pv 4) pa_nil))))
          (pss_one (ps_if (PW.pt (pw_or (pt_not (pt_val (pe_callC G_law_is_just ⟨mo.pn, mo.c, mo.h⟩ (hr.mono (by omega)) rfl (pa_cons (pv 7) (pa_cons (pv 4) pa_nil))))) (pw_or1 (pt_not (pt_val (pe_callC G_law_like ⟨mo.pn, mo.c, mo.h⟩ (hr.mono (by omega)) rfl (pa_cons (pv 9) (pa_cons (pe_slice (slL K rfl) (pv 8) po_none (po_some (pe_callB (cLenSeq K rfl) (by rfl) (T.free "len") (by decide +kernel) (pa_cons (pv 9) pa_nil)))) pa_nil)))))))) (pss_one (ps_ret (pe_bl))) pss_nil)))))))
      (pss_cons (ps_set (i := 5) sc_law_all_right.nd rfl (Or.inl rfl) (pe_x2m (ex2_37 T) (hr.mono (by decide)).room rfl (pv 0) (pv 1)))
      (pss_one (ps_ret (pe_and (pe_callC G_law_is_just ⟨mo.pn, mo.c, mo.h⟩ (hr.mono (by omega)) rfl (pa_cons (pv 5) (pa_cons (pe_int) pa_nil))) (pe_one (pe_callC G_law_like ⟨mo.pn, mo.c, mo.h⟩ (hr.mono (by omega)) rfl (pa_cons (pe_callC G_law_inside ⟨mo.pn, mo.c, mo.h⟩ (hr.mono (by omega)) rfl (pa_cons (pv 5) (pa_cons (pe_int) pa_nil))) (pa_cons (pe_lst (pa_cons (pv 0) (pa_cons (pv 1) pa_nil))) pa_nil)))))))))), ?_⟩
    refine ⟨_, rfl, _, rfl, fi, la, rfl, fun p1 as1 H1 s1 n1 e1 x1 => ?_⟩
    refine ⟨_, rfl, _, rfl, la, fi, rfl, fun p2 as2 H2 s2 n2 e2 x2 => ?_⟩
    refine ⟨_, rfl, _, rfl, la, fi, rfl, fun p3 as3 H3 s3 n3 e3 x3 => ?_⟩
    refine ⟨_, rfl, _, rfl, fi, la, rfl, fun p4 as4 H4 s4 n4 e4 x4 => ?_⟩
    refine ⟨by show 4 ≤ sizeLine; decide, fun L hL => ?_⟩
    refine ⟨_, rfl, _, rfl, _, rfl, _, rfl, by show 4 ≤ sizeLine; decide, fun Ds hD => ?_⟩
    have s5 := same_new (o := .lst [.ref p1, .ref p2, .ref p3, .ref p4]) hL
    have s6 := same_new (o := .lst [fi, la, la, fi]) hD
    have s56 := s5.trans s6
    have s46 := s4.trans s56
    have s36 := s3.trans s46
    have s26 := s2.trans s36
    have sH := s1.trans s26
    have hLl := s6 _ _ (upd_same (H := H4) (a := L) (o := .lst [.ref p1, .ref p2, .ref p3, .ref p4]))
    have hDl : upd (upd H4 L (.lst [.ref p1, .ref p2, .ref p3, .ref p4])) Ds (.lst [fi, la, la, fi]) Ds = some (.lst [fi, la, la, fi]) := upd_same
    have y1 := x1.same s26
    have y2 := x2.same s36
    have y3 := x3.same s46
    have y4 := x4.same s56
    have f1 := s26 _ _ e1
    have f2 := s36 _ _ e2
    have f3 := s46 _ _ e3
    have f4 := s56 _ _ e4
    generalize upd (upd H4 L (.lst [.ref p1, .ref p2, .ref p3, .ref p4])) Ds (.lst [fi, la, la, fi]) = H6 at sH hLl hDl y1 y2 y3 y4 f1 f2 f3 f4 ⊢
    refine ⟨_, _, rfl, ?_⟩
    refine ⟨_, rfl, L, _, _, .ref p1, rfl, rfl, .inl (.inl hLl), rfl, p1, as1.map V.ref, rfl, .inl (.inl (.inl f1)), ?_⟩
    have hl : (as1.map V.ref).length = 43 := by rw [List.length_map, x1.1]; rfl
    rw [hl]
    have row : ∀ t : Nat, t < 4 → ∃ (p : Addr) (as : List Addr), atI [V.ref p1, V.ref p2, V.ref p3, V.ref p4] (t : Int) = some (.ref p) ∧ H6 p = some (.lst (as.map V.ref)) ∧ Exs K H6 as (List.range 43) (tOne t fi la) (tOne t la fi) ∧ atI [fi, la, la, fi] (t : Int) = some (tOne t fi la) ∧
        (t < 2 → atI [fi, la, la, fi] (1 - (t : Int)) = some (tOne t la fi)) ∧ (¬ t < 2 → atI [fi, la, la, fi] (5 - (t : Int)) = some (tOne t la fi)) := fun t ht => by
      match t, ht with
      | 0, _ => exact ⟨p1, as1, rfl, f1, y1, rfl, fun _ => rfl, fun z => absurd (by decide) z⟩
      | 1, _ => exact ⟨p2, as2, rfl, f2, y2, rfl, fun _ => rfl, fun z => absurd (by decide) z⟩
      | 2, _ => exact ⟨p3, as3, rfl, f3, y3, rfl, fun z => absurd z (by decide), fun _ => rfl⟩
      | 3, _ => exact ⟨p4, as4, rfl, f4, y4, rfl, fun z => absurd z (by decide), fun _ => rfl⟩
    have lk6 : ∀ (t : Nat) (x : V), x = tOne t fi la ∨ x = tOne t la fi → Lk K H6 10 x x := fun t x hx => by
      have : x = fi ∨ x = la := by
        unfold tOne at hx
        rcases hx with hx | hx
        · split at hx
          · exact .inl hx
          · exact .inr hx
        · split at hx
          · exact .inr hx
          · exact .inl hx
      rcases this with rfl | rfl
      · exact lf.same sH
      · exact ll.same sH
    let Pv : Nat → St → Hp → Prop := fun _ σ H' => Same H6 H' ∧ ∃ a b c d e f, σ = [some fi, some la, some (.ref L), some (.ref Ds), a, b, c, d, e, f]
    refine ⟨((43 : Nat) : Int), rfl, by decide, by decide, for_range (lo := 0) (n := 43) Pv ⟨Same.refl H6, _, _, _, _, _, _, rfl⟩ (fun i σ H' hi h => ?_) (fun σ H' h => ?_)⟩
    · obtain ⟨sa, a, b, c, d, e, f, rfl⟩ := h
      refine ⟨4, rfl, by decide, by decide, for_range (lo := 0) (n := 4) (fun _ σ H' => Same H6 H' ∧ ∃ b c d e f, σ = [some fi, some la, some (.ref L), some (.ref Ds), some (.int (0 + (i : Int))), b, c, d, e, f]) ⟨sa, _, _, _, _, _, rfl⟩ (fun t σ H' ht h => ?_) (fun σ H' h => ?_)⟩
      · obtain ⟨sb, b, c, d, e, f, rfl⟩ := h
        obtain ⟨p, as, r1, r2, r3, r4, r5, r6⟩ := row t ht
        have hi2 : i < (List.range 43).length := by rw [List.length_range]; exact hi
        have ha : i < as.length := by rw [r3.1]; exact hi2
        have hg := List.getElem?_eq_getElem ha
        have ex := r3.2 i i as[i] (by rw [List.getElem?_range hi]) hg
        have z0 : (0 : Int) + (t : Int) = (t : Int) := Int.zero_add _
        have z1 : (0 : Int) + (i : Int) = (i : Int) := Int.zero_add _
        rw [z0, z1]
        refine ⟨_, rfl, _, rfl, L, _, _, .ref p, rfl, rfl, .inl (.inl (sb _ _ hLl)), r1, _, rfl, p, _, _, .ref as[i], rfl, rfl, .inl (.inl (sb _ _ r2)), atI_nat (by rw [List.getElem?_map, hg]; rfl), ?_⟩
        refine ⟨_, rfl, _, rfl, Ds, _, _, _, rfl, rfl, .inl (.inl (sb _ _ hDl)), r4, ?_⟩
        have fin : ∀ (H7 : Hp) (q : Addr), Same H6 H7 → H7 q = some (.lst [tOne t fi la, tOne t la fi]) → ∃ x, x = 0 → True := fun _ _ _ _ => ⟨0, fun _ => True.intro⟩
        have two : ∀ {Q2 : VK} {σ2 : St} , σ2[6]? = some (some (.int (t : Int))) → (Q2 (tOne t la fi) H') → (tIf (tTest (tOp (rI0 fun i j => .bl (decide (i < j))) (tVar 6) (tC (.int 2)))) (tOp (rI0 fun i j => .int (i - j)) (tC (.int 1)) (tVar 6)) (tOp (rI0 fun i j => .int (i - j)) (tC (.int 5)) (tVar 6))) σ2 H' (fun y H3 => rIxL K (.ref Ds) y H3 Q2) := fun {Q2 σ2} e q => by
          refine ⟨_, e, _, _, rfl, rfl, _, rfl, ite2 (fun c => ?_) (fun c => ?_)⟩
          · have c' : t < 2 := by have := of_decide_eq_true c; omega
            exact ⟨_, e, _, _, rfl, rfl, Ds, _, _, _, rfl, rfl, .inl (.inl (sb _ _ hDl)), r5 c', q⟩
          · have c' : ¬ t < 2 := fun z => c (decide_eq_true (by omega))
            exact ⟨_, e, _, _, rfl, rfl, Ds, _, _, _, rfl, rfl, .inl (.inl (sb _ _ hDl)), r6 c', q⟩
        refine ⟨_, rfl, two rfl ?_⟩
        refine ⟨by show 2 ≤ sizeLine; decide, fun q hq => ?_⟩
        have s7 := sb.trans (same_new (o := .lst [tOne t fi la, tOne t la fi]) hq)
        refine ⟨_, _, rfl, ?_⟩
        refine ⟨_, rfl, _, rfl, as[i], i, _, _, rfl, ex.same s7, fun r H8 s8 n8 h8 => ?_⟩
        have s68 := s7.trans s8
        refine ⟨_, rfl, _, rfl, as[i], i, _, _, rfl, ex.same s68, fun H9 s9 => ⟨_, rfl, iteF ?_⟩⟩
        have s69 := s68.trans s9
        refine ⟨_, rfl, _, rfl, _, rfl, r, _, rfl, .inl (.inl (.inl (s9 _ _ h8))), _, rfl, q, _, rfl, .inl (.inl (s9 _ _ (s8 _ _ upd_same))), fun u hu => ?_⟩
        rw [cut_ex]
        have s10 := same_new (o := .lst (exVals i (tOne t fi la) (tOne t la fi))) hu
        refine ⟨_, _, 11, rfl, by decide, lk_list (.inl (.inl (s10 _ _ (s9 _ _ h8)))) (.inl (.inl upd_same)) (Nat.le_trans exVals_len (by decide)) (fun x hx => (lk6 t x (ex_mem hx)).same (s69.trans s10)), fun H11 s11 => ⟨_, rfl, iteF ?_⟩⟩
        exact ⟨(s69.trans s10).trans s11, _, _, _, _, _, rfl⟩
      · obtain ⟨sb, b, c, d, e, f, rfl⟩ := h
        exact ⟨sb, _, _, _, _, _, _, rfl⟩
    · obtain ⟨sa, a, b, c, d, e, f, rfl⟩ := h
      have z37 := (init_facts T (i := 0) (by decide)).1
      have qq := (chk_parts T.says.chk).2.2.2.2.2.2.1
      unfold exLen at qq
      simp only [Bool.and_eq_true, decide_eq_true_eq] at qq
      refine ⟨_, rfl, _, rfl, ?_⟩
      dsimp only [tNil, tCons, tMkX]
      refine mk2 (X := (cxM none CX0 P w K mg base ["first", "last", "lots", "dues", "spot", "part", "turn", "e", "due", "told"] "_law_all_right" (defScope s_law_all_right) (He.ga K "_law_all_right") cdv A outer s H E).nox) (v := fi) (u := la) (vs := [fi]) (zs := [la]) (gV := fun vs zs => vs ++ zs) (T.exF (i := 37) (by decide)).oex qq.1 qq.2 (fun _ => rfl) rfl rfl (by show 1 ≤ 1000; decide) fun a d ha hd hne => ?_
      have ex : ExAt [] K (made H' a (exA K 37) d (exFs 37 fi la)) a 37 fi la := exAt_made (by decide) hne
      have s7 := sa.trans (same_made (C := exA K 37) (fs := exFs 37 fi la) (Same.refl H') ha hd)
      refine ⟨_, rfl, a, 37, fi, la, rfl, ex, fun H8 s8 => ⟨_, rfl, iteT ?_⟩⟩
      refine ⟨_, rfl, a, 37, fi, la, rfl, ex.same s8, fun r H9 s9 n9 h9 => ?_⟩
      refine ⟨_, rfl, _, rfl, by show 2 ≤ sizeLine; decide, fun u hu => ?_⟩
      have s10 := same_new (o := .lst [fi, la]) hu
      have s610 := ((s7.trans s8).trans s9).trans s10
      exact ⟨_, _, 11, rfl, by decide, lk_list (xs := [fi, la]) (.inl (.inl (s10 _ _ h9))) (.inl (.inl upd_same)) (by show 2 ≤ 1000; decide) (fun x hx => (lk6 0 x (by
        rcases List.mem_cons.mp hx with rfl | hx
        · exact .inl rfl
        · exact .inr (List.mem_singleton.mp hx))).same s610), fun H11 s11 => kq H11 ((sH.trans s610).trans s11)⟩
end
end Kn

set_option Elab.async false
set_option linter.all false
set_option maxRecDepth 100000
set_option maxHeartbeats 4000000
namespace Kn
open PySem PySem.Spec PyProof.Rows L2 L2H Kx RZ
theorem cut_ex2 {i : Nat} {one other x y : V} : cutV [x, y] none (some ((exVals i one other).length : Int)) = exVals i x y := by
  unfold exVals
  split
  · rfl
  · split
    · rfl
    · rfl
theorem lk_ex {K : PySem.W.Frag} {H : Hp} {a b : Addr} {i n : Nat} {one other x y : V} (h1 : SqL K H a (exVals i one other)) (h2 : SqL K H b (exVals i x y)) (l1 : Lk K H n one x) (l2 : Lk K H n other y) : Lk K H (n + 1) (.ref a) (.ref b) := by
  unfold exVals at h1 h2
  by_cases c1 : i < 37
  · rw [if_pos c1] at h1 h2
    exact .lst h1 h2 rfl (by show 1 ≤ 1000; decide) fun j u v hu hv => match j, hu, hv with
      | 0, hu, hv => by cases hu; cases hv; exact l1
  · rw [if_neg c1] at h1 h2
    by_cases c2 : i = 37
    · rw [if_pos c2] at h1 h2
      exact .lst h1 h2 rfl (by show 2 ≤ 1000; decide) fun j u v hu hv => match j, hu, hv with
        | 0, hu, hv => by cases hu; cases hv; exact l1
        | 1, hu, hv => by cases hu; cases hv; exact l2
    · rw [if_neg c2] at h1 h2
      exact .lst h1 h2 rfl (by show 0 ≤ 1000; decide) fun j u v hu hv => nomatch hu
/-- all but some lists and dicts stays -/
def Most (H H' : Hp) : Prop := ∀ a o, H a = some o → H' a = some o ∨ (∃ xs, o = .lst xs) ∨ ∃ kvs, o = .dK kvs
theorem ExAt.most {K : PySem.W.Frag} {H H' : Hp} (s : Most H H') {a : Addr} {i : Nat} {one other : V} (x : ExAt [] K H a i one other) : ExAt [] K H' a i one other := by
  have ev : ∀ {C : Addr} {d : Option Addr}, EV [] H a C d → EV [] H' a C d := fun e => by
    rcases e with e | ⟨_, h, _⟩
    · rcases s _ _ e with e | ⟨_, z⟩ | ⟨_, z⟩
      · exact .inl e
      · cases z
      · cases z
    · cases h
  rcases x with ⟨h, d, e, f⟩ | ⟨h, h2, e⟩
  · refine .inl ⟨h, d, ev e, ?_⟩
    rcases s _ _ f with f | ⟨_, z⟩ | ⟨_, z⟩
    · exact f
    · cases z
    · cases z
  · exact .inr ⟨h, h2, ev e⟩
theorem Exs.most {K : PySem.W.Frag} {H H' : Hp} {as : List Addr} {is : List Nat} {one other : V} (s : Most H H') (x : Exs K H as is one other) : Exs K H' as is one other := ⟨x.1, fun j i a h1 h2 => (x.2 j i a h1 h2).most s⟩
section
variable {P : Program} {w : World} {K : PySem.W.Frag} {mg : Str → Option Value} {base : Heap}
def spVery : Sp := fun vs H Q _ => ∃ (d : Int) (x : Str), vs = [.int d, .str x] ∧ x.length ≤ 1000 ∧ ∀ H', Same H H' → Q (.bl true) H'
theorem ok_very (T : Txt K mg) : CalM none P w K mg base 17 "_law_very_right" spVery := by
  obtain ⟨fd, F⟩ := T.fn_ 22 "_law_very_right" s_law_very_right
  have G_law_placed := ok_placed (P := P) (w := w) (base := base) T
  have G_law_named := ok_named (P := P) (w := w) (base := base) T
  have G_law_inside := ok_inside (P := P) (w := w) (base := base) none T
  have G_law_like := ok_like (P := P) (w := w) (base := base) none T 12
  refine calM F (T.g "_law_very_right") (F.bindsN (ps := ["first", "last"]) fun _ _ _ _ _ _ us hl => match us, hl with | [_, _], _ => rfl) sc_law_very_right (fun vs H Q E h => ?_) (fun cdv A outer s H vs Q E hr mo h => ?_)
  · obtain ⟨d, x, rfl, _⟩ := h
    rfl
  · obtain ⟨d, x, rfl, hx, kq⟩ := h
    refine ⟨_, (pss_cons (ps_par (i := 2) (j := 3) (by rfl) sc_law_very_right.nd rfl rfl  (by decide) rfl rfl (pa_cons (pe_lst (pa_cons (pv 0) pa_nil)) (pa_cons (pe_disp (pps_cons (pe_str) (pv 0) pps_nil) (by rfl) (by rfl) (fun z => by cases z) (by decide)) pa_nil)) (by rfl))
      (pss_cons (ps_set (i := 4) sc_law_very_right.nd rfl (Or.inl rfl) (pe_lst (pa_cons (pe_callC G_law_placed ⟨mo.pn, mo.c, mo.h⟩ (hr.mono (by omega)) rfl (pa_cons (pv 2) (pa_cons (pv 3) pa_nil))) (pa_cons (pe_callC G_law_named ⟨mo.pn, mo.c, mo.h⟩ (hr.mono (by omega)) rfl (pa_cons (pv 3) (pa_cons (pv 2) pa_nil))) (pa_cons (pe_callC G_law_placed ⟨mo.pn, mo.c, mo.h⟩ (hr.mono (by omega)) rfl (pa_cons (pv 3) (pa_cons (pv 2) pa_nil))) (pa_cons (pe_callC G_law_named ⟨mo.pn, mo.c, mo.h⟩ (hr.mono (by omega)) rfl (pa_cons (pv 2) (pa_cons (pv 3) pa_nil))) pa_nil))))))
      (pss_cons (ps_expr (pe_bm PySem.F.plainAttrs_list PySem.F.slot_list_insert PySem.F.type_list_insert mt_insert (pv 2) (pa_cons (pe_int) (pa_cons (pv 1) pa_nil))))
      (pss_cons (ps_dput (RoomM.hu1 hr) (pv 3) (pe_str) (pv 1) rfl)
      (pss_cons (ps_set (i := 5) sc_law_very_right.nd rfl (Or.inl rfl) (pe_lst (pa_cons (pe_lst (pa_cons (pe_lst (pa_cons (pv 1) (pa_cons (pv 0) pa_nil))) (pa_cons (pe_disp (pps_cons (pe_str) (pv 0) (pps_cons (pe_str) (pv 1) pps_nil)) (by rfl) (by rfl) (fun z => by cases z) (by decide)) pa_nil))) (pa_cons (pe_lst (pa_cons (pe_disp (pps_cons (pe_str) (pv 0) (pps_cons (pe_str) (pv 1) pps_nil)) (by rfl) (by rfl) (fun z => by cases z) (by decide)) (pa_cons (pe_lst (pa_cons (pv 1) (pa_cons (pv 0) pa_nil))) pa_nil))) pa_nil))))
      (pss_cons (ps_for PassesOwn.never rfl (pi_range1 rfl (T.free "range") (pa_cons (pe_callB (cLenSeq K rfl) (by rfl) (T.free "len") (by decide +kernel) (pa_cons (pe_ix (ixL K rfl) (pv 4) (pe_int) (fun _ _ => rfl)) pa_nil)) pa_nil)) (pg_name (i := 6) sc_law_very_right.nd rfl (Or.inl rfl))
        (pss_one (ps_for PassesOwn.never rfl (pi_range1 rfl (T.free "range") (pa_cons (pe_int) pa_nil)) (pg_name (i := 7) sc_law_very_right.nd rfl (Or.inl rfl))
          (pss_cons (ps_set (i := 8) sc_law_very_right.nd rfl (Or.inl rfl) (pe_callC G_law_inside ⟨mo.pn, mo.c, mo.h⟩ (hr.mono (by omega)) rfl (pa_cons (pe_ix (ixL K rfl) (pe_ix (ixL K rfl) (pv 4) (pv 7) (fun _ _ => rfl)) (pv 6) (fun _ _ => rfl)) (pa_cons (pv 6) pa_nil))))
          (pss_one (ps_if (pt_not (pt_val (pe_callC G_law_like ⟨mo.pn, mo.c, mo.h⟩ (hr.mono (by omega)) rfl (pa_cons (pv 8) (pa_cons (pe_slice (slL K rfl) (pe_ix (ixL K rfl) (pv 5) (pe_ix (ixL K rfl) (pe_lst (pa_cons (pe_int) (pa_cons (pe_int) (pa_cons (pe_int) (pa_cons (pe_int) pa_nil))))) (pv 7) (fun _ _ => rfl)) (fun _ _ => rfl)) po_none (po_some (pe_callB (cLenSeq K rfl) (by rfl) (T.free "len") (by decide +kernel) (pa_cons (pv 8) pa_nil)))) pa_nil))))) (pss_one (ps_ret (pe_bl))) pss_nil))))))
      (pss_one (ps_ret (pe_bl))))))))), ?_⟩
    refine ⟨_, rfl, by show 1 ≤ sizeLine; decide, fun g hg => ?_⟩
    intro tb htb
    refine ⟨_, rfl, upd_same, [(.inr "a", .int d)], rfl, by show 1 ≤ 15; decide, ?_⟩
    refine ⟨_, _, rfl, ?_⟩
    have sa : Same H (upd H g (.lst [.int d])) := same_new hg
    have sb0 := disp_same (u := .dK (mergeK [] [(.inr "a", .int d)])) htb (Same.refl (upd (upd H g (.lst [.int d])) tb (.dK [])))
    have htg : tb ≠ g := fun z => by
      rw [z, upd_same] at htb
      cases htb
    have eg : upd (upd (upd H g (.lst [.int d])) tb (.dK [])) tb (.dK (mergeK [] [(.inr "a", .int d)])) g = some (.lst [.int d]) := sb0 _ _ upd_same
    have et : upd (upd (upd H g (.lst [.int d])) tb (.dK [])) tb (.dK (mergeK [] [(.inr "a", .int d)])) tb = some (.dK [(.inr "a", .int d)]) := upd_same
    have s0 := sa.trans sb0
    generalize upd (upd (upd H g (.lst [.int d])) tb (.dK [])) tb (.dK (mergeK [] [(.inr "a", .int d)])) = H0 at eg et s0 ⊢
    refine ⟨_, rfl, _, rfl, .ref g, .ref tb, rfl, fun p1 as1 H1 s1 n1 e1 x1 => ?_⟩
    refine ⟨_, rfl, _, rfl, .ref tb, .ref g, rfl, fun p2 as2 H2 s2 n2 e2 x2 => ?_⟩
    refine ⟨_, rfl, _, rfl, .ref tb, .ref g, rfl, fun p3 as3 H3 s3 n3 e3 x3 => ?_⟩
    refine ⟨_, rfl, _, rfl, .ref g, .ref tb, rfl, fun p4 as4 H4 s4 n4 e4 x4 => ?_⟩
    refine ⟨by show 4 ≤ sizeLine; decide, fun L hL => ?_⟩
    have s5 := same_new (o := .lst [.ref p1, .ref p2, .ref p3, .ref p4]) hL
    have s45 := s4.trans s5
    have s35 := s3.trans s45
    have s25 := s2.trans s35
    have s05 := s1.trans s25
    have ne : ∀ {q : Addr} {Hx : Hp}, Same H0 Hx → Hx q = none → q ≠ g ∧ q ≠ tb := fun s n => ⟨fun z => (by rw [z, s _ _ eg] at n; cases n), fun z => (by rw [z, s _ _ et] at n; cases n)⟩
    have m1 := ne (Same.refl H0) n1
    have m2 := ne s1 n2
    have m3 := ne (s1.trans s2) n3
    have m4 := ne ((s1.trans s2).trans s3) n4
    have mL := ne (((s1.trans s2).trans s3).trans s4) hL
    have hLl : upd H4 L (.lst [.ref p1, .ref p2, .ref p3, .ref p4]) L = some (.lst [.ref p1, .ref p2, .ref p3, .ref p4]) := upd_same
    have y1 := x1.same s25
    have y2 := x2.same s35
    have y3 := x3.same s45
    have y4 := x4.same s5
    have f1 := s25 _ _ e1
    have f2 := s35 _ _ e2
    have f3 := s45 _ _ e3
    have f4 := s5 _ _ e4
    have eg5 := s05 _ _ eg
    have et5 := s05 _ _ et
    have sH := s0.trans s05
    generalize upd H4 L (.lst [.ref p1, .ref p2, .ref p3, .ref p4]) = H5 at sH hLl y1 y2 y3 y4 f1 f2 f3 f4 eg5 et5 ⊢
    refine ⟨_, rfl, .inl ⟨rfl, _, .inl (Rd.of eg5)⟩, _, rfl, g, [.int d], 0, .str x, rfl, rfl, eg5, by show 1 < sizeLine; decide, by decide, by decide, ?_⟩
    have h6t : upd H5 g (.lst [.str x, .int d]) tb = some (.dK [(.inr "a", .int d)]) := by rw [upd_ne htg]; exact et5
    refine ⟨_, rfl, _, rfl, tb, upd (upd H5 g (.lst [.str x, .int d])) tb (.dK (putK [(.inr "a", .int d)] (.inr "more") (.str x))), rfl, .inl ⟨_, .inr "more", h6t, rfl, by show 1 < sizeLine; decide, rfl⟩, ?_⟩
    have kp : ∀ a, a ≠ g → a ≠ tb → upd (upd H5 g (.lst [.str x, .int d])) tb (.dK (putK [(.inr "a", .int d)] (.inr "more") (.str x))) a = H5 a := fun a z1 z2 => by rw [upd_ne z2, upd_ne z1]
    have eg7 : upd (upd H5 g (.lst [.str x, .int d])) tb (.dK (putK [(.inr "a", .int d)] (.inr "more") (.str x))) g = some (.lst [.str x, .int d]) := by rw [upd_ne (Ne.symm htg), upd_same]
    have et7 : upd (upd H5 g (.lst [.str x, .int d])) tb (.dK (putK [(.inr "a", .int d)] (.inr "more") (.str x))) tb = some (.dK [(.inr "a", .int d), (.inr "more", .str x)]) := by
      rw [upd_same]
      have z : putK [((.inr "a" : Key), V.int d)] (.inr "more") (.str x) = [(.inr "a", .int d), (.inr "more", .str x)] := rfl
      rw [z]
    generalize upd (upd H5 g (.lst [.str x, .int d])) tb (.dK (putK [(.inr "a", .int d)] (.inr "more") (.str x))) = H7 at kp eg7 et7 ⊢
    have ms : Most H5 H7 := fun a o e => by
      by_cases z1 : a = g
      · rw [z1, eg5] at e
        cases e
        exact .inr (.inl ⟨_, rfl⟩)
      · by_cases z2 : a = tb
        · rw [z2, et5] at e
          cases e
          exact .inr (.inr ⟨_, rfl⟩)
        · exact .inl (by rw [kp a z1 z2]; exact e)
    have w1 := y1.most ms
    have w2 := y2.most ms
    have w3 := y3.most ms
    have w4 := y4.most ms
    have v1 : H7 p1 = some (.lst (as1.map V.ref)) := by rw [kp _ m1.1 m1.2]; exact f1
    have v2 : H7 p2 = some (.lst (as2.map V.ref)) := by rw [kp _ m2.1 m2.2]; exact f2
    have v3 : H7 p3 = some (.lst (as3.map V.ref)) := by rw [kp _ m3.1 m3.2]; exact f3
    have v4 : H7 p4 = some (.lst (as4.map V.ref)) := by rw [kp _ m4.1 m4.2]; exact f4
    have vL : H7 L = some (.lst [.ref p1, .ref p2, .ref p3, .ref p4]) := by rw [kp _ mL.1 mL.2]; exact hLl
    have sH7 : Same H H7 := fun a o e => by
      have zg : a ≠ g := fun z => by
        rw [z, hg] at e
        cases e
      have zt : a ≠ tb := fun z => by
        have e1 := sa _ _ e
        rw [z, htb] at e1
        cases e1
      rw [kp a zg zt]
      exact sH _ _ e
    refine ⟨_, rfl, _, rfl, by show 2 ≤ sizeLine; decide, fun d1 hd1 => ?_⟩
    have t1 := same_new (o := .lst [.str x, .int d]) hd1
    have o1 : upd H7 d1 (.lst [.str x, .int d]) d1 = some (.lst [.str x, .int d]) := upd_same
    generalize upd H7 d1 (.lst [.str x, .int d]) = G1 at t1 o1 ⊢
    intro d2 hd2
    refine ⟨_, rfl, _, rfl, upd_same, [(.inr "a", .int d), (.inr "more", .str x)], rfl, by show 2 ≤ 15; decide, ?_⟩
    have t2 := disp_same (u := .dK (mergeK [] [(.inr "a", .int d), (.inr "more", .str x)])) hd2 (Same.refl (upd G1 d2 (.dK [])))
    have o2 : upd (upd G1 d2 (.dK [])) d2 (.dK (mergeK [] [(.inr "a", .int d), (.inr "more", .str x)])) d2 = some (.dK [(.inr "a", .int d), (.inr "more", .str x)]) := by
      rw [upd_same]
      have z : mergeK [] [((.inr "a" : Key), V.int d), (.inr "more", .str x)] = [(.inr "a", .int d), (.inr "more", .str x)] := rfl
      rw [z]
    generalize upd (upd G1 d2 (.dK [])) d2 (.dK (mergeK [] [(.inr "a", .int d), (.inr "more", .str x)])) = G2 at t2 o2 ⊢
    refine ⟨by show 2 ≤ sizeLine; decide, fun d3 hd3 => ?_⟩
    have t3 := same_new (o := .lst [.ref d1, .ref d2]) hd3
    have o3 : upd G2 d3 (.lst [.ref d1, .ref d2]) d3 = some (.lst [.ref d1, .ref d2]) := upd_same
    generalize upd G2 d3 (.lst [.ref d1, .ref d2]) = G3 at t3 o3 ⊢
    intro d4 hd4
    refine ⟨_, rfl, _, rfl, upd_same, [(.inr "a", .int d), (.inr "more", .str x)], rfl, by show 2 ≤ 15; decide, ?_⟩
    have t4 := disp_same (u := .dK (mergeK [] [(.inr "a", .int d), (.inr "more", .str x)])) hd4 (Same.refl (upd G3 d4 (.dK [])))
    have o4 : upd (upd G3 d4 (.dK [])) d4 (.dK (mergeK [] [(.inr "a", .int d), (.inr "more", .str x)])) d4 = some (.dK [(.inr "a", .int d), (.inr "more", .str x)]) := by
      rw [upd_same]
      have z : mergeK [] [((.inr "a" : Key), V.int d), (.inr "more", .str x)] = [(.inr "a", .int d), (.inr "more", .str x)] := rfl
      rw [z]
    generalize upd (upd G3 d4 (.dK [])) d4 (.dK (mergeK [] [(.inr "a", .int d), (.inr "more", .str x)])) = G4 at t4 o4 ⊢
    refine ⟨_, rfl, _, rfl, by show 2 ≤ sizeLine; decide, fun d5 hd5 => ?_⟩
    have t5 := same_new (o := .lst [.str x, .int d]) hd5
    have o5 : upd G4 d5 (.lst [.str x, .int d]) d5 = some (.lst [.str x, .int d]) := upd_same
    generalize upd G4 d5 (.lst [.str x, .int d]) = G5 at t5 o5 ⊢
    refine ⟨by show 2 ≤ sizeLine; decide, fun d6 hd6 => ?_⟩
    have t6 := same_new (o := .lst [.ref d4, .ref d5]) hd6
    have o6 : upd G5 d6 (.lst [.ref d4, .ref d5]) d6 = some (.lst [.ref d4, .ref d5]) := upd_same
    generalize upd G5 d6 (.lst [.ref d4, .ref d5]) = G6 at t6 o6 ⊢
    refine ⟨by show 2 ≤ sizeLine; decide, fun d7 hd7 => ?_⟩
    have t7 := same_new (o := .lst [.ref d3, .ref d6]) hd7
    have o7 : upd G6 d7 (.lst [.ref d3, .ref d6]) d7 = some (.lst [.ref d3, .ref d6]) := upd_same
    generalize upd G6 d7 (.lst [.ref d3, .ref d6]) = G7 at t7 o7 ⊢
    have t67 := t6.trans t7
    have t57 := t5.trans t67
    have t47 := t4.trans t57
    have t37 := t3.trans t47
    have t27 := t2.trans t37
    have t17 := t1.trans t27
    have c1 := t27 _ _ o1
    have c2 := t37 _ _ o2
    have c3 := t47 _ _ o3
    have c4 := t57 _ _ o4
    have c5 := t67 _ _ o5
    have c6 := t7 _ _ o6
    have cg := t17 _ _ eg7
    have ct := t17 _ _ et7
    have cL := t17 _ _ vL
    have sG := sH7.trans t17
    have lkl : ∀ {u : Addr}, G7 u = some (.lst [.str x, .int d]) → Lk K G7 1 (.ref g) (.ref u) := fun e => .lst (.inl (.inl cg)) (.inl (.inl e)) rfl (by show 2 ≤ 1000; decide) fun j u v hu hv => match j, hu, hv with
      | 0, hu, hv => by cases hu; cases hv; exact .leaf (.str x hx)
      | 1, hu, hv => by cases hu; cases hv; exact .leaf (.int d)
    have lkd : ∀ {u : Addr}, G7 u = some (.dK [(.inr "a", .int d), (.inr "more", .str x)]) → Lk K G7 1 (.ref tb) (.ref u) := fun e => by
      have va : valV [((.inr "a" : Key), V.int d), (.inr "more", .str x)] (.inr "a") = some (.int d) := valV_pos rfl
      have vm : valV [((.inr "a" : Key), V.int d), (.inr "more", .str x)] (.inr "more") = some (.str x) := by
        rw [valV_neg (fun z => absurd (Sum.inr.inj z) (by decide : ¬ ("a" : Str) = "more"))]
        exact valV_pos rfl
      refine .dic (.inl ct) (.inl e) rfl (by show 2 ≤ 1000; decide) (fun j k y hy => ?_) fun j k u y hy hu => ?_
      · match j, hy with
        | 0, hy => cases hy; exact ⟨va, _, va⟩
        | 1, hy => cases hy; exact ⟨vm, _, vm⟩
      · match j, hy with
        | 0, hy =>
          cases hy
          rw [va] at hu
          cases hu
          exact .leaf (.int d)
        | 1, hy =>
          cases hy
          rw [vm] at hu
          cases hu
          exact .leaf (.str x hx)
    refine ⟨_, rfl, L, _, _, .ref p1, rfl, rfl, .inl (.inl cL), rfl, p1, as1.map V.ref, rfl, .inl (.inl (.inl (t17 _ _ v1))), ?_⟩
    have hl : (as1.map V.ref).length = 43 := by rw [List.length_map, x1.1]; rfl
    rw [hl]
    have row : ∀ t : Nat, t < 4 → ∃ (p : Addr) (as : List Addr) (k : Nat) (q : Addr) (a1 a2 b1 b2 : Addr), atI [V.ref p1, V.ref p2, V.ref p3, V.ref p4] (t : Int) = some (.ref p) ∧ G7 p = some (.lst (as.map V.ref)) ∧ Exs K G7 as (List.range 43) (.ref a1) (.ref a2) ∧
        atI [V.int 0, V.int 1, V.int 1, V.int 0] (t : Int) = some (.int (k : Nat)) ∧ atI [V.ref d3, V.ref d6] (k : Int) = some (.ref q) ∧ G7 q = some (.lst [.ref b1, .ref b2]) ∧ Lk K G7 1 (.ref a1) (.ref b1) ∧ Lk K G7 1 (.ref a2) (.ref b2) := fun t ht => by
      match t, ht with
      | 0, _ => exact ⟨p1, as1, 0, d3, g, tb, d1, d2, rfl, t17 _ _ v1, w1.same t17, rfl, rfl, c3, lkl c1, lkd c2⟩
      | 1, _ => exact ⟨p2, as2, 1, d6, tb, g, d4, d5, rfl, t17 _ _ v2, w2.same t17, rfl, rfl, c6, lkd c4, lkl c5⟩
      | 2, _ => exact ⟨p3, as3, 1, d6, tb, g, d4, d5, rfl, t17 _ _ v3, w3.same t17, rfl, rfl, c6, lkd c4, lkl c5⟩
      | 3, _ => exact ⟨p4, as4, 0, d3, g, tb, d1, d2, rfl, t17 _ _ v4, w4.same t17, rfl, rfl, c3, lkl c1, lkd c2⟩
    refine ⟨((43 : Nat) : Int), rfl, by decide, by decide, for_range (lo := 0) (n := 43) (fun _ σ H' => Same G7 H' ∧ ∃ a b c, σ = [some (.int d), some (.str x), some (.ref g), some (.ref tb), some (.ref L), some (.ref d7), a, b, c]) ⟨Same.refl G7, _, _, _, rfl⟩ (fun i σ H' hi h => ?_) (fun σ H' h => ?_)⟩
    · obtain ⟨sa, a, b, c, rfl⟩ := h
      refine ⟨4, rfl, by decide, by decide, for_range (lo := 0) (n := 4) (fun _ σ H' => Same G7 H' ∧ ∃ b c, σ = [some (.int d), some (.str x), some (.ref g), some (.ref tb), some (.ref L), some (.ref d7), some (.int (0 + (i : Int))), b, c]) ⟨sa, _, _, rfl⟩ (fun t σ H' ht h => ?_) (fun σ H' h => ?_)⟩
      · obtain ⟨sb, b, c, rfl⟩ := h
        obtain ⟨p, as, k, q, a1, a2, b1, b2, r1, r2, r3, r4, r5, r6, r7, r8⟩ := row t ht
        have ha : i < as.length := by rw [r3.1, List.length_range]; exact hi
        have hg := List.getElem?_eq_getElem ha
        have ex := r3.2 i i as[i] (by rw [List.getElem?_range hi]) hg
        have z0 : (0 : Int) + (t : Int) = (t : Int) := Int.zero_add _
        have z1 : (0 : Int) + (i : Int) = (i : Int) := Int.zero_add _
        rw [z0, z1]
        refine ⟨_, rfl, _, rfl, L, _, _, .ref p, rfl, rfl, .inl (.inl (sb _ _ cL)), r1, _, rfl, p, _, _, .ref as[i], rfl, rfl, .inl (.inl (sb _ _ r2)), atI_nat (by rw [List.getElem?_map, hg]; rfl), ?_⟩
        refine ⟨_, rfl, as[i], i, _, _, rfl, ex.same sb, fun r H8 s8 n8 h8 => ?_⟩
        have s68 := sb.trans s8
        refine ⟨_, rfl, _, rfl, by show 4 ≤ sizeLine; decide, fun u hu => ?_⟩
        have s9 := same_new (o := .lst [.int 0, .int 1, .int 1, .int 0]) hu
        refine ⟨_, rfl, u, _, _, _, rfl, rfl, .inl (.inl upd_same), r4, d7, _, _, _, rfl, rfl, .inl (.inl (s9 _ _ (s68 _ _ o7))), r5, ?_⟩
        refine ⟨_, rfl, r, _, rfl, .inl (.inl (.inl (s9 _ _ h8))), _, rfl, q, _, rfl, .inl (.inl (s9 _ _ (s68 _ _ r6))), fun v hv => ?_⟩
        rw [cut_ex2]
        have s10 := same_new (o := .lst (exVals i (.ref b1) (.ref b2))) hv
        have s610 := (s68.trans s9).trans s10
        refine ⟨_, _, 2, rfl, by decide, lk_ex (.inl (.inl (s10 _ _ (s9 _ _ h8)))) (.inl (.inl upd_same)) (r7.same s610) (r8.same s610), fun H11 s11 => ⟨_, rfl, iteF ?_⟩⟩
        exact ⟨s610.trans s11, _, _, rfl⟩
      · obtain ⟨sb, b, c, rfl⟩ := h
        exact ⟨sb, _, _, _, rfl⟩
    · obtain ⟨sa, a, b, c, rfl⟩ := h
      exact kq H' (sG.trans sa)
end
end Kn

set_option Elab.async false
set_option linter.all false
set_option maxRecDepth 100000
set_option maxHeartbeats 4000000
namespace Kn
open PySem PySem.Spec PyProof.Rows L2 L2H Kx RZ
theorem iteT' {c : Bool} {p q : Prop} (h : c = true) (k : p) : if c = true then p else q := by
  subst h
  exact k
def spot (w : Nat) : Nat := match w with
  | 0 => 27
  | 1 => 25
  | 2 => 26
  | 3 => 29
  | 4 => 30
  | 5 => 33
  | 6 => 31
  | 7 => 34
  | 8 => 35
  | 9 => 37
  | 10 => 36
  | 11 => 39
  | 12 => 38
  | 13 => 41
  | 14 => 42
  | _ => 0
def ExD (H : Hp) (i : Nat) (d : Option Addr) (one other : V) : Prop := (i < 38 ∧ ∃ b, d = some b ∧ H b = some (.xd (exFs i one other))) ∨ (38 ≤ i ∧ i < 43 ∧ d = none)
section
variable {P : Program} {w : World} {K : PySem.W.Frag} {mg : Str → Option Value} {base : Heap}
def spThrow (K : PySem.W.Frag) : Sp := fun vs H _ E => ∃ (way : Nat) (one other : V), vs = [.int way, one, other] ∧ way < 15 ∧ ∀ (d : Option Addr) (H' : Hp), Same H H' → ExD H' (spot way) d one other → E (.ref (exA K (spot way))) d H'
theorem del_made {H : Hp} {a C d : Addr} {fs : List (Str × V)} (ha : H a = none) (hd : H d = none) : Same H (delH (made H a C d fs) a) := fun b o e => by
  unfold delH
  have ne := ne_of_none e ha
  rw [if_neg ne]
  exact same_made (Same.refl H) ha hd b o e
theorem del_new {H : Hp} {a : Addr} {o : HO} (ha : H a = none) : Same H (delH (upd H a o) a) := fun b u e => by
  unfold delH
  have ne := ne_of_none e ha
  rw [if_neg ne, upd_ne ne]
  exact e
theorem del_d {H : Hp} {a C d : Addr} {fs : List (Str × V)} (hne : d ≠ a) : delH (made H a C d fs) a d = some (.xd fs) := by
  unfold delH
  rw [if_neg hne]
  unfold made
  rw [upd_ne hne, upd_same]
theorem made_a {H : Hp} {a C d : Addr} {fs : List (Str × V)} : made H a C d fs a = some (exv a C (some d)) := by
  unfold made
  rw [upd_same]
theorem raise_ex {X : Cx} {mg : Str → Option Value} (T : Txt X.K mg) {i : Nat} (hi : i < 43) : Raises X (.ref (exA X.K i)) := by
  refine raises_own ?_ (T.exF hi).oex.tyC
  rw [mro_ex T hi]
  rw [cont_cons, cont_cons]
  exact congrArg some (by simp)
theorem ok_throw (T : Txt K mg) : ∃ fd, FnOk P w K mg base (L2N.CX P w) 3 (He.ga K "_law_throw") fd ["way", "one", "other"] (spThrow K) ∧ Binds K fd ["way", "one", "other"] [] ∧ PySem.W.keepIn K (.ref (He.ga K "_law_throw")) = true := by
  obtain ⟨fd, F⟩ := T.fn_ 23 "_law_throw" s_law_throw
  refine ⟨fd, ?_, F.bindsN (ps := ["way", "one", "other"]) fun _ _ _ _ _ _ us hl => match us, hl with | [_, _, _], _ => rfl, F.kp⟩
  refine F.ok (CX := L2N.CX P w) sc_law_throw (fun vs H Q E h => ?_) (fun cdv A outer s H vs Q E hr0 h => ?_)
  · obtain ⟨way, one, other, rfl, _⟩ := h
    rfl
  · obtain ⟨way, one, other, rfl, hw, kE⟩ := h
    have hr := roomM_of hr0
    refine ⟨_, (pss_cons (ps_if (pt_cmpR op_eq (pv 0) (pe_int) (nomark _)) (pss_one (L2N.ps_raise rfl (L2N.takes_of rfl rfl rfl rfl) (pmk_pe rfl (pe_x1 (ex1_27 T) (hr.mono (by decide)).room rfl (pv 1))))) pss_nil)
      (pss_cons (ps_if (pt_cmpR op_eq (pv 0) (pe_int) (nomark _)) (pss_one (L2N.ps_raise rfl (L2N.takes_of rfl rfl rfl rfl) (pmk_pe rfl (pe_x1k (ex1_25 T) (hr.mono (by decide)).room rfl (pv 1))))) pss_nil)
      (pss_cons (ps_if (pt_cmpR op_eq (pv 0) (pe_int) (nomark _)) (pss_one (L2N.ps_raise rfl (L2N.takes_of rfl rfl rfl rfl) (pmk_pe rfl (pe_x1 (ex1_26 T) (hr.mono (by decide)).room rfl (pv 1))))) pss_nil)
      (pss_cons (ps_if (pt_cmpR op_eq (pv 0) (pe_int) (nomark _)) (pss_one (L2N.ps_raise rfl (L2N.takes_of rfl rfl rfl rfl) (pmk_pe rfl (pe_x1k (ex1_29 T) (hr.mono (by decide)).room rfl (pv 1))))) pss_nil)
      (pss_cons (ps_if (pt_cmpR op_eq (pv 0) (pe_int) (nomark _)) (pss_one (L2N.ps_raise rfl (L2N.takes_of rfl rfl rfl rfl) (pmk_pe rfl (pe_x1 (ex1_30 T) (hr.mono (by decide)).room rfl (pv 1))))) pss_nil)
      (pss_cons (ps_if (pt_cmpR op_eq (pv 0) (pe_int) (nomark _)) (pss_one (L2N.ps_raise rfl (L2N.takes_of rfl rfl rfl rfl) (pmk_pe rfl (pe_x1k (ex1_33 T) (hr.mono (by decide)).room rfl (pv 1))))) pss_nil)
      (pss_cons (ps_if (pt_cmpR op_eq (pv 0) (pe_int) (nomark _)) (pss_one (L2N.ps_raise rfl (L2N.takes_of rfl rfl rfl rfl) (pmk_pe rfl (pe_x1 (ex1_31 T) (hr.mono (by decide)).room rfl (pv 1))))) pss_nil)
      (pss_cons (ps_if (pt_cmpR op_eq (pv 0) (pe_int) (nomark _)) (pss_one (L2N.ps_raise rfl (L2N.takes_of rfl rfl rfl rfl) (pmk_pe rfl (pe_x1k (ex1_34 T) (hr.mono (by decide)).room rfl (pv 1))))) pss_nil)
      (pss_cons (ps_if (pt_cmpR op_eq (pv 0) (pe_int) (nomark _)) (pss_one (L2N.ps_raise rfl (L2N.takes_of rfl rfl rfl rfl) (pmk_pe rfl (pe_x1 (ex1_35 T) (hr.mono (by decide)).room rfl (pv 1))))) pss_nil)
      (pss_cons (ps_if (pt_cmpR op_eq (pv 0) (pe_int) (nomark _)) (pss_one (L2N.ps_raise rfl (L2N.takes_of rfl rfl rfl rfl) (pmk_pe rfl (pe_x2k (ex2_37 T) (hr.mono (by decide)).room rfl (pv 2) (pv 1))))) pss_nil)
      (pss_cons (ps_if (pt_cmpR op_eq (pv 0) (pe_int) (nomark _)) (pss_one (L2N.ps_raise rfl (L2N.takes_of rfl rfl rfl rfl) (pmk_pe rfl (pe_x1k (ex1_36 T) (hr.mono (by decide)).room rfl (pv 1))))) pss_nil)
      (pss_cons (ps_if (pt_cmpR op_eq (pv 0) (pe_int) (nomark _)) (pss_one (L2N.ps_raise rfl (L2N.takes_of rfl rfl rfl rfl) (pmk_pe rfl (pe_mk0 PySem.F.excBase_ValueError (ex0 T (i := 1) (by decide)) (T.exg 39 (by decide)) ((T.exF (i := 39) (by decide)).oex.kC) rfl)))) pss_nil)
      (pss_cons (ps_if (pt_cmpR op_eq (pv 0) (pe_int) (nomark _)) (pss_one (L2N.ps_raise rfl (L2N.takes_of rfl rfl rfl rfl) (pmk_pe rfl (pe_mk0 PySem.F.excBase_ValueError (ex0 T (i := 0) (by decide)) (T.exg 38 (by decide)) ((T.exF (i := 38) (by decide)).oex.kC) rfl)))) pss_nil)
      (pss_cons (ps_if (pt_cmpR op_eq (pv 0) (pe_int) (nomark _)) (pss_one (L2N.ps_raise rfl (L2N.takes_of rfl rfl rfl rfl) (pmk_pe rfl (pe_mk0 PySem.F.excBase_ValueError (ex0 T (i := 3) (by decide)) (T.exg 41 (by decide)) ((T.exF (i := 41) (by decide)).oex.kC) rfl)))) pss_nil)
      (pss_one (L2N.ps_raise rfl (L2N.takes_of rfl rfl rfl rfl) (pmk_pe rfl (pe_mk0 PySem.F.excBase_ValueError (ex0 T (i := 4) (by decide)) (T.exg 42 (by decide)) ((T.exF (i := 42) (by decide)).oex.kC) rfl)))))))))))))))))), ?_⟩
    have rz : ∀ {i : Nat}, i < 43 → Raises (cxOf (L2N.CX P w) P w K mg base ["way", "one", "other"] "_law_throw" (defScope s_law_throw) (He.ga K "_law_throw") cdv A outer s H E) (.ref (exA K i)) := fun h => raise_ex (X := cxOf (L2N.CX P w) P w K mg base ["way", "one", "other"] "_law_throw" (defScope s_law_throw) (He.ga K "_law_throw") cdv A outer s H E) T h
    have qq := (chk_parts T.says.chk).2.2.2.2.2.2.1
    unfold exLen at qq
    simp only [Bool.and_eq_true, decide_eq_true_eq] at qq
    match way, hw with
    | 0, _ =>
      refine ⟨_, rfl, rfl, _, rfl, iteT' (by decide +kernel) ?_⟩
      refine ⟨_, rfl, ?_⟩
      dsimp only [tNil, tCons, tMkX]
      refine mk1 (X := cxOf (L2N.CX P w) P w K mg base ["way", "one", "other"] "_law_throw" (defScope s_law_throw) (He.ga K "_law_throw") cdv A outer s H E) (v := one) (vs := [one]) (zs := []) (T.exF (i := 27) (by decide)).oex (init_facts T (i := 27) (by decide)).2.2 rfl rfl rfl (by show _ ≤ 1000; decide) fun a d ha hd hne => ?_
      exact ⟨a, _, some d, rfl, made_a, fr0_none ha, rz (by decide), kE (some d) _ (del_made ha hd) (.inl ⟨by decide, d, rfl, del_d hne⟩)⟩
    | 1, _ =>
      refine ⟨_, rfl, rfl, _, rfl, iteF' (by decide +kernel) ?_⟩
      refine ⟨_, rfl, rfl, _, rfl, iteT' (by decide +kernel) ?_⟩
      refine ⟨_, rfl, ?_⟩
      dsimp only [tNil, tCons, tMkX]
      refine mk1 (X := cxOf (L2N.CX P w) P w K mg base ["way", "one", "other"] "_law_throw" (defScope s_law_throw) (He.ga K "_law_throw") cdv A outer s H E) (v := one) (vs := []) (zs := [one]) (T.exF (i := 25) (by decide)).oex (init_facts T (i := 25) (by decide)).2.2 rfl rfl rfl (by show _ ≤ 1000; decide) fun a d ha hd hne => ?_
      exact ⟨a, _, some d, rfl, made_a, fr0_none ha, rz (by decide), kE (some d) _ (del_made ha hd) (.inl ⟨by decide, d, rfl, del_d hne⟩)⟩
    | 2, _ =>
      refine ⟨_, rfl, rfl, _, rfl, iteF' (by decide +kernel) ?_⟩
      refine ⟨_, rfl, rfl, _, rfl, iteF' (by decide +kernel) ?_⟩
      refine ⟨_, rfl, rfl, _, rfl, iteT' (by decide +kernel) ?_⟩
      refine ⟨_, rfl, ?_⟩
      dsimp only [tNil, tCons, tMkX]
      refine mk1 (X := cxOf (L2N.CX P w) P w K mg base ["way", "one", "other"] "_law_throw" (defScope s_law_throw) (He.ga K "_law_throw") cdv A outer s H E) (v := one) (vs := [one]) (zs := []) (T.exF (i := 26) (by decide)).oex (init_facts T (i := 26) (by decide)).2.2 rfl rfl rfl (by show _ ≤ 1000; decide) fun a d ha hd hne => ?_
      exact ⟨a, _, some d, rfl, made_a, fr0_none ha, rz (by decide), kE (some d) _ (del_made ha hd) (.inl ⟨by decide, d, rfl, del_d hne⟩)⟩
    | 3, _ =>
      refine ⟨_, rfl, rfl, _, rfl, iteF' (by decide +kernel) ?_⟩
      refine ⟨_, rfl, rfl, _, rfl, iteF' (by decide +kernel) ?_⟩
      refine ⟨_, rfl, rfl, _, rfl, iteF' (by decide +kernel) ?_⟩
      refine ⟨_, rfl, rfl, _, rfl, iteT' (by decide +kernel) ?_⟩
      refine ⟨_, rfl, ?_⟩
      dsimp only [tNil, tCons, tMkX]
      refine mk1 (X := cxOf (L2N.CX P w) P w K mg base ["way", "one", "other"] "_law_throw" (defScope s_law_throw) (He.ga K "_law_throw") cdv A outer s H E) (v := one) (vs := []) (zs := [one]) (T.exF (i := 29) (by decide)).oex (init_facts T (i := 29) (by decide)).2.2 rfl rfl rfl (by show _ ≤ 1000; decide) fun a d ha hd hne => ?_
      exact ⟨a, _, some d, rfl, made_a, fr0_none ha, rz (by decide), kE (some d) _ (del_made ha hd) (.inl ⟨by decide, d, rfl, del_d hne⟩)⟩
    | 4, _ =>
      refine ⟨_, rfl, rfl, _, rfl, iteF' (by decide +kernel) ?_⟩
      refine ⟨_, rfl, rfl, _, rfl, iteF' (by decide +kernel) ?_⟩
      refine ⟨_, rfl, rfl, _, rfl, iteF' (by decide +kernel) ?_⟩
      refine ⟨_, rfl, rfl, _, rfl, iteF' (by decide +kernel) ?_⟩
      refine ⟨_, rfl, rfl, _, rfl, iteT' (by decide +kernel) ?_⟩
      refine ⟨_, rfl, ?_⟩
      dsimp only [tNil, tCons, tMkX]
      refine mk1 (X := cxOf (L2N.CX P w) P w K mg base ["way", "one", "other"] "_law_throw" (defScope s_law_throw) (He.ga K "_law_throw") cdv A outer s H E) (v := one) (vs := [one]) (zs := []) (T.exF (i := 30) (by decide)).oex (init_facts T (i := 30) (by decide)).2.2 rfl rfl rfl (by show _ ≤ 1000; decide) fun a d ha hd hne => ?_
      exact ⟨a, _, some d, rfl, made_a, fr0_none ha, rz (by decide), kE (some d) _ (del_made ha hd) (.inl ⟨by decide, d, rfl, del_d hne⟩)⟩
    | 5, _ =>
      refine ⟨_, rfl, rfl, _, rfl, iteF' (by decide +kernel) ?_⟩
      refine ⟨_, rfl, rfl, _, rfl, iteF' (by decide +kernel) ?_⟩
      refine ⟨_, rfl, rfl, _, rfl, iteF' (by decide +kernel) ?_⟩
      refine ⟨_, rfl, rfl, _, rfl, iteF' (by decide +kernel) ?_⟩
      refine ⟨_, rfl, rfl, _, rfl, iteF' (by decide +kernel) ?_⟩
      refine ⟨_, rfl, rfl, _, rfl, iteT' (by decide +kernel) ?_⟩
      refine ⟨_, rfl, ?_⟩
      dsimp only [tNil, tCons, tMkX]
      refine mk1 (X := cxOf (L2N.CX P w) P w K mg base ["way", "one", "other"] "_law_throw" (defScope s_law_throw) (He.ga K "_law_throw") cdv A outer s H E) (v := one) (vs := []) (zs := [one]) (T.exF (i := 33) (by decide)).oex (init_facts T (i := 33) (by decide)).2.2 rfl rfl rfl (by show _ ≤ 1000; decide) fun a d ha hd hne => ?_
      exact ⟨a, _, some d, rfl, made_a, fr0_none ha, rz (by decide), kE (some d) _ (del_made ha hd) (.inl ⟨by decide, d, rfl, del_d hne⟩)⟩
    | 6, _ =>
      refine ⟨_, rfl, rfl, _, rfl, iteF' (by decide +kernel) ?_⟩
      refine ⟨_, rfl, rfl, _, rfl, iteF' (by decide +kernel) ?_⟩
      refine ⟨_, rfl, rfl, _, rfl, iteF' (by decide +kernel) ?_⟩
      refine ⟨_, rfl, rfl, _, rfl, iteF' (by decide +kernel) ?_⟩
      refine ⟨_, rfl, rfl, _, rfl, iteF' (by decide +kernel) ?_⟩
      refine ⟨_, rfl, rfl, _, rfl, iteF' (by decide +kernel) ?_⟩
      refine ⟨_, rfl, rfl, _, rfl, iteT' (by decide +kernel) ?_⟩
      refine ⟨_, rfl, ?_⟩
      dsimp only [tNil, tCons, tMkX]
      refine mk1 (X := cxOf (L2N.CX P w) P w K mg base ["way", "one", "other"] "_law_throw" (defScope s_law_throw) (He.ga K "_law_throw") cdv A outer s H E) (v := one) (vs := [one]) (zs := []) (T.exF (i := 31) (by decide)).oex (init_facts T (i := 31) (by decide)).2.2 rfl rfl rfl (by show _ ≤ 1000; decide) fun a d ha hd hne => ?_
      exact ⟨a, _, some d, rfl, made_a, fr0_none ha, rz (by decide), kE (some d) _ (del_made ha hd) (.inl ⟨by decide, d, rfl, del_d hne⟩)⟩
    | 7, _ =>
      refine ⟨_, rfl, rfl, _, rfl, iteF' (by decide +kernel) ?_⟩
      refine ⟨_, rfl, rfl, _, rfl, iteF' (by decide +kernel) ?_⟩
      refine ⟨_, rfl, rfl, _, rfl, iteF' (by decide +kernel) ?_⟩
      refine ⟨_, rfl, rfl, _, rfl, iteF' (by decide +kernel) ?_⟩
      refine ⟨_, rfl, rfl, _, rfl, iteF' (by decide +kernel) ?_⟩
      refine ⟨_, rfl, rfl, _, rfl, iteF' (by decide +kernel) ?_⟩
      refine ⟨_, rfl, rfl, _, rfl, iteF' (by decide +kernel) ?_⟩
      refine ⟨_, rfl, rfl, _, rfl, iteT' (by decide +kernel) ?_⟩
      refine ⟨_, rfl, ?_⟩
      dsimp only [tNil, tCons, tMkX]
      refine mk1 (X := cxOf (L2N.CX P w) P w K mg base ["way", "one", "other"] "_law_throw" (defScope s_law_throw) (He.ga K "_law_throw") cdv A outer s H E) (v := one) (vs := []) (zs := [one]) (T.exF (i := 34) (by decide)).oex (init_facts T (i := 34) (by decide)).2.2 rfl rfl rfl (by show _ ≤ 1000; decide) fun a d ha hd hne => ?_
      exact ⟨a, _, some d, rfl, made_a, fr0_none ha, rz (by decide), kE (some d) _ (del_made ha hd) (.inl ⟨by decide, d, rfl, del_d hne⟩)⟩
    | 8, _ =>
      refine ⟨_, rfl, rfl, _, rfl, iteF' (by decide +kernel) ?_⟩
      refine ⟨_, rfl, rfl, _, rfl, iteF' (by decide +kernel) ?_⟩
      refine ⟨_, rfl, rfl, _, rfl, iteF' (by decide +kernel) ?_⟩
      refine ⟨_, rfl, rfl, _, rfl, iteF' (by decide +kernel) ?_⟩
      refine ⟨_, rfl, rfl, _, rfl, iteF' (by decide +kernel) ?_⟩
      refine ⟨_, rfl, rfl, _, rfl, iteF' (by decide +kernel) ?_⟩
      refine ⟨_, rfl, rfl, _, rfl, iteF' (by decide +kernel) ?_⟩
      refine ⟨_, rfl, rfl, _, rfl, iteF' (by decide +kernel) ?_⟩
      refine ⟨_, rfl, rfl, _, rfl, iteT' (by decide +kernel) ?_⟩
      refine ⟨_, rfl, ?_⟩
      dsimp only [tNil, tCons, tMkX]
      refine mk1 (X := cxOf (L2N.CX P w) P w K mg base ["way", "one", "other"] "_law_throw" (defScope s_law_throw) (He.ga K "_law_throw") cdv A outer s H E) (v := one) (vs := [one]) (zs := []) (T.exF (i := 35) (by decide)).oex (init_facts T (i := 35) (by decide)).2.2 rfl rfl rfl (by show _ ≤ 1000; decide) fun a d ha hd hne => ?_
      exact ⟨a, _, some d, rfl, made_a, fr0_none ha, rz (by decide), kE (some d) _ (del_made ha hd) (.inl ⟨by decide, d, rfl, del_d hne⟩)⟩
    | 9, _ =>
      refine ⟨_, rfl, rfl, _, rfl, iteF' (by decide +kernel) ?_⟩
      refine ⟨_, rfl, rfl, _, rfl, iteF' (by decide +kernel) ?_⟩
      refine ⟨_, rfl, rfl, _, rfl, iteF' (by decide +kernel) ?_⟩
      refine ⟨_, rfl, rfl, _, rfl, iteF' (by decide +kernel) ?_⟩
      refine ⟨_, rfl, rfl, _, rfl, iteF' (by decide +kernel) ?_⟩
      refine ⟨_, rfl, rfl, _, rfl, iteF' (by decide +kernel) ?_⟩
      refine ⟨_, rfl, rfl, _, rfl, iteF' (by decide +kernel) ?_⟩
      refine ⟨_, rfl, rfl, _, rfl, iteF' (by decide +kernel) ?_⟩
      refine ⟨_, rfl, rfl, _, rfl, iteF' (by decide +kernel) ?_⟩
      refine ⟨_, rfl, rfl, _, rfl, iteT' (by decide +kernel) ?_⟩
      refine ⟨_, rfl, _, rfl, ?_⟩
      dsimp only [tNil, tCons, tMkX]
      refine mk2 (X := cxOf (L2N.CX P w) P w K mg base ["way", "one", "other"] "_law_throw" (defScope s_law_throw) (He.ga K "_law_throw") cdv A outer s H E) (v := one) (u := other) (vs := []) (zs := [other, one]) (gV := fun vs zs => vs ++ zs.reverse) (T.exF (i := 37) (by decide)).oex qq.1 qq.2 (fun _ => rfl) rfl rfl (by show _ ≤ 1000; decide) fun a d ha hd hne => ?_
      exact ⟨a, _, some d, rfl, made_a, fr0_none ha, rz (by decide), kE (some d) _ (del_made ha hd) (.inl ⟨by decide, d, rfl, del_d hne⟩)⟩
    | 10, _ =>
      refine ⟨_, rfl, rfl, _, rfl, iteF' (by decide +kernel) ?_⟩
      refine ⟨_, rfl, rfl, _, rfl, iteF' (by decide +kernel) ?_⟩
      refine ⟨_, rfl, rfl, _, rfl, iteF' (by decide +kernel) ?_⟩
      refine ⟨_, rfl, rfl, _, rfl, iteF' (by decide +kernel) ?_⟩
      refine ⟨_, rfl, rfl, _, rfl, iteF' (by decide +kernel) ?_⟩
      refine ⟨_, rfl, rfl, _, rfl, iteF' (by decide +kernel) ?_⟩
      refine ⟨_, rfl, rfl, _, rfl, iteF' (by decide +kernel) ?_⟩
      refine ⟨_, rfl, rfl, _, rfl, iteF' (by decide +kernel) ?_⟩
      refine ⟨_, rfl, rfl, _, rfl, iteF' (by decide +kernel) ?_⟩
      refine ⟨_, rfl, rfl, _, rfl, iteF' (by decide +kernel) ?_⟩
      refine ⟨_, rfl, rfl, _, rfl, iteT' (by decide +kernel) ?_⟩
      refine ⟨_, rfl, ?_⟩
      dsimp only [tNil, tCons, tMkX]
      refine mk1 (X := cxOf (L2N.CX P w) P w K mg base ["way", "one", "other"] "_law_throw" (defScope s_law_throw) (He.ga K "_law_throw") cdv A outer s H E) (v := one) (vs := []) (zs := [one]) (T.exF (i := 36) (by decide)).oex (init_facts T (i := 36) (by decide)).2.2 rfl rfl rfl (by show _ ≤ 1000; decide) fun a d ha hd hne => ?_
      exact ⟨a, _, some d, rfl, made_a, fr0_none ha, rz (by decide), kE (some d) _ (del_made ha hd) (.inl ⟨by decide, d, rfl, del_d hne⟩)⟩
    | 11, _ =>
      refine ⟨_, rfl, rfl, _, rfl, iteF' (by decide +kernel) ?_⟩
      refine ⟨_, rfl, rfl, _, rfl, iteF' (by decide +kernel) ?_⟩
      refine ⟨_, rfl, rfl, _, rfl, iteF' (by decide +kernel) ?_⟩
      refine ⟨_, rfl, rfl, _, rfl, iteF' (by decide +kernel) ?_⟩
      refine ⟨_, rfl, rfl, _, rfl, iteF' (by decide +kernel) ?_⟩
      refine ⟨_, rfl, rfl, _, rfl, iteF' (by decide +kernel) ?_⟩
      refine ⟨_, rfl, rfl, _, rfl, iteF' (by decide +kernel) ?_⟩
      refine ⟨_, rfl, rfl, _, rfl, iteF' (by decide +kernel) ?_⟩
      refine ⟨_, rfl, rfl, _, rfl, iteF' (by decide +kernel) ?_⟩
      refine ⟨_, rfl, rfl, _, rfl, iteF' (by decide +kernel) ?_⟩
      refine ⟨_, rfl, rfl, _, rfl, iteF' (by decide +kernel) ?_⟩
      refine ⟨_, rfl, rfl, _, rfl, iteT' (by decide +kernel) ?_⟩
      intro a ha
      exact ⟨a, _, none, rfl, upd_same, fr0_none ha, rz (by decide), kE none _ (del_new ha) (.inr ⟨by decide, by decide, rfl⟩)⟩
    | 12, _ =>
      refine ⟨_, rfl, rfl, _, rfl, iteF' (by decide +kernel) ?_⟩
      refine ⟨_, rfl, rfl, _, rfl, iteF' (by decide +kernel) ?_⟩
      refine ⟨_, rfl, rfl, _, rfl, iteF' (by decide +kernel) ?_⟩
      refine ⟨_, rfl, rfl, _, rfl, iteF' (by decide +kernel) ?_⟩
      refine ⟨_, rfl, rfl, _, rfl, iteF' (by decide +kernel) ?_⟩
      refine ⟨_, rfl, rfl, _, rfl, iteF' (by decide +kernel) ?_⟩
      refine ⟨_, rfl, rfl, _, rfl, iteF' (by decide +kernel) ?_⟩
      refine ⟨_, rfl, rfl, _, rfl, iteF' (by decide +kernel) ?_⟩
      refine ⟨_, rfl, rfl, _, rfl, iteF' (by decide +kernel) ?_⟩
      refine ⟨_, rfl, rfl, _, rfl, iteF' (by decide +kernel) ?_⟩
      refine ⟨_, rfl, rfl, _, rfl, iteF' (by decide +kernel) ?_⟩
      refine ⟨_, rfl, rfl, _, rfl, iteF' (by decide +kernel) ?_⟩
      refine ⟨_, rfl, rfl, _, rfl, iteT' (by decide +kernel) ?_⟩
      intro a ha
      exact ⟨a, _, none, rfl, upd_same, fr0_none ha, rz (by decide), kE none _ (del_new ha) (.inr ⟨by decide, by decide, rfl⟩)⟩
    | 13, _ =>
      refine ⟨_, rfl, rfl, _, rfl, iteF' (by decide +kernel) ?_⟩
      refine ⟨_, rfl, rfl, _, rfl, iteF' (by decide +kernel) ?_⟩
      refine ⟨_, rfl, rfl, _, rfl, iteF' (by decide +kernel) ?_⟩
      refine ⟨_, rfl, rfl, _, rfl, iteF' (by decide +kernel) ?_⟩
      refine ⟨_, rfl, rfl, _, rfl, iteF' (by decide +kernel) ?_⟩
      refine ⟨_, rfl, rfl, _, rfl, iteF' (by decide +kernel) ?_⟩
      refine ⟨_, rfl, rfl, _, rfl, iteF' (by decide +kernel) ?_⟩
      refine ⟨_, rfl, rfl, _, rfl, iteF' (by decide +kernel) ?_⟩
      refine ⟨_, rfl, rfl, _, rfl, iteF' (by decide +kernel) ?_⟩
      refine ⟨_, rfl, rfl, _, rfl, iteF' (by decide +kernel) ?_⟩
      refine ⟨_, rfl, rfl, _, rfl, iteF' (by decide +kernel) ?_⟩
      refine ⟨_, rfl, rfl, _, rfl, iteF' (by decide +kernel) ?_⟩
      refine ⟨_, rfl, rfl, _, rfl, iteF' (by decide +kernel) ?_⟩
      refine ⟨_, rfl, rfl, _, rfl, iteT' (by decide +kernel) ?_⟩
      intro a ha
      exact ⟨a, _, none, rfl, upd_same, fr0_none ha, rz (by decide), kE none _ (del_new ha) (.inr ⟨by decide, by decide, rfl⟩)⟩
    | 14, _ =>
      refine ⟨_, rfl, rfl, _, rfl, iteF' (by decide +kernel) ?_⟩
      refine ⟨_, rfl, rfl, _, rfl, iteF' (by decide +kernel) ?_⟩
      refine ⟨_, rfl, rfl, _, rfl, iteF' (by decide +kernel) ?_⟩
      refine ⟨_, rfl, rfl, _, rfl, iteF' (by decide +kernel) ?_⟩
      refine ⟨_, rfl, rfl, _, rfl, iteF' (by decide +kernel) ?_⟩
      refine ⟨_, rfl, rfl, _, rfl, iteF' (by decide +kernel) ?_⟩
      refine ⟨_, rfl, rfl, _, rfl, iteF' (by decide +kernel) ?_⟩
      refine ⟨_, rfl, rfl, _, rfl, iteF' (by decide +kernel) ?_⟩
      refine ⟨_, rfl, rfl, _, rfl, iteF' (by decide +kernel) ?_⟩
      refine ⟨_, rfl, rfl, _, rfl, iteF' (by decide +kernel) ?_⟩
      refine ⟨_, rfl, rfl, _, rfl, iteF' (by decide +kernel) ?_⟩
      refine ⟨_, rfl, rfl, _, rfl, iteF' (by decide +kernel) ?_⟩
      refine ⟨_, rfl, rfl, _, rfl, iteF' (by decide +kernel) ?_⟩
      refine ⟨_, rfl, rfl, _, rfl, iteF' (by decide +kernel) ?_⟩
      intro a ha
      exact ⟨a, _, none, rfl, upd_same, fr0_none ha, rz (by decide), kE none _ (del_new ha) (.inr ⟨by decide, by decide, rfl⟩)⟩
end
end Kn

set_option Elab.async false
set_option linter.all false
set_option maxRecDepth 100000
set_option maxHeartbeats 4000000
namespace Kx
open PySem PySem.Spec PyProof.Rows L2 L2H HotX
theorem pins_in {X : Cx} {p : Addr × Obj} {pn pins : List (Addr × Obj)} {σ : St} {H : Hp} {s : Shared} {a : Addr} (I : Inv (X.suite a (p :: pn)) pins σ H s) : Inv (X.suite a [p]) (pn ++ pins) σ H s :=
  ⟨⟨I.ok.mod, I.ok.kind, I.ok.glob, I.ok.blt, I.ok.above, I.ok.inj, I.ok.has, I.ok.cab, I.ok.hd, I.ok.frames, I.ok.stk, I.ok.exf, I.ok.bs, I.ok.bsz, I.ok.noex, I.ok.exfs, I.ok.funs, I.ok.frf⟩, I.os, I.bare, I.base, I.loc, I.cell, I.free, I.freeC, I.pin, I.hok, I.len⟩
theorem pins_out {X : Cx} {p : Addr × Obj} {pn pins : List (Addr × Obj)} {σ : St} {H : Hp} {s : Shared} {a : Addr} (I : Inv (X.suite a [p]) (pn ++ pins) σ H s) : Inv (X.suite a (p :: pn)) pins σ H s :=
  ⟨⟨I.ok.mod, I.ok.kind, I.ok.glob, I.ok.blt, I.ok.above, I.ok.inj, I.ok.has, I.ok.cab, I.ok.hd, I.ok.frames, I.ok.stk, I.ok.exf, I.ok.bs, I.ok.bsz, I.ok.noex, I.ok.exfs, I.ok.funs, I.ok.frf⟩, I.os, I.bare, I.base, I.loc, I.cell, I.free, I.freeC, I.pin, I.hok, I.len⟩
/-- a suite, told for the one error it handles -/
theorem suite_of {X : Cx} {a : Addr} {oe : Obj} {pn : List (Addr × Obj)} {body : List Stmt} {ts : TS} (h : ∀ D σ H, ts D σ H → ∃ t, PSs (X.suite a [(a, oe)]) body t ∧ t D σ H) : PSs (X.suite a ((a, oe) :: pn)) body ts := ⟨fun pins s σ H D I hw => by
  obtain ⟨t, d, q⟩ := h D σ H hw
  refine wpAny_mono (d.run (pn ++ pins) s σ H D (pins_in I) q) (fun f s1 z => ?_) (fun _ _ z => z)
  cases f with
  | next => obtain ⟨σ', H', J, q⟩ := z; exact ⟨σ', H', pins_out J, q⟩
  | brk => obtain ⟨σ', H', J, q⟩ := z; exact ⟨σ', H', pins_out J, q⟩
  | cont => obtain ⟨σ', H', J, q⟩ := z; exact ⟨σ', H', pins_out J, q⟩
  | ret u => obtain ⟨v, σ', H', J, r, q⟩ := z; exact ⟨v, σ', H', pins_out J, r, q⟩⟩
end Kx
namespace Kn
open PySem PySem.Spec PyProof.Rows L2 L2H Kx RZ
section
variable {P : Program} {w : World} {K : PySem.W.Frag} {mg : Str → Option Value} {base : Heap}
theorem exm_ae (T : Txt K mg) {i : Nat} (hi : i < 43) : PySem.W.exmOne K (.ref (exA K i)) (.ref (AE K)) = some true := by
  unfold PySem.W.exmOne
  rw [if_pos (by rw [(ae_cls T).2.2]; rfl), kitCls_ref (is_ae T), mro_ex T hi, cont_cons, cont_cons, beq_refl, Bool.true_or, Bool.or_true]
theorem exm_ex (T : Txt K mg) {i j : Nat} (hi : i < 43) (hj : j < 43) : PySem.W.exmOne K (.ref (exA K i)) (.ref (exA K j)) = some (decide (j = i)) := by
  unfold PySem.W.exmOne
  have h : PySem.W.subIn K (.ref (exA K j)) (.type "BaseException") = some true := by
    rw [mro_ex T hj, cont_cons, cont_cons]
    exact congrArg some (by simp)
  rw [if_pos (by rw [h]; rfl), kitCls_ref (is_ex T hj), sub_ex T hi hj]
theorem exm_cons {K : PySem.W.Frag} {cls c : Value} {r : List Value} {b d : Bool} (h : PySem.W.exmOne K cls c = some b) (g : PySem.W.exmAny K cls r = some d) : PySem.W.exmAny K cls (c :: r) = some (b || d) := by
  show (match PySem.W.exmOne K cls c, PySem.W.exmAny K cls r with
    | some b, some d => some (b || d)
    | _, _ => none) = _
  rw [h, g]
def spots0 : List V := (List.range 15).map fun w => V.int (spot w : Nat)
/-- what a suite is told -/
def tsRaised (K : PySem.W.Frag) (odd : Bool) : Addr → Value → Option Addr → TS := fun a cls d D σ H => ∃ (way : Nat) (one other : V) (sp : Addr) (x : Option V), way < 15 ∧ (odd = true → way % 2 = 1 ∧ way < 14) ∧ σ = [some (.int way), some one, some other, some (.ref sp), some (.ref a), x] ∧ H sp = some (.lst spots0) ∧
  cls = .ref (exA K (spot way)) ∧ ExD H (spot way) d one other ∧ Lk K H 10 one one ∧ Lk K H 10 other other ∧ ∀ H', Same H H' → D.rt (.bl true) H'
theorem exAt_of {H : Hp} {a : Addr} {oe : Obj} {i : Nat} {d : Option Addr} {one other : V} (hi : i < 43) (z : L2N.Zn (.ref (exA K i)) d oe) (hf : ∃ vs, oe.data = .fields vs) (x : ExD H i d one other) : ExAt [(a, oe)] K H a i one other := by
  have ev : EV [(a, oe)] H a (exA K i) d := .inr ⟨oe, List.mem_singleton.mpr rfl, z.zc, hf⟩
  rcases x with ⟨h, b, rfl, e⟩ | ⟨h, h2, rfl⟩
  · exact .inl ⟨h, b, ev, e⟩
  · exact .inr ⟨h, h2, ev⟩
theorem spot_lt : ∀ {w : Nat}, w < 15 → spot w < 43 := by decide
theorem spots_at {w : Nat} (h : w < 15) : atI spots0 (w : Int) = some (.int (spot w : Nat)) := by
  refine atI_nat ?_
  unfold spots0
  rw [List.getElem?_map, List.getElem?_range h]
  rfl
theorem odd_in : ∀ {w : Nat}, w < 14 → w % 2 = 1 → inV (.int (w : Nat)) [.int 1, .int 3, .int 5, .int 7, .int 9, .int 11, .int 13] = true := by
  intro w h1 h2
  match w, h1, h2 with
  | 1, _, _ => rfl
  | 3, _, _ => rfl
  | 5, _, _ => rfl
  | 7, _, _ => rfl
  | 9, _, _ => rfl
  | 11, _, _ => rfl
  | 13, _, _ => rfl
def hOf : Option ExceptHandler → List Stmt
  | some (.ExceptHandler _ _ b _) => b
  | _ => []
def hsOf : Option Stmt → List ExceptHandler
  | some (.Try _ hs _ _ _) => hs
  | _ => []
def hBody (k : Nat) : List Stmt := hOf ((hsOf ((defBody s_law_raised)[1]?))[k]?)
def elsOf0 : Option ExceptHandler → List Expr
  | some (.ExceptHandler (some (.Tuple es _ _)) _ _ _) => es
  | _ => []
def elsOf : List Expr := elsOf0 ((hsOf ((defBody s_law_raised)[1]?))[0]?)
theorem odd_of : ∀ {w : Nat}, w < 15 → (decide (25 = spot w) || (decide (29 = spot w) || (decide (33 = spot w) || (decide (34 = spot w) || (decide (37 = spot w) || (decide (39 = spot w) || (decide (41 = spot w) || false))))))) = true → w % 2 = 1 ∧ w < 14 := by decide
def spRaised (K : PySem.W.Frag) : Sp := fun vs H Q _ => ∃ (way : Nat) (one other : V), vs = [.int way, one, other] ∧ way < 15 ∧ Lk K H 10 one one ∧ Lk K H 10 other other ∧ ∀ H', Same H H' → Q (.bl true) H'
abbrev cxR (P : Program) (w : World) (K : PySem.W.Frag) (mg : Str → Option Value) (base : Heap) (cdv : Value) (A : Around) (outer : List Env) (s : Shared) (H : Hp) (E : XK) : Cx := (cxM none CX0 P w K mg base ["way", "one", "other", "spots", "e", "told"] "_law_raised" (defScope s_law_raised) (He.ga K "_law_raised") cdv A outer s H E).nox
theorem ok_raised (T : Txt K mg) : CalM none P w K mg base 20 "_law_raised" (spRaised K) := by
  obtain ⟨fd, F⟩ := T.fn_ 24 "_law_raised" s_law_raised
  obtain ⟨fT, FT, bT, kT⟩ := ok_throw (P := P) (w := w) (base := base) T
  refine calM F (T.g "_law_raised") (F.bindsN (ps := ["way", "one", "other"]) fun _ _ _ _ _ _ us hl => match us, hl with | [_, _, _], _ => rfl) sc_law_raised (fun vs H Q E h => ?_) (fun cdv A outer s H vs Q E hr mo h => ?_)
  · obtain ⟨way, one, other, rfl, _⟩ := h
    rfl
  · obtain ⟨way, one, other, rfl, hw, l1, l2, kq⟩ := h
    have rm : ∀ {a : Addr} {oe : Obj} {cls : Value} {d : Option Addr}, L2N.Zn cls d oe → (∃ vs, oe.data = .fields vs) → RoomM (some (a, oe)) 19 ((cxR P w K mg base cdv A outer s H E).suite a [(a, oe)]).A ∧ MdOk (some (a, oe)) ((cxR P w K mg base cdv A outer s H E).suite a [(a, oe)]) := fun {a oe cls d} z hf => by
      obtain ⟨vs, hv⟩ := hf
      have hot : Hot1 ((cxR P w K mg base cdv A outer s H E).suite a [(a, oe)]).A (a, oe) := ⟨rfl, vs, hv, z.2.2 vs hv⟩
      refine ⟨⟨⟨hr.r.dp, hr.r.un⟩, fun z => (nomatch z), fun p e => ?_⟩, ⟨rfl, fun z => (nomatch z), fun p e => ?_⟩⟩
      · cases e
        exact hot
      · cases e
        exact hot
    have cn25 : ∀ {A' : Around} {pn : List (Addr × Obj)}, ClsNames { (cxR P w K mg base cdv A outer s H E) with A := A', calm := false, pn := pn, xe := fun _ _ => False } elsOf [.ref (exA K 25), .ref (exA K 29), .ref (exA K 33), .ref (exA K 34), .ref (exA K 37), .ref (exA K 39), .ref (exA K 41)] := (.cons ⟨rfl, by decide +kernel, .inl (T.exg 25 (by decide))⟩ (fun _ => rfl) (.cons ⟨rfl, by decide +kernel, .inl (T.exg 29 (by decide))⟩ (fun _ => rfl) (.cons ⟨rfl, by decide +kernel, .inl (T.exg 33 (by decide))⟩ (fun _ => rfl) (.cons ⟨rfl, by decide +kernel, .inl (T.exg 34 (by decide))⟩ (fun _ => rfl) (.cons ⟨rfl, by decide +kernel, .inl (T.exg 37 (by decide))⟩ (fun _ => rfl) (.cons ⟨rfl, by decide +kernel, .inl (T.exg 39 (by decide))⟩ (fun _ => rfl) (.cons ⟨rfl, by decide +kernel, .inl (T.exg 41 (by decide))⟩ (fun _ => rfl) .nil)))))))
    have hs0 : ∀ (a : Addr) (oe : Obj) (cls : Value) (d : Option Addr) (pn : List (Addr × Obj)), L2N.Zn cls d oe → (∃ vs, oe.data = .fields vs) → PSs ((cxR P w K mg base cdv A outer s H E).suite a ((a, oe) :: pn)) (hBody 0) (tsRaised K true a cls d) := fun a oe cls d pn z hf => suite_of fun D σ H0 h => by
      obtain ⟨hr, mo⟩ := rm (a := a) z hf
      have G_law_inside := ok_inside (P := P) (w := w) (base := base) (some (a, oe)) T
      have G_law_is_just := ok_just (P := P) (w := w) (base := base) (some (a, oe)) T
      have G_law_like := ok_like (P := P) (w := w) (base := base) (some (a, oe)) T 12
      refine ⟨_, (pss_cons (ps_set (i := 5) sc_law_raised.nd rfl (Or.inl rfl) (pe_callC G_law_inside ⟨mo.pn, mo.c, mo.h⟩ (hr.mono (by omega)) rfl (pa_cons (pv 4) (pa_cons (pe_ix (ixL K rfl) (pv 3) (pv 0) (fun _ _ => rfl)) pa_nil))))
        (pss_one (ps_ret (pe_and (pe_cmpR (opIn K rfl) (pv 0) (pe_tup (pa_cons (pe_int) (pa_cons (pe_int) (pa_cons (pe_int) (pa_cons (pe_int) (pa_cons (pe_int) (pa_cons (pe_int) (pa_cons (pe_int) pa_nil)))))))) (by rfl)) (pe_and (pe_callC G_law_is_just ⟨mo.pn, mo.c, mo.h⟩ (hr.mono (by omega)) rfl (pa_cons (pv 4) (pa_cons (pe_ix (ixL K rfl) (pv 3) (pv 0) (fun _ _ => rfl)) pa_nil))) (pe_one (pe_callC G_law_like ⟨mo.pn, mo.c, mo.h⟩ (hr.mono (by omega)) rfl (pa_cons (pv 5) (pa_cons (pe_slice (slL K rfl) (pe_lst (pa_cons (pv 1) (pa_cons (pv 2) pa_nil))) po_none (po_some (pe_callB (cLenSeq K rfl) (by rfl) (T.free "len") (by decide +kernel) (pa_cons (pv 5) pa_nil)))) pa_nil))))))))), ?_⟩
      obtain ⟨way, one, other, sp, x, hw, hodd, rfl, hsp, rfl, exd, l1, l2, kq⟩ := h
      have ex := exAt_of (a := a) (spot_lt hw) z hf exd
      refine ⟨_, rfl, _, rfl, _, rfl, sp, _, _, _, rfl, rfl, .inl (.inl hsp), spots_at hw, a, spot way, one, other, rfl, ex, fun r H1 s1 n1 h1 => ?_⟩
      refine ⟨_, rfl, by show 7 ≤ sizeLine; decide, fun tp htp => ⟨tp, _, rfl, .inr (.inl (Rd.of upd_same)), rfl, rfl, _, rfl, iteT' (odd_in (hodd rfl).2 (hodd rfl).1) ?_⟩⟩
      have st := same_new (o := .tup [.int 1, .int 3, .int 5, .int 7, .int 9, .int 11, .int 13]) htp
      have s1t := s1.trans st
      have hr1 := st _ _ h1
      refine ⟨_, rfl, _, rfl, _, rfl, sp, _, _, _, rfl, rfl, .inl (.inl (s1t _ _ hsp)), spots_at hw, a, spot way, one, other, rfl, ex.same s1t, fun H2 s2 => ⟨_, rfl, iteT ?_⟩⟩
      refine ⟨_, rfl, _, rfl, _, rfl, by show 2 ≤ sizeLine; decide, fun u hu => ?_⟩
      have s3 := same_new (o := .lst [one, other]) hu
      refine ⟨_, rfl, r, _, rfl, .inl (.inl (.inl (s3 _ _ (s2 _ _ hr1)))), _, rfl, u, _, rfl, .inl (.inl upd_same), fun v hv => ?_⟩
      rw [cut_ex]
      have s4 := same_new (o := .lst (exVals (spot way) one other)) hv
      have s04 := ((s1t.trans s2).trans s3).trans s4
      refine ⟨_, _, 11, rfl, by decide, lk_list (.inl (.inl (s4 _ _ (s3 _ _ (s2 _ _ hr1))))) (.inl (.inl upd_same)) (Nat.le_trans exVals_len (by decide)) (fun y hy => ?_), fun H5 s5 => kq H5 (s04.trans s5)⟩
      rcases ex_mem hy with rfl | rfl
      · exact l1.same s04
      · exact l2.same s04
    have hs1 : ∀ (a : Addr) (oe : Obj) (cls : Value) (d : Option Addr) (pn : List (Addr × Obj)), L2N.Zn cls d oe → (∃ vs, oe.data = .fields vs) → PSs ((cxR P w K mg base cdv A outer s H E).suite a ((a, oe) :: pn)) (hBody 1) (tsRaised K false a cls d) := fun a oe cls d pn z hf => suite_of fun D σ H0 h => by
      obtain ⟨hr, mo⟩ := rm (a := a) z hf
      have G_law_inside := ok_inside (P := P) (w := w) (base := base) (some (a, oe)) T
      have G_law_is_just := ok_just (P := P) (w := w) (base := base) (some (a, oe)) T
      have G_law_like := ok_like (P := P) (w := w) (base := base) (some (a, oe)) T 12
      refine ⟨_, (pss_cons (ps_set (i := 5) sc_law_raised.nd rfl (Or.inl rfl) (pe_callC G_law_inside ⟨mo.pn, mo.c, mo.h⟩ (hr.mono (by omega)) rfl (pa_cons (pv 4) (pa_cons (pe_ix (ixL K rfl) (pv 3) (pv 0) (fun _ _ => rfl)) pa_nil))))
        (pss_one (ps_ret (pe_and (pe_callC G_law_is_just ⟨mo.pn, mo.c, mo.h⟩ (hr.mono (by omega)) rfl (pa_cons (pv 4) (pa_cons (pe_ix (ixL K rfl) (pv 3) (pv 0) (fun _ _ => rfl)) pa_nil))) (pe_one (pe_callC G_law_like ⟨mo.pn, mo.c, mo.h⟩ (hr.mono (by omega)) rfl (pa_cons (pv 5) (pa_cons (pe_slice (slL K rfl) (pe_lst (pa_cons (pv 1) (pa_cons (pv 2) pa_nil))) po_none (po_some (pe_callB (cLenSeq K rfl) (by rfl) (T.free "len") (by decide +kernel) (pa_cons (pv 5) pa_nil)))) pa_nil)))))))), ?_⟩
      obtain ⟨way, one, other, sp, x, hw, hodd, rfl, hsp, rfl, exd, l1, l2, kq⟩ := h
      have ex := exAt_of (a := a) (spot_lt hw) z hf exd
      refine ⟨_, rfl, _, rfl, _, rfl, sp, _, _, _, rfl, rfl, .inl (.inl hsp), spots_at hw, a, spot way, one, other, rfl, ex, fun r H1 s1 n1 h1 => ?_⟩
      have hr1 := h1
      refine ⟨_, rfl, _, rfl, _, rfl, sp, _, _, _, rfl, rfl, .inl (.inl (s1 _ _ hsp)), spots_at hw, a, spot way, one, other, rfl, ex.same s1, fun H2 s2 => ⟨_, rfl, iteT ?_⟩⟩
      refine ⟨_, rfl, _, rfl, _, rfl, by show 2 ≤ sizeLine; decide, fun u hu => ?_⟩
      have s3 := same_new (o := .lst [one, other]) hu
      refine ⟨_, rfl, r, _, rfl, .inl (.inl (.inl (s3 _ _ (s2 _ _ hr1)))), _, rfl, u, _, rfl, .inl (.inl upd_same), fun v hv => ?_⟩
      rw [cut_ex]
      have s4 := same_new (o := .lst (exVals (spot way) one other)) hv
      have s04 := ((s1.trans s2).trans s3).trans s4
      refine ⟨_, _, 11, rfl, by decide, lk_list (.inl (.inl (s4 _ _ (s3 _ _ (s2 _ _ hr1))))) (.inl (.inl upd_same)) (Nat.le_trans exVals_len (by decide)) (fun y hy => ?_), fun H5 s5 => kq H5 (s04.trans s5)⟩
      rcases ex_mem hy with rfl | rfl
      · exact l1.same s04
      · exact l2.same s04
    refine ⟨_, (pss_cons (ps_set (i := 3) sc_law_raised.nd rfl (Or.inl rfl) (pe_lst (pa_cons (pe_int) (pa_cons (pe_int) (pa_cons (pe_int) (pa_cons (pe_int) (pa_cons (pe_int) (pa_cons (pe_int) (pa_cons (pe_int) (pa_cons (pe_int) (pa_cons (pe_int) (pa_cons (pe_int) (pa_cons (pe_int) (pa_cons (pe_int) (pa_cons (pe_int) (pa_cons (pe_int) (pa_cons (pe_int) pa_nil)))))))))))))))))
      (pss_cons (ps_try_two (X := cxR P w K mg base cdv A outer s H E) (i := 4) (tb := fun W => tDrop (tCallS (spThrow K) (WE W) (tCons (tVar 0) (tCons (tVar 1) (tCons (tVar 2) tNil))))) (cs := [.ref (exA K 25), .ref (exA K 29), .ref (exA K 33), .ref (exA K 34), .ref (exA K 37), .ref (exA K 39), .ref (exA K 41)]) (c := .ref (AE K)) (ts0 := tsRaised K true) (ts1 := tsRaised K false) rfl rfl sc_law_raised.nd rfl rfl (fun _ _ => cn25) (by show 7 ≤ sizeLine; decide) ⟨rfl, by decide +kernel, .inl (T.g "AutomatonError")⟩ (fun W pn xe tk _ => pss_one (ps_expr (pe_callS FT (hr.mono (by omega)).room rfl (T.g "_law_throw") kT bT (fun σ => L2N.passAt tk σ) (pa_cons (pv 0) (pa_cons (pv 1) (pa_cons (pv 2) pa_nil)))))) hs0 hs1)
      (pss_one (ps_ret (pe_bl))))), ?_⟩
    refine ⟨by show 15 ≤ sizeLine; decide, fun sp hsp => ?_⟩
    have s0 := same_new (o := .lst spots0) hsp
    refine ⟨_, rfl, _, rfl, _, rfl, way, one, other, rfl, hw, fun d H' s' exd => ?_⟩
    refine ⟨_, exm_cons (exm_ex T (spot_lt hw) (by decide)) (exm_cons (exm_ex T (spot_lt hw) (by decide)) (exm_cons (exm_ex T (spot_lt hw) (by decide)) (exm_cons (exm_ex T (spot_lt hw) (by decide)) (exm_cons (exm_ex T (spot_lt hw) (by decide)) (exm_cons (exm_ex T (spot_lt hw) (by decide)) (exm_cons (exm_ex T (spot_lt hw) (by decide)) rfl)))))), fun hb a ha => ?_, fun hb => ⟨exm_ae T (spot_lt hw), fun a ha => ?_⟩⟩
    · exact ⟨way, one, other, sp, none, hw, fun _ => odd_of hw hb, rfl, s' _ _ (upd_same (o := .lst spots0)), rfl, exd, l1.same (s0.trans s'), l2.same (s0.trans s'), fun H'' s'' => kq H'' ((s0.trans s').trans s'')⟩
    · exact ⟨way, one, other, sp, none, hw, (fun z => nomatch z), rfl, s' _ _ (upd_same (o := .lst spots0)), rfl, exd, l1.same (s0.trans s'), l2.same (s0.trans s'), fun H'' s'' => kq H'' ((s0.trans s').trans s'')⟩
end
end Kn

set_option Elab.async false
set_option linter.all false
set_option maxRecDepth 100000
set_option maxHeartbeats 4000000
namespace Kn
open PySem PySem.Spec PyProof.Rows L2 L2H Kx RZ
theorem same_keep {b : Addr} {H0 H1 H2 : Hp} (s : Same H0 H1) (hb : H0 b = none) (k : Keep b H1 H2) : Same H0 H2 := fun a o e => k a o (s a o e) (ne_of_none e hb)
section
variable {P : Program} {w : World} {K : PySem.W.Frag} {mg : Str → Option Value} {base : Heap}
def spLaw (K : PySem.W.Frag) : Sp := fun vs H Q _ => ∃ (a : Addr) (ns : List Int), vs = [.ref a] ∧ SqL K H a (ns.map V.int) ∧ ns.length ≤ 63 ∧ ∀ H', Q (.bl true) H'
theorem ok_law (T : Txt K mg) {fd : FuncData} (F : FunD K "law" "law" (defArgs s_law) (defBody s_law) (defScope s_law) [] [] (He.ga K "law") fd) : FnOk P w K mg base CX0 21 (He.ga K "law") fd ["script"] (spLaw K) := by
  have G_law_cell := ok_cell (P := P) (w := w) (base := base) T
  have G_law_box := ok_box (P := P) (w := w) (base := base) T
  have G_law_take := ok_take (P := P) (w := w) (base := base) T
  have G_law_value := ok_val (P := P) (w := w) (base := base) T
  have G_law_string := ok_str (P := P) (w := w) (base := base) T
  have G_law_all_right := ok_all (P := P) (w := w) (base := base) T
  have G_law_very_right := ok_very (P := P) (w := w) (base := base) T
  have G_law_raised := ok_raised (P := P) (w := w) (base := base) T
  refine F.ok sc_law (fun vs H Q E h => ?_) (fun cdv A outer s H vs Q E hr0 h => ?_)
  · obtain ⟨a, ns, rfl, _⟩ := h
    rfl
  · obtain ⟨a, ns, rfl, hS, hl, kq⟩ := h
    have hr := roomM_of hr0
    have mo : MdOk none (cxOf CX0 P w K mg base ["script", "k", "box", "shift", "first", "last", "way"] "law" (defScope s_law) (He.ga K "law") cdv A outer s H E).nox := ⟨rfl, fun _ => rfl, fun _ z => nomatch z⟩
    refine ⟨_, PSs.nox (pss_cons (ps_for PassesOwn.never rfl (pi_range1 rfl (T.free "range") (pa_cons (pe_callB (call_max2 rfl) (by rfl) (T.free "max") (by decide +kernel) (pa_cons (pe_int) (pa_cons (pe_callB (call_min2 rfl) (by rfl) (T.free "min") (by decide +kernel) (pa_cons (pe_int) (pa_cons (pe_callB (cLenSeq K rfl) (by rfl) (T.free "len") (by decide +kernel) (pa_cons (pv 0) pa_nil)) pa_nil))) pa_nil))) pa_nil)) (pg_name (i := 1) sc_law.nd rfl (Or.inl rfl))
        (pss_cons (ps_set (i := 2) sc_law.nd rfl (Or.inl rfl) (pe_callC G_law_box ⟨mo.pn, mo.c, mo.h⟩ (hr.mono (by omega)) rfl (pa_cons (pe_callC G_law_cell ⟨mo.pn, mo.c, mo.h⟩ (hr.mono (by omega)) rfl (pa_cons (pv 0) (pa_cons (pv 1) pa_nil))) pa_nil)))
        (pss_cons (ps_asg (pe_tup (pa_cons (pe_callC G_law_take ⟨mo.pn, mo.c, mo.h⟩ (hr.mono (by omega)) rfl (pa_cons (pv 2) (pa_cons (pe_int) pa_nil))) (pa_cons (pe_callC G_law_value ⟨mo.pn, mo.c, mo.h⟩ (hr.mono (by omega)) rfl (pa_cons (pv 2) pa_nil)) (pa_cons (pe_callC G_law_value ⟨mo.pn, mo.c, mo.h⟩ (hr.mono (by omega)) rfl (pa_cons (pv 2) pa_nil)) pa_nil)))) (pgTup K (n := 3) rfl rfl (pgs_cons (pg_name (i := 3) sc_law.nd rfl (Or.inr rfl)) (pgs_cons (pg_name (i := 4) sc_law.nd rfl (Or.inr rfl)) (pgs_cons (pg_name (i := 5) sc_law.nd rfl (Or.inr rfl)) pgs_nil)))))
        (pss_cons (ps_if (PW.pt (pw_or (pt_not (pt_val (pe_callC G_law_all_right ⟨mo.pn, mo.c, mo.h⟩ (hr.mono (by omega)) rfl (pa_cons (pv 4) (pa_cons (pv 5) pa_nil))))) (pw_or1 (pt_not (pt_val (pe_callC G_law_very_right ⟨mo.pn, mo.c, mo.h⟩ (hr.mono (by omega)) rfl (pa_cons (pe_callC G_law_take ⟨mo.pn, mo.c, mo.h⟩ (hr.mono (by omega)) rfl (pa_cons (pv 2) (pa_cons (pe_int) pa_nil))) (pa_cons (pe_callC G_law_string ⟨mo.pn, mo.c, mo.h⟩ (hr.mono (by omega)) rfl (pa_cons (pv 2) pa_nil)) pa_nil)))))))) (pss_one (ps_ret (pe_bl))) pss_nil)
        (pss_one (ps_if (pt_cmpR (opNeD K rfl hr.hu) (pe_lc (own := [("way", 6)]) rfl sc_law.nd (pi_range1 rfl (T.free "range") (pa_cons (pe_int) pa_nil)) (blkOk_by (N := ["script", "k", "box", "shift", "first", "last", "way"]) (sc := defScope s_law) (by decide +kernel)) (fun _ _ _ _ _ => (pg_name (i := 6) sc_law.nd rfl (Or.inl rfl))) (fun _ _ _ _ _ => (pts_one (PW.pt (pw_and (pt_cmpR op_lt (pe_op op_mod (pe_callTy call_int1 (by rfl) (T.free "int") (by decide +kernel) (pa_cons (pe_op op_add (pv 6) (pv 3)) pa_nil)) (pe_int)) (pe_int) (nomark _)) (pw_and1 (pt_not (pt_val (pe_callC G_law_raised ⟨mo.pn, mo.c, mo.h⟩ (hr.mono (by omega)) rfl (pa_cons (pv 6) (pa_cons (pv 4) (pa_cons (pv 5) pa_nil))))))))))) (fun _ _ _ _ _ => (pv 6))) (pe_lst pa_nil) (nomark _)) (pss_one (ps_ret (pe_bl))) pss_nil))))))
      (pss_one (ps_ret (pe_bl)))), ?_⟩
    have hn : ∃ n : Nat, n ≤ 4 ∧ (if (if (((ns.map V.int).length : Nat) : Int) < 4 then (((ns.map V.int).length : Nat) : Int) else 4) > 2 then (if (((ns.map V.int).length : Nat) : Int) < 4 then (((ns.map V.int).length : Nat) : Int) else 4) else 2) = (n : Int) := by
      by_cases h1 : (((ns.map V.int).length : Nat) : Int) < 4
      · rw [if_pos h1]
        by_cases h2 : (((ns.map V.int).length : Nat) : Int) > 2
        · rw [if_pos h2]
          exact ⟨_, by omega, rfl⟩
        · rw [if_neg h2]
          exact ⟨2, by decide, rfl⟩
      · rw [if_neg h1, if_pos (by decide)]
        exact ⟨4, by decide, rfl⟩
    obtain ⟨n, hn4, en⟩ := hn
    refine ⟨_, rfl, a, _, rfl, .inl hS, _, _, rfl, _, _, rfl, ?_⟩
    rw [en]
    refine ⟨(n : Int), rfl, by omega, by omega, ?_⟩
    rw [Int.toNat_natCast]
    refine for_range (lo := 0) (n := n) (fun _ σ H' => Same H H' ∧ ∃ b c d e f g, σ = [some (.ref a), b, c, d, e, f, g]) ⟨Same.refl H, _, _, _, _, _, _, rfl⟩ (fun k σ H' hk h => ?_) (fun σ H' h => ?_)
    · obtain ⟨sa, b, c, d, e, f, g, rfl⟩ := h
      have z0 : (0 : Int) + (k : Int) = (k : Int) := Int.zero_add _
      rw [z0]
      refine ⟨_, rfl, _, rfl, a, ns, k, rfl, sa.seq hS, hl, by omega, by omega, fun v H1 s1 => ⟨v, rfl, fun p H2 n2 s2 bx => ?_⟩⟩
      have hH : H p = none := (sa.trans s1).free n2
      refine ⟨_, rfl, p, 5, 0, rfl, by decide, by decide, bx, by decide, fun sh o h0 h5 bx1 => ⟨_, rfl, p, 1, rfl, bx1, by decide, fun fi H3 k3 bx3 lk3 => ⟨_, rfl, p, 1001, rfl, bx3, by decide, fun la H4 k4 bx4 lk4 => ⟨by show 3 ≤ sizeLine; decide, fun tp htp => ?_⟩⟩⟩⟩
      have st := same_new (o := .tup [.int sh, fi, la]) htp
      refine ⟨tp, [.int sh, fi, la], rfl, .inl (.inl upd_same), rfl, _, _, rfl, _, _, rfl, _, _, rfl, rfl, ?_⟩
      have mp : p ∈ [p] := List.mem_singleton.mpr rfl
      have lf5 := (lk3.same (wo_keep mp k4)).same (wo_mono st)
      have ll5 := lk4.same (wo_mono st)
      have bx5 := bx4.same st
      have kk : Keep p H2 (upd H4 tp (.tup [.int sh, fi, la])) := ((keep_upd.trans k3).trans k4).trans (Keep.of_same st)
      have sh5 : Same H (upd H4 tp (.tup [.int sh, fi, la])) := same_keep (sa.trans (s1.trans s2)) hH kk
      generalize upd H4 tp (.tup [.int sh, fi, la]) = H5 at lf5 ll5 bx5 sh5 ⊢
      refine ⟨_, rfl, _, rfl, fi, la, rfl, lf5.same wo_same, ll5.same wo_same, fun H6 s6 => ⟨_, rfl, iteF ?_⟩⟩
      refine ⟨_, rfl, p, 9, 2001, rfl, by decide, by decide, bx5.same s6, by decide, fun d2 o2 g0 g1 bx7 => ⟨_, rfl, p, 2002, rfl, bx7, by decide, fun x H8 hx k8 bx8 => ⟨d2, x, rfl, hx, fun H9 s9 => ⟨_, rfl, iteF ?_⟩⟩⟩⟩
      have k69 : Keep p H6 H9 := (keep_upd.trans k8).trans (Keep.of_same s9)
      have lf9 := (lf5.same (wo_mono s6)).same (wo_keep mp k69)
      have ll9 := (ll5.same (wo_mono s6)).same (wo_keep mp k69)
      have sh9 : Same H H9 := same_keep (sh5.trans s6) hH k69
      refine ⟨15, rfl, by decide, by decide, fun D hD => ?_⟩
      refine pick (n := 15) (j := 6) (by decide) hD ?_ (fun _ => false) (fun w2 H10 hw s10 kk2 kq2 => ?_) (fun H10 s10 h10 => ?_)
      · show 6 < 7
        decide
      · refine ⟨_, rfl, _, rfl, _, _, rfl, rfl, .inl ⟨_, rfl, _, _, rfl, rfl, (by show (0 : Int) < 5; decide), _, _, rfl, rfl, _, rfl, ite2 (fun c => ?_) (fun c => ?_)⟩⟩
        · exact ⟨_, rfl, _, rfl, _, rfl, w2, fi, la, rfl, hw, (lf9.same (wo_mono s10)).same wo_same, (ll9.same (wo_mono s10)).same wo_same, fun H11 s11 => ⟨_, rfl, kq2 H11 s11⟩⟩
        · exact kq2 H10 (Same.refl H10)
      · rw [filter_none] at h10
        refine ⟨Nat.zero_le _, fun q hq => ⟨_, _, lst_eq (l := []) (.inl (Rd.of (same_new hq _ _ h10))), lst_eq (l := []) (.inl (Rd.of upd_same)), rfl, rfl, _, rfl, iteF ?_⟩⟩
        exact ⟨(sh9.trans s10).trans (same_new hq), _, _, _, _, _, _, rfl⟩
    · exact kq H'
end
end Kn

set_option Elab.async false
set_option linter.all false
set_option maxRecDepth 100000
set_option maxHeartbeats 4000000
namespace Kn
open PySem PySem.Spec PyProof.Rows L2 L2H Kx
theorem facts {P : Program} {w : World} {K : PySem.W.Frag} {h : Heap} {mg : Str → Option Value} {f : Addr} (X : K.In h) (G : h.Ns mainGlobals mg) (hfa : mg ("law" : Str) = some (.ref f)) (c : SaysK K) :
    ∃ fd : FuncData, (∀ (s : Shared) (v : Value), BindsTo s fd ⟨[v], []⟩ [("script", v)]) ∧ ∀ base : Heap, K.In base → base.Ns mainGlobals mg → FnOk P w K mg base CX0 21 f fd ["script"] (spLaw K) := by
  have T := txt_of X G c
  obtain ⟨fd, F⟩ := T.fn_ 25 "law" s_law
  have e := hfa.symm.trans (T.g "law")
  cases e
  have b := FunD.bindsA (ps := ["script"]) F fun _ _ _ _ _ _ us hl => match us, hl with | [_], _ => rfl
  exact ⟨fd, fun s v => b s [v] rfl, fun base _ _ => ok_law T F⟩
end Kn
open PySem PySem.W PySem.Calls PyProof.Rows
theorem PySem.Challenge.cw_autobench_k99_errors_holds : PySem.Challenge.rw_autobench_k99_errors.Holds := by
  w_on; o_law
  refine HandSHeadRun.head_any (r := OpenLaw.row PySem.Challenge.rw_autobench_k99_errors) (q := view (OpenLaw.row PySem.Challenge.rw_autobench_k99_errors).prog [77]) (H := Kn.hookK) (ob := Kn.ob) (M := 20000) (loose := Kn.loose) (d := HandSHeadRun.topDef (OpenLaw.row PySem.Challenge.rw_autobench_k99_errors).prog 77) (kwd := []) Kn.ob_eq
    (by kernel_rfl) (fun s => by kernel_rfl) Kn.run (by kernel_rfl) (by kernel_rfl) (by kernel_rfl) (by rfl) (by first | assumption | decide +kernel) (by decide +kernel) ⟨rfl, rfl, rfl, rfl, rfl, by decide +kernel⟩ ?hw ?hc
  case hw => w_witness2
  case hc =>
    refine L2.walk_ofE (l := PySem.Challenge.rw_autobench_k99_errors) (n := 63) (k := 21) (x := "script") (CX := L2.CX0) rfl (by decide) (by kernel_rfl) ⟨rfl, by decide, by decide⟩ ?F (fun _ _ _ _ z => z)
    intro w mg fa h Y G hmg0
    obtain ⟨K, KX, c⟩ := Y
    have hmg : mg ("law" : PySem.Str) = some (.ref fa) := by
      have e : (HandSHeadRun.topDef (OpenLaw.row PySem.Challenge.rw_autobench_k99_errors).prog 77).name = ("law" : PySem.Str) := by kernel_rfl
      rw [← e]
      exact hmg0
    obtain ⟨fd, hb, hF⟩ := Kn.facts (P := (PySem.Challenge.rw_autobench_k99_errors).prog) (w := w) KX G hmg c
    exact ⟨K, fd, Kn.spLaw K, KX, hb, fun H a ns hl _ hS => ⟨a, ns, rfl, hS, hl, fun _ => rfl⟩, hF⟩

