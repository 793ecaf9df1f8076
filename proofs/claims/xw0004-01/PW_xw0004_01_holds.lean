import PyProof.Rows.All
import Wide.All
import OpenK.AllK
import Wide.FinOn
import PySem.Challenge.RW_xw0004_01
set_option Elab.async false
section
set_option maxRecDepth 100000
set_option maxHeartbeats 4000000
open PySem PySem.W PySem.Calls PyProof.Rows PySem.Spec Builtin Builtin.ObjectAttr
namespace Mine

/-- an exception object of an own class: t its arguments -/
abbrev excO (C : Addr) (od : Option Addr) (t : Addr) : Obj := { cls := .ref C, dict := od, data := .fields #[.ref t, .none, .none, .none, .bool false, .none] }

noncomputable def excTail : List Value → Bool
  | .ref _ :: r => excTail r
  | l => l == [.type "Exception", .type "BaseException", .type "object"]
theorem excTail_has {v : Value} (hv : [Value.type "Exception", .type "BaseException", .type "object"].contains v = true) : ∀ {l : List Value}, excTail l = true → l.contains v = true
  | .ref _ :: r, e => by rw [List.contains_cons, excTail_has hv (l := r) e, Bool.or_true]
  | [], e => by cases e
  | .type _ :: _, e => by rw [beq_iff_eq.mp (show (_ == _) = true from e)]; exact hv
  | .none :: _, e | .bool _ :: _, e | .int _ _ :: _, e | .float _ _ :: _, e | .str _ _ :: _, e | .bytes _ _ :: _, e | .builtin _ :: _, e => by
    have := beq_iff_eq.mp (show (_ == _) = true from e); cases this
theorem refuse_exc (self : Value) : ∀ {l : List Value}, excTail l = true → refuseLoop self "__setattr__" l = pure ()
  | .ref c :: r, e => by rw [refuseLoop_ref]; exact refuse_exc self (l := r) e
  | [], e => by cases e
  | .type _ :: _, e => by rw [beq_iff_eq.mp (show (_ == _) = true from e)]; exact PySem.F.store_Exception.passes self
  | .none :: _, e | .bool _ :: _, e | .int _ _ :: _, e | .float _ _ :: _, e | .str _ _ :: _, e | .bytes _ _ :: _, e | .builtin _ :: _, e => by
    have := beq_iff_eq.mp (show (_ == _) = true from e); cases this
/-- C is an own class under Exception, made by Exception.__new__ -/
noncomputable def xIn (K : Frag) (C : Addr) : Bool := match K.lookup C with
  | some ⟨.type "type", _, .cls cd, sl⟩ => (match cd.mro, sl.toList with
    | .ref C' :: bm, [_, _, _, _, some (.builtin n), _] => C' == C && n == "Exception.__new__" && !cd.hasDel && bm.contains (.type "BaseException") && bm.contains (.type "Exception") && !bm.contains (.type "AttributeError") && !bm.contains (.type "NameError")
    | _, _ => false)
  | _ => false
theorem x_cls {K : Frag} {h : Heap} {C : Addr} (X : K.In h) (q : xIn K C = true) : ∃ nm qn N bs bm hdct sn sub ab col dd k0 k1 k2 k3 k5,
    h.get? C = some (excClassObj nm qn C N bs bm hdct sn sub ab col dd k0 k1 k2 k3 k5 "Exception.__new__") ∧ bm.contains (.type "BaseException") = true ∧ bm.contains (.type "Exception") = true ∧
      bm.contains (.type "AttributeError") = false ∧ bm.contains (.type "NameError") = false := by
  unfold xIn at q
  split at q
  case h_2 => cases q
  rename_i dd cd sl ho
  split at q
  case h_2 => cases q
  rename_i C' bm k0 k1 k2 k3 n k5 hm hs
  simp only [Bool.and_eq_true, beq_iff_eq, Bool.not_eq_true'] at q
  obtain ⟨⟨⟨⟨⟨⟨rfl, rfl⟩, hdel⟩, hb⟩, he⟩, ha⟩, hn⟩ := q
  obtain ⟨nm, bs, mro, ns, qn, hd, sn, sub, ab, col, del⟩ := cd
  dsimp only at hm hdel
  subst hm hdel
  have hsl : sl = #[k0, k1, k2, k3, some (.builtin "Exception.__new__"), k5] := by
    cases sl
    exact congrArg Array.mk hs
  subst hsl
  exact ⟨nm, qn, ns, bs, bm, hd, sn, sub, ab, col, dd, k0, k1, k2, k3, k5, X _ _ ho, hb, he, ha, hn⟩
noncomputable def excOver (K : Frag) (C : Addr) : Bool := (clsIn K C).any fun cd => excTail cd.mro && cd.hasDict


section
variable {prog : Program} {w : World} {A : Around} {K : Frag} {C x : Addr} {s : Shared} {h₀ : Heap} {L : Addr} {m : Str → Option Value} {news : List (Addr × Obj)} {R : Result → Shared → Prop} {ox : Obj} {od : Option Obj} {name : Str} {tk : Tok} {v : Value}

theorem xosa_open (X : K.In s.heap) (I : InstAt s.heap x ox C od) (hp : excOver K C = true) (ha : findIn K (.ref C) name = some none)
    (h : wpAny (model prog w) A.in1 (storeInOwnDict (.ref x) (.ref C) (.str name tk) name v false)
      (fun fin s' => match fin with | .done f => R (.ok f) s' | .again c' => c'.quiet = true ∧ codeAny (model prog w) A c' R s') (fun e s' => R (.error e) s') s) :
    codeAny (model prog w) A (.call (.builtin "object.__setattr__") ⟨[.ref x, .str name tk, v], []⟩) R s := by
  have SF := PySem.F.store_object
  obtain ⟨cd, hc, ho⟩ := any_some hp
  obtain ⟨ho, hd⟩ := Bool.and_eq_true_iff.mp ho
  have hobj : cd.mro.contains (.type "object") = true := excTail_has (by decide) ho
  have ne : cd.mro.isEmpty = false := by cases q : cd.mro with | nil => rw [q] at ho; cases ho | cons _ _ => rfl
  have sub : Looks (model prog w) s.heap (isInstance (.ref x) (.type "object")) true := I.type.andThen (looks_mroIn X (by unfold mroIn; rw [hc, Option.bind_some, if_neg (by rw [ne]; decide), hobj]))
  refine codeAny_call_builtin SF.slot.plain SF.entry (@check_slot (model prog w) _ _ s "object.__setattr__" "object" "__setattr__" (.ref x) [.str name tk, v] [] _ SF.kind SF.split sub (SF.args (.ref x) (.str name tk) v) ?_)
  have hm : Looks (model prog w) s.heap (mroOf (.ref C)) cd.mro := (looks_clsIn X hc).andThen .now
  rw [osa_eq, refuse_eq]
  refine wpAny_bind (wpAny_bind (I.type.here (wpAny_bind (hm.here ?_))))
  rw [refuse_exc _ ho]
  exact wpAny_pure (wpAny_bind (I.type.here (wpAny_bind ((looks_findIn X ha).here (wpAny_bind (wpAny_pure h))))))

/-- the namespace that an object is, kept apart from the heap that holds it -/
def NsO (o : Obj) (mA : Str → Option Value) : Prop := ∃ es ep, o.data = .dict es ep ∧ StrKeys es ∧ UniqKeys es ∧ ∀ name, nsFind es name = mA name
theorem NsO.at {h : Heap} {d : Addr} {o : Obj} {mA : Str → Option Value} (n : NsO o mA) (e : h.get? d = some o) : h.Ns1 d mA := let ⟨es, ep, a, b, c, f⟩ := n; ⟨o, es, ep, e, a, b, c, f⟩
theorem NsO.of {h : Heap} {d : Addr} {mA : Str → Option Value} (n : h.Ns1 d mA) : ∃ o, h.get? d = some o ∧ NsO o mA := let ⟨o, es, ep, e, a, b, c, f⟩ := n; ⟨o, e, es, ep, a, b, c, f⟩

/-- a further attribute of an exception whose dict stands -/
theorem xset_more {e d : Addr} {oe o : Obj} {vs : Array Value} {mA : Str → Option Value} {ns : List Str} {Q : Unit → Shared → Prop} {E : Value → Shared → Prop} (F : Fr h₀ L s.heap m) (X₀ : K.In h₀) (N : News h₀ L s.heap ((e, oe) :: (d, o) :: news))
    (hcl : oe.cls = .ref C) (hdt : oe.data = .fields vs) (hdd : oe.dict = some d) (hn : NsO o mA) (hne : ∀ p ∈ (e, oe) :: news, p.1 ≠ d)
    (hp : excOver K C = true) (hs : findIn K (.ref C) "__setattr__" = some (some (.builtin "object.__setattr__"))) (ha : findIn K (.ref C) name = some none) (hw : Within mA ns) (hsz : ns.length ≤ 1000)
    (h : ∀ h' tk' o', Fr h₀ L h' m → News h₀ L h' ((e, oe) :: (d, o') :: news) → NsO o' (fun y => if y = name then some v else mA y) → Q () { s with heap := h', toks := tk' }) :
    wpAny (model prog w) A (setAttr (.ref e) name v) Q E s := by
  have X := X₀.keeps F.keep
  have he := (N _ (.head _)).1
  have hd := (N _ (.tail _ (.head _))).1
  have I : InstAt s.heap e oe C (some o) := ⟨he, hcl, by unfold notCls; rw [hdt], by rw [hdd]; exact hd⟩
  refine set_plain X I hs (xosa_open (s := { s with toks := s.toks + 1 }) X I hp ha ?_)
  obtain ⟨cd, hc, ho⟩ := any_some hp
  have hdict := (Bool.and_eq_true_iff.mp ho).2
  obtain ⟨oc, odi, oda, osl⟩ := oe
  dsimp only at hcl hdd hdt
  subst hcl hdd hdt
  refine wpAny_bind (wpAny_pure (wpAny_bind (wpAny_bind (wpAny_loadPart he (wpAny_bind (looks_clsIn X hc _ _ _ _ (fun _ _ e => e) ?_))))))
  rw [hdict]
  refine wpAny_pure (a := some d) ?_
  show wpAny _ _ (storeInDict d (.str name s.toks) name v) _ _ _
  unfold storeInDict newKeyGuard
  refine wpAny_bind (wpAny_pure (wpAny_bind (wpAny_nsSet1 (hn.at hd) fun h' hn' hsb => ?_)))
  obtain ⟨oD, esD, epD, hoD, hdD, hcD⟩ := hn'.count (Within.cons name v hw)
  refine wpAny_bind (wpAny_lookBehind hoD (by rw [hdD]; exact pastItsLine_dict (Nat.le_trans hcD (by rw [List.length_cons, sizeLine_eq]; omega))) ?_)
  obtain ⟨o', ho', no'⟩ := NsO.of hn'
  obtain ⟨oL, es, ep, hL, r⟩ := F.ns
  have hdL : d ≠ L := (N _ (.tail _ (.head _))).2.1
  refine wpAny_pure (h h' _ o' ⟨⟨oL, es, ep, (hsb.2 L (Ne.symm hdL)).trans hL, r⟩, fun b ob q => (hsb.2 b fun z => ?_).trans (F.keep b ob q), F.above⟩ (fun p hp => ?_) no')
  · rw [z, (N _ (.tail _ (.head _))).2.2] at q; cases q
  · rcases List.mem_cons.mp hp with rfl | hp
    · have P := N _ (List.Mem.head _)
      exact ⟨(hsb.2 e (hne _ (.head _))).trans P.1, P.2⟩
    rcases List.mem_cons.mp hp with rfl | hp
    · exact ⟨ho', (N _ (.tail _ (.head _))).2⟩
    · have P := N _ (.tail _ (.tail _ hp))
      exact ⟨(hsb.2 p.1 (hne _ (.tail _ hp))).trans P.1, P.2⟩

/-- the first attribute of an exception: its dict is made -/
theorem xset_first {e : Addr} {oe : Obj} {vs : Array Value} {Q : Unit → Shared → Prop} {E : Value → Shared → Prop} (F : Fr h₀ L s.heap m) (X₀ : K.In h₀) (N : News h₀ L s.heap ((e, oe) :: news))
    (hcl : oe.cls = .ref C) (hdt : oe.data = .fields vs) (hdd : oe.dict = none) (hne : ∀ p ∈ news, p.1 ≠ e)
    (hp : excOver K C = true) (hs : findIn K (.ref C) "__setattr__" = some (some (.builtin "object.__setattr__"))) (ha : findIn K (.ref C) name = some none)
    (h : ∀ h' tk' d o', (∀ p ∈ (e, { oe with dict := some d }) :: news, p.1 < d) → Fr h₀ L h' m → News h₀ L h' ((e, { oe with dict := some d }) :: (d, o') :: news) → NsO o' (fun y => if y = name then some v else none) → Q () { s with heap := h', toks := tk' }) :
    wpAny (model prog w) A (setAttr (.ref e) name v) Q E s := by
  have X := X₀.keeps F.keep
  have he := (N _ (.head _)).1
  have I : InstAt s.heap e oe C none := ⟨he, hcl, by unfold notCls; rw [hdt], by rw [hdd]; trivial⟩
  refine set_plain X I hs (xosa_open (s := { s with toks := s.toks + 1 }) X I hp ha ?_)
  obtain ⟨cd, hc, ho⟩ := any_some hp
  have hdict := (Bool.and_eq_true_iff.mp ho).2
  obtain ⟨oc, odi, oda, osl⟩ := oe
  dsimp only at hcl hdd hdt
  subst hcl hdd hdt
  refine wpAny_bind (wpAny_pure (wpAny_bind (wpAny_bind (wpAny_loadPart he (wpAny_bind (looks_clsIn X hc _ _ _ _ (fun _ _ e => e) ?_))))))
  rw [hdict]
  obtain ⟨hh, g, dr, t, os⟩ := s
  have hes : e ≠ hh.objs.size := Nat.ne_of_lt (Heap.lt_size he)
  have hx₁ : (hh.push { cls := .type "dict", data := .dict #[] }).get? e = some _ := Heap.get?_push_of_some _ he
  refine wpAny_bind (wpAny_alloc' (wpAny_bind (wpAny_update' hx₁ (wpAny_pure ?_))))
  have hgd : ((hh.push { cls := .type "dict", data := .dict #[] }).update e fun o => { cls := o.cls, dict := some hh.objs.size, data := o.data, slots := o.slots }).get? hh.objs.size
      = some { cls := .type "dict", data := .dict #[] } :=
    (Heap.get?_update_ne _ _ _ _ hes.symm).trans (Heap.get?_push_at rfl rfl)
  have hnd : ((hh.push { cls := .type "dict", data := .dict #[] }).update e fun o => { cls := o.cls, dict := some hh.objs.size, data := o.data, slots := o.slots }).Ns hh.objs.size (fun _ => none) :=
    ⟨_, #[], _, hgd, rfl, fun e he => absurd he (by simp), fun _ => rfl⟩
  have heu : ((hh.push { cls := .type "dict", data := .dict #[] }).update e fun o => { cls := o.cls, dict := some hh.objs.size, data := o.data, slots := o.slots }).get? e
      = some { cls := .ref C, dict := some hh.objs.size, data := .fields vs, slots := osl } := Heap.get?_update_self _ hx₁ rfl
  show wpAny _ _ (storeInDict hh.objs.size (.str name t) name v) _ _ _
  unfold storeInDict newKeyGuard
  refine wpAny_bind (wpAny_pure (wpAny_bind (wpAny_nsSet1 (Heap.Ns1.of_empty hnd) fun h' hn' hsb => ?_)))
  obtain ⟨oD, esD, epD, hoD, hdD, hcD⟩ := hn'.count (Within.cons name v Within.nil)
  refine wpAny_bind (wpAny_lookBehind hoD (by rw [hdD]; exact pastItsLine_dict (Nat.le_trans hcD (by rw [List.length_cons, List.length_nil, sizeLine_eq]; omega))) ?_)
  obtain ⟨o', ho', no'⟩ := NsO.of hn'
  have old : ∀ b ob, b ≠ e → hh.get? b = some ob → h'.get? b = some ob := fun b ob n q =>
    (hsb.2 b (Nat.ne_of_lt (Heap.lt_size q))).trans ((Heap.get?_update_ne _ _ _ _ n).trans (Heap.get?_push_of_some _ q))
  obtain ⟨oL, es, ep, hL, r⟩ := F.ns
  have heL : e ≠ L := (N _ (.head _)).2.1
  have hLs : L < hh.objs.size := Heap.lt_size hL
  refine wpAny_pure (h h' _ hh.objs.size o' (List.forall_mem_cons.mpr ⟨Heap.lt_size he, fun p hp => Heap.lt_size (N p (.tail _ hp)).1⟩) ⟨⟨oL, es, ep, old L oL (Ne.symm heL) hL, r⟩, fun b ob q => old b ob (fun z => ?_) (F.keep b ob q), F.above⟩ (fun p hp => ?_) no')
  · rw [z, (N _ (.head _)).2.2] at q; cases q
  · rcases List.mem_cons.mp hp with rfl | hp
    · exact ⟨(hsb.2 e hes).trans heu, (N _ (.head _)).2⟩
    rcases List.mem_cons.mp hp with rfl | hp
    · refine ⟨ho', (Nat.ne_of_lt hLs).symm, ?_⟩
      cases q : h₀.get? hh.objs.size with
      | none => rfl
      | some o => exact absurd (Heap.lt_size (F.keep _ _ q)) (Nat.lt_irrefl _)
    · have P := N _ (.tail _ hp)
      exact ⟨old _ _ (hne _ hp) P.1, P.2⟩

theorem xinit_check {M : Model} {h : Heap} {g : Array GenState} {d : Drawn} {t : Nat} {os : OsState} {e : Addr} {oe : Obj} {rest : List Value} {Q : Unit → Shared → Prop} {E : Value → Shared → Prop} (X : K.In h) (q : xIn K C = true)
    (he : h.get? e = some oe) (hcls : oe.cls = .ref C) (hq : Q () ⟨h, g, d, t, os⟩) : wpAny M A (checkBuiltinCall "Exception.__init__" ⟨.ref e :: rest, []⟩) Q E ⟨h, g, d, t, os⟩ := by
  have G := PySem.F.excBase_Exception
  obtain ⟨nm, qn, N, bs, bm, hdct, sn, sub, ab, col, dd, k0, k1, k2, k3, k5, hC, hB, hT, _, _⟩ := x_cls X q
  have hcB : (Value.ref C :: bm).contains (.type "Exception") = true := by rw [List.contains_cons, hT, Bool.or_true]
  simp only [checkBuiltinCall, G.initKind, G.initSplit, G.initRow]
  repeat (first | (with_reducible refine wpAny_loadPart_at he ?_; rw [hcls]) | with_reducible refine wpAny_loadPart_at hC ?_ | (with_reducible refine wpAny_isSubtype_exc hC ?_; rw [hcB]) | wp_step)
  refine wpAny_onRaise ?_
  rw [show ∀ (a b : String) (n : Nat), Bind.check ⟨.positional, "*", "Exception", .self, [⟨"args", .varPos, false⟩]⟩ a b n (List.map (fun x => x.fst) ({ pos := Value.ref e :: rest } : Args).kw) = pure () from
    fun a b n => check_star_args _ _ _ _ _ _]
  exact wpAny_pure hq

/-- Exception.__init__(self, v) upon an exception of the call's own -/
theorem xinit_call {e t : Addr} {od : Option Addr} {Q : Value → Shared → Prop} {E : Value → Shared → Prop} (F : Fr h₀ L s.heap m) (X₀ : K.In h₀) (N : News h₀ L s.heap ((e, excO C od t) :: news)) (hne : ∀ p ∈ news, p.1 ≠ e)
    (q : xIn K C = true)
    (h : ∀ h' t', (∀ p ∈ (e, excO C od t) :: news, p.1 < t') → Fr h₀ L h' m → News h₀ L h' ((e, excO C od t') :: (t', { cls := .type "tuple", data := .seq [v].toArray }) :: news) → Q .none { s with heap := h' }) :
    wpAny (model prog w) A (call (.builtin "Exception.__init__") [.ref e, v]) Q E s := by
  have X := X₀.keeps F.keep
  have G := PySem.F.excBase_Exception
  have he := (N _ (.head _)).1
  obtain ⟨hh, g, dr, tk, os⟩ := s
  refine wpAny_call (codeAny_call_builtin G.init.plain G.initEntry (xinit_check X q he rfl ?_))
  have hes : e ≠ hh.objs.size := Nat.ne_of_lt (Heap.lt_size he)
  unfold Builtin.«BaseException.__init__»
  have he1 : (hh.push { cls := .type "tuple", data := .seq [v].toArray }).get? e = some (excO C od t) := Heap.get?_push_of_some _ he
  wp_walk
  have heu : ((hh.push { cls := .type "tuple", data := .seq [v].toArray }).update e (Obj.mapFields fun x => x.setIfInBounds 0 (Value.ref hh.objs.size))).get? e = some (excO C od hh.objs.size) := Heap.get?_update_self _ he1 rfl
  have old : ∀ b ob, b ≠ e → hh.get? b = some ob → ((hh.push { cls := .type "tuple", data := .seq [v].toArray }).update e (Obj.mapFields fun x => x.setIfInBounds 0 (Value.ref hh.objs.size))).get? b = some ob := fun b ob n z =>
    (Heap.get?_update_ne _ _ _ _ n).trans (Heap.get?_push_of_some _ z)
  obtain ⟨oL, es, ep, hL, r⟩ := F.ns
  have heL : e ≠ L := (N _ (.head _)).2.1
  have hLs : L < hh.objs.size := Heap.lt_size hL
  refine h _ hh.objs.size (fun p hp => Heap.lt_size (N p hp).1) ⟨⟨oL, es, ep, old L oL (Ne.symm heL) hL, r⟩, fun b ob z => old b ob (fun y => ?_) (F.keep b ob z), F.above⟩ (fun p hp => ?_)
  · rw [y, (N _ (.head _)).2.2] at z; cases z
  · rcases List.mem_cons.mp hp with rfl | hp
    · exact ⟨heu, (N _ (.head _)).2⟩
    rcases List.mem_cons.mp hp with rfl | hp
    · refine ⟨(Heap.get?_update_ne _ _ _ _ hes.symm).trans (Heap.get?_push_at rfl rfl), (Nat.ne_of_lt hLs).symm, ?_⟩
      cases z : h₀.get? hh.objs.size with
      | none => rfl
      | some o => exact absurd (Heap.lt_size (F.keep _ _ z)) (Nat.lt_irrefl _)
    · have P := N _ (.tail _ hp)
      exact ⟨old _ _ (hne _ hp) P.1, P.2⟩

end
end Mine
end
section
set_option maxRecDepth 100000
set_option maxHeartbeats 4000000
open PySem PySem.W PySem.Calls PyProof.Rows PySem.Spec Builtin Builtin.ObjectAttr
namespace Mine
section
variable {prog : Program} {w : World} {A : Around} {K : Frag} {C x : Addr} {s : Shared} {h₀ : Heap} {L : Addr} {m : Str → Option Value} {news : List (Addr × Obj)} {R : Result → Shared → Prop} {ox : Obj} {od : Option Obj} {name : Str} {tk : Tok} {v : Value}
/-- making an exception of an own class whose __init__ is a def: the object as it stands when __init__ is called -/
theorem xmake_call {rest : List Value} {fI : Addr} {Q : Value → Shared → Prop} {E : Value → Shared → Prop} (F : Fr h₀ L s.heap m) (X₀ : K.In h₀) (N : News h₀ L s.heap news) (q : xIn K C = true)
    (hi : findIn K (.ref C) "__init__" = some (some (.ref fI))) (hf : typeIn K (.ref fI) = some (.type "function"))
    (h : ∀ e t h', (∀ p ∈ news, p.1 < t) → t < e → Fr h₀ L h' m → News h₀ L h' ((e, excO C none t) :: (t, { cls := .type "tuple", data := .seq rest.toArray }) :: news) →
      codeAny (model prog w) (A.under (.builtin "type.__call__" ⟨.ref C :: rest, []⟩)) (.call (.ref fI) ⟨.ref e :: rest, []⟩) (InitBack e fun r s' => match r with | .ok (.ret v) => Q v s' | .ok _ => False | .error e => E e s') { s with heap := h' }) (hrest : rest.length ≤ sizeLine := by size_fits) :
    wpAny (model prog w) A (call (.ref C) rest) Q E s := by
  have X := X₀.keeps F.keep
  have G := PySem.F.excBase_Exception
  have hends := G.ends
  have hstar := G.noStar
  have hI := looks_findIn (M := model prog w) X hi
  have hB : ∀ self, Looks (model prog w) s.heap (bindSpecial (.ref fI) self) (.ref fI, [self]) := fun self => bind_fn X self hf
  obtain ⟨nm, qn, Nn, bs, bm, hdct, sn, sub, ab, col, dd, k0, k1, k2, k3, k5, hC, hb1, hb2, hb3, hb4⟩ := x_cls X q
  have hcB : (Value.ref C :: bm).contains (.type "Exception") = true := by rw [List.contains_cons, hb2, Bool.or_true]
  have hcA : (Value.ref C :: bm).contains (.type "AttributeError") = false := by rw [List.contains_cons, hb3]; rfl
  have hcN : (Value.ref C :: bm).contains (.type "NameError") = false := by rw [List.contains_cons, hb4]; rfl
  have hcC : (Value.ref C :: bm).contains (.ref C) = true := by simp
  obtain ⟨hh, g, d, t, os⟩ := s
  have f1 := tc_lookup
  have f2 := PySem.tc_bind (.ref C)
  have hT : (⟨hh, g, d, t, os⟩ : Shared).TypeIs (.ref C) "type" := ⟨_, hC, rfl⟩
  refine wpAny_call (codeAny_of_tree ?_)
  show wpAny _ _ (callAny (.ref C) _) _ _ _
  repeat (any_goals (first | assumption | with_reducible refine wpAny_loadPart_at hC ?_ | wp_step))
  refine ⟨rfl, ?_⟩
  refine codeAny_call_builtin_at (Code.quiet_builtin _ (by decide +kernel)) entry_typeCall (wpAny_check_type_call_sub hC ?_)
  repeat (first | with_reducible refine wpAny_loadPart_at hC ?_ | with_reducible refine wpAny_madeBy_exc hC ?_ | wp_step)
  refine codeAny_call_builtin_code (Code.quiet_builtin _ G.quiet) ?_
  simp only [checkBuiltinCall, G.newKind, G.newSplit, G.newRow]
  repeat (first | refine wpAny_loadPart_at hC ?_ | (refine wpAny_isSubtype_exc hC ?_; rw [hcB]) | refine wpAny_staticBase_exc hC ?_ | refine wpAny_madeBy_exc hC ?_ | simp only [bne_self_eq_false, Bool.false_eq_true, if_false] | wp_step)
  show codeAny _ _ (.builtin "Exception.__new__" ⟨.ref C :: rest, []⟩) _ _
  refine PySem.codeAny_builtinAt G.entry ?_
  unfold Builtin.«BaseException.__new__»
  refine PySem.wpAt_bind ?_
  show PySem.wpAt _ _ _ (stack >>= _) _ _ _
  refine PySem.wpAt_bind (PySem.wpAt_stack fun p below => PySem.wpAt_of_wpAny ?_)
  wp_walk
  refine PySem.wpAt_of_wpAny ?_
  rw [G.owner]
  repeat (first | with_reducible refine wpAny_madeHere_exc G.canon hC ?_ | with_reducible refine wpAny_loadPart_at hC ?_ | (with_reducible refine wpAny_isSubtype_exc hC ?_; first | rw [hcB] | rw [hcA] | rw [hcN]) | wp_step)
  have k : ∀ b o, hh.get? b = some o → ((hh.push { cls := .type "tuple", data := .seq rest.toArray }).push (excO C none hh.objs.size)).get? b = some o := fun b o z => Heap.get?_push_of_some _ (Heap.get?_push_of_some _ z)
  have hC1 := k _ _ hC
  have hget : ((hh.push { cls := .type "tuple", data := .seq rest.toArray }).push (excO C none hh.objs.size)).get? (hh.objs.size + 1) = some (excO C none hh.objs.size) := by heap_get
  have htup : ((hh.push { cls := .type "tuple", data := .seq rest.toArray }).push (excO C none hh.objs.size)).get? hh.objs.size = some { cls := .type "tuple", data := .seq rest.toArray } := Heap.get?_push_of_some _ (Heap.get?_push_at rfl rfl)
  have t1 : Looks (model prog w) ((hh.push { cls := .type "tuple", data := .seq rest.toArray }).push (excO C none hh.objs.size)) (typeOf (.ref (hh.objs.size + 1))) (.ref C) := (Looks.ld hget).andThen .now
  have i1 := hI.keeps k
  have b1 := (hB (.ref (hh.objs.size + 1))).keeps k
  show wpAny _ _ (isSubtype (.ref C) (.ref C)) _ _ ⟨(hh.push { cls := .type "tuple", data := .seq rest.toArray }).push (excO C none hh.objs.size), g, d, t, os⟩
  refine wpAny_isSubtype_exc hC1 ?_
  rw [hcC, Heap.size_push]
  unfold callSpecial? specialOf
  repeat (first | with_reducible refine wpAny_call ?_ | lk)
  have F1 := F.grownK k
  have n0 : ∀ {b : Addr}, hh.get? b = none → h₀.get? b = none := fun {b} z => by
    cases y : h₀.get? b with
    | none => rfl
    | some o => rw [F.keep b o y] at z; cases z
  obtain ⟨oL, _, _, hL, _⟩ := F.ns
  have hLs : L < hh.objs.size := Heap.lt_size hL
  refine codeAny_mono (h (hh.objs.size + 1) hh.objs.size _ (fun p hp => Heap.lt_size (N p hp).1) (Nat.lt_succ_self _) F1 (fun p hp => ?_)) (fun r s' z => ?_)
  · rcases List.mem_cons.mp hp with rfl | hp
    · exact ⟨hget, Nat.ne_of_gt (Nat.lt_succ_of_lt hLs), n0 (Heap.get?_none_of_le (Nat.le_succ _))⟩
    rcases List.mem_cons.mp hp with rfl | hp
    · exact ⟨htup, Nat.ne_of_gt hLs, n0 (Heap.get?_none_of_le (Nat.le_refl _))⟩
    · have P := N _ hp
      exact ⟨k _ _ P.1, P.2⟩
  · rcases r with e | (v | _ | _ | _) <;> first | exact z | exact z.elim | skip
    obtain ⟨rfl, z⟩ := z
    exact wpAny_pure (wpAny_pure z)
end
end Mine
end
section
set_option maxRecDepth 100000
set_option maxHeartbeats 4000000
open PySem PySem.W PySem.Calls PyProof.Rows PySem.Spec Builtin Builtin.ObjectAttr
namespace Mine

section
variable {M : Model} {A : Around} {E : Value → Shared → Prop} {s : Shared} {env : Env} {K : Frag} {C : Addr}

/-- what a raise asks of a value that is an exception of an own class -/
def XRaisable (K : Frag) (C : Addr) (E : Value → Shared → Prop) (v : Value) (s₁ : Shared) : Prop :=
  ∃ e od t sl, v = .ref e ∧ K.In s₁.heap ∧ s₁.heap.get? e = some { cls := .ref C, dict := od, data := .fields #[.ref t, .none, .none, .none, .bool false, .none], slots := sl } ∧ E (.ref e) s₁

theorem xraise {e₀ : PySem.Expr} {pos : Pos} {Q : Flow → Shared → Prop} {h₁ : Heap} (_X : K.In h₁) (q : xIn K C = true) (hh : A.handled = none) (h : wpAny M A (eval e₀ env) (XRaisable K C E) E s) : wpAny M A (exec (.Raise (some e₀) none pos) env) Q E s := by
  rw [arm_exec_Raise]
  refine wpAny_bind (wpAny_standAt ?_)
  show wpAny M A (raiseStmt env (some (do let v ← eval e₀ env; standAt pos; pure v)) none) Q E s
  unfold raiseStmt
  refine wpAny_bind (wpAny_bind (wpAny_mono h (fun v s₁ h₁ => wpAny_bind (wpAny_standAt (wpAny_pure ?_))) fun _ _ z => z))
  obtain ⟨e, od, t, sl, rfl, X, he, hE⟩ := h₁
  obtain ⟨nm, qn, Nn, bs, bm, hdct, sn, sub, ab, col, dd, k0, k1, k2, k3, k5, hC, hb1, hb2, hb3, hb4⟩ := x_cls X q
  have hcB : (Value.ref C :: bm).contains (.type "BaseException") = true := by rw [List.contains_cons, hb1, Bool.or_true]
  obtain ⟨hp, g, d, tk, os⟩ := s₁
  repeat (first | with_reducible refine wpAny_loadPart_at he ?_ | with_reducible refine wpAny_loadPart_at hC ?_ | (with_reducible refine wpAny_isSubtype_exc hC ?_; rw [hcB]) | wp_step)
  exact wpAny_raiseNew_none hh hE
end

section
variable {M : Model} {A : Around} {E : Value → Shared → Prop} {s' : Shared} {base g : Heap} {outer : List Env} {L a e t C : Addr} {m : Str → Option Value} {name : Str} {scope : Scope} {cd : Value} {Q : Unit → Shared → Prop} {news news' : List (Addr × Obj)} {oe : Obj} {fs : Array Value} {vs : List Value}

/-- an exception of the frame's own ledger leaves the frame -/
theorem xleave (K : Below A base outer g) (F : Fr g L s'.heap m) (N : News g L s'.heap news') (he : (e, oe) ∈ news') (hcl : oe.cls = .ref C) (hd : oe.data = .fields fs) (h0 : fs[0]? = some (.ref t)) (h1 : fs[1]? = some .none)
    (ht : (t, ({ cls := .type "tuple", data := .seq vs.toArray } : Obj)) ∈ news') (hs : ∀ p ∈ news, p ∈ news') (hne : ∀ p ∈ news, p.1 ≠ e ∧ p.1 ≠ t)
    (hQ : ∀ h', RaisedS base g outer e (.ref C) t vs news h' → g.UpToSlots h' → Q () { s' with heap := h' }) (hk : scope.kind = .function := by rfl) :
    wpAny M (A.deeper (envOf name scope L a cd)) (leaving (envOf name scope L a cd) (.ref e)) Q E s' := by
  have K' := K.push (name := name) (a := a) (cd := cd) F hk
  have Ne := N _ he
  have Nt := N _ ht
  have hin : ∀ env ∈ (envOf name scope L a cd :: outer), ∀ b, env.frame = some b → b ∈ e :: t :: (envOf name scope L a cd :: outer).filterMap (·.frame) := fun env hm b hb => .tail _ (.tail _ (List.mem_filterMap.mpr ⟨env, hm, hb⟩))
  have off : ∀ b, b ≠ e → b ≠ t → b ∉ (envOf name scope L a cd :: outer).filterMap (·.frame) → b ∉ e :: t :: (envOf name scope L a cd :: outer).filterMap (·.frame) := fun b n1 n2 n3 z => by
    rcases List.mem_cons.mp z with z | z
    · exact n1 z
    rcases List.mem_cons.mp z with z | z
    · exact n2 z
    · exact n3 z
  have st : base.StaysIn (hideAll s'.heap (e :: t :: (envOf name scope L a cd :: outer).filterMap (·.frame))) := fun b o q => hideAll_get _ (K'.stays b o q) (off b
    (fun z => by rw [z, fresh_of_stays K.stays Ne.2.2] at q; cases q) (fun z => by rw [z, fresh_of_stays K.stays Nt.2.2] at q; cases q) fun hm => by
      rw [(K'.frames.mem hm).1] at q; cases q)
  have sg : ∀ b o, g.get? b = some o → b ∉ outer.filterMap (·.frame) → (hideAll s'.heap (e :: t :: (envOf name scope L a cd :: outer).filterMap (·.frame))).get? b = some o := fun b o q nm => hideAll_get _ (F.keep b o q) (off b
    (fun z => by rw [z, Ne.2.2] at q; cases q) (fun z => by rw [z, Nt.2.2] at q; cases q) fun hm => by
      rcases kts_mem hm with z | z
      · rw [z, kts_self F] at q
        cases q
      · exact nm z)
  have hl : ∀ q ∈ news, (hideAll s'.heap (e :: t :: (envOf name scope L a cd :: outer).filterMap (·.frame))).get? q.1 = some q.2 ∧ g.get? q.1 = none ∧ base.get? q.1 = none := fun q hq => by
    have P := N _ (hs q hq)
    refine ⟨hideAll_get _ P.1 (off _ (hne q hq).1 (hne q hq).2 fun hm => ?_), P.2.2, fresh_of_stays K.stays P.2.2⟩
    obtain ⟨env, hv, hf⟩ := List.mem_filterMap.mp hm
    rcases List.mem_cons.mp hv with rfl | hv
    · exact P.2.1 (Option.some.inj hf).symm
    · obtain ⟨o, ho, _⟩ := (K.frames.mem (List.mem_filterMap.mpr ⟨env, hv, hf⟩)).2
      rw [P.2.2] at ho; cases ho
  refine wpAny_leaving_firstW (a0 := .ref t) K'.stack (funFrames_hide K'.frames hin) rfl Ne.1 (fun b o q => of_hideAll _ q) (hideAll_none _ (.head _)) hd h1 h0 fun h' hL => ?_
  obtain ⟨k1, ⟨_, _, k2⟩, k3, k4⟩ := hL
  rw [hcl] at k3
  exact hQ h' ⟨⟨_, st, sg, hl, ⟨k1, hideAll_none _ (.head _), k2, k3⟩, hideAll_none _ (.tail _ (.head _))⟩, Heap.TupAt.of_slots ⟨_, _, Nt.1, rfl, rfl⟩ k4⟩ ((Heap.UpToSlots.of_keeps F.keep).trans k4)
end
end Mine
end
section
set_option maxRecDepth 100000
set_option maxHeartbeats 4000000
open PySem PySem.W PySem.Calls PyProof.Rows PySem.Spec Builtin Builtin.ObjectAttr
namespace Mine

section
variable {prog : Program} {w : World} {A₀ A : Around} {s : Shared} {base h₀ : Heap} {env : Env} {outer : List Env} {L a : Addr} {m : Str → Option Value} {news : List (Addr × Obj)} {K : Frag} {p : Program} {loose : List Str} {mean : ExcName → Option Value} {mg mb : Str → Option Value}
  {R : Result → Shared → Prop} {name qual : Str} {params : Arguments} {body : List Stmt} {scope : Scope} {dV kV doc pm cdv ct oc : Value} {an od : Option Addr} {osl : Array (Option Value)} {f : Addr} {args : Args} {binds : List (Str × Value)}

/-- a def that catches, called from the law's own frame: nothing of the caller's ledger is at hand within, all of it stands behind -/
theorem enterT (B : Below A₀ base [] h₀) (F : Fr h₀ L s.heap m) (X₀ : K.In h₀) (N : News h₀ L s.heap news) (T : Top p loose mean mg mb h₀) (hA : A.frames = some [env]) (hf : env.frame = some L) (hke : env.scope.kind = .function)
    (ho : K.lookup f = some ⟨oc, od, .func (fnOf name qual params body scope dV kV doc pm an cdv ct), osl⟩) (hcd : codeIn K cdv qual = true) (hroom : A.depth < recursionLimit)
    (hbind : BindsTo s (fnOf name qual params body scope dV kV doc pm an cdv ct) args binds) (hloc : ∀ y ∈ binds, scope.names.lookup y.1 = some .local)
    (h : ∀ g L' h₁, Fr g L' h₁ (fun y => binds.reverse.lookup y) → News g L' h₁ [] → Below A base [env] g → K.In g → Top p loose mean mg mb g → KtsDicts ([env].filterMap (·.frame)) g →
      wpAny (model prog w) (A.deeper (envOf qual scope L' f cdv)) (execs body (envOf qual scope L' f cdv))
        (fun fl s' => LeaveS0 ([env].filterMap (·.frame)) h₀ L m g (fun r s'' => News h₀ L s''.heap news → R r s'') (match fl with | .ret v => v | _ => .none) s')
        (fun e s' => wpAny (model prog w) (A.deeper (envOf qual scope L' f cdv)) (leaving (envOf qual scope L' f cdv) e) (fun _ s'' => R (.error e) s'') (fun e' s'' => R (.error e') s'') s')
        { s with heap := h₁, toks := s.toks + binds.length })
    (hco : scope.isCoroutine = false) (hgen : scope.isGenerator = false) (hk : scope.kind = .function)
    (hcell : ∀ x ∈ scope.names, x.2 ≠ .cell) : codeAny (model prog w) A (.call (.ref f) args) R s := by
  have X := X₀.keeps F.keep
  have hfs : [env].filterMap (·.frame) = [L] := by simp [hf]
  have B1 := (pushX B F hf hke).frames
  have B2 : Below A base [env] s.heap := ⟨hA, fun b o e => F.keep b o (B.stays b o e), B1⟩
  obtain ⟨oL, es, ep, hL, hLd, hLk, hLf⟩ := F.ns
  have nL : h₀.get? L = none := kts_self F
  refine codeAny_call_def (fd := fnOf name qual params body scope dV kV doc pm an cdv ct) (body := body) (binds := binds) hroom (X _ _ ho) rfl (T.nolimit.keeps F.keep) (codeRec_of X hcd) rfl hbind hcell hloc (fun h₁ hns hk₁ => ?_) hco hgen hk
  refine wpAny_mono (h s.heap s.heap.objs.size h₁ ⟨hns, hk₁, Nat.le_refl _⟩ News.nil B2 X (T.keeps F.keep) (fun b hb => ?_)) (fun fl s' hl => ?_) fun _ _ y => y
  · rw [hfs, List.mem_singleton] at hb
    exact ⟨oL, es, ep, hb ▸ hL, hLd⟩
  · obtain ⟨g', L', m', news', T', F', N', k⟩ := hl
    rw [hfs] at T'
    obtain ⟨sl, hs⟩ := T'.up hL
    have up : ∀ b o, b ≠ L → s.heap.get? b = some o → s'.heap.get? b = some o := fun b o n e => F'.keep b o (T'.other b o e (by simpa using n))
    refine k ⟨⟨_, es, ep, F'.keep _ _ hs, hLd, hLk, hLf⟩, fun b o e => up b o (fun z => ?_) (F.keep b o e), F.above⟩ (fun q hq => ⟨(N' q hq).1, fun z => ?_, ?_⟩) (fun q hq => ⟨up _ _ (N q hq).2.1 (N q hq).1, (N q hq).2⟩)
    · rw [z, nL] at e; cases e
    · have := (N' q hq).2.2; rw [z, hs] at this; cases this
    · cases z : h₀.get? q.1 with
      | none => rfl
      | some o =>
        obtain ⟨sl', hs'⟩ := T'.up (F.keep _ _ z)
        have := (N' q hq).2.2
        rw [hs'] at this
        cases this
end
end Mine
end
section
set_option maxRecDepth 100000
set_option maxHeartbeats 4000000
open PySem PySem.W PySem.Calls PyProof.Rows PySem.Spec Builtin Builtin.ObjectAttr
namespace Mine

section
variable {prog : Program} {w : World} {A : Around} {E : Value → Shared → Prop} {s : Shared} {env : Env} {x : Str} {body : List Stmt} {Q : Flow → Shared → Prop} {I : Addr} {n : Nat}

def TEnd (env : Env) (s : Shared) (I : Addr) (it : Obj) (rest : Heap → (Str → Option Value) → List (Addr × Obj) → Prop) (s₂ : Shared) : Prop :=
  ∃ g h tk m news, s₂ = { s with heap := h, toks := tk } ∧ Fr g env.locals h m ∧ News g env.locals h ((I, it) :: news) ∧ (∀ p ∈ news, p.1 ≠ I) ∧ rest g m news

/-- one entry taken out of a ledger -/
inductive Take (q : Addr × Obj) : List (Addr × Obj) → List (Addr × Obj) → Prop where
  | here {r : List (Addr × Obj)} : Take q (q :: r) r
  | there {p : Addr × Obj} {r r' : List (Addr × Obj)} : Take q r r' → Take q (p :: r) (p :: r')
theorem Take.sub {q : Addr × Obj} {l r : List (Addr × Obj)} (t : Take q l r) : ∀ p ∈ q :: r, p ∈ l := by
  induction t with
  | here => exact fun _ h => h
  | there _ ih =>
    intro p hp
    rcases List.mem_cons.mp hp with rfl | hp
    · exact .tail _ (ih _ (.head _))
    rcases List.mem_cons.mp hp with rfl | hp
    · exact .head _
    · exact .tail _ (ih _ (.tail _ hp))
theorem TEnd.intro {rest : Heap → (Str → Option Value) → List (Addr × Obj) → Prop} {it : Obj} {g h : Heap} {tk : Nat} {m : Str → Option Value} {all news : List (Addr × Obj)} (F : Fr g env.locals h m) (N : News g env.locals h all) (t : Take (I, it) all news) (off : ∀ p ∈ news, p.1 ≠ I) (r : rest g m news) :
    TEnd env s I it rest { s with heap := h, toks := tk } := ⟨g, h, tk, m, news, rfl, F, fun p hp => N p (t.sub p hp), off, r⟩

/-- how a turn of a loop may end where what lies below the frame may have turned (its frames bear a trace) -/
def TPost (env : Env) (s : Shared) (I : Addr) (it : Obj) (rest : Heap → (Str → Option Value) → List (Addr × Obj) → Prop) (Q : Flow → Shared → Prop) (f : Flow) (s₂ : Shared) : Prop :=
  match f with
  | .ret v => Q (.ret v) s₂
  | .brk => Q .next s₂
  | _ => TEnd env s I it rest s₂

/-- what is left of the turns of a loop over range(n) -/
noncomputable def TRest (prog : Program) (w : World) (A : Around) (E : Value → Shared → Prop) (env : Env) (x : Str) (body : List Stmt) (Q : Flow → Shared → Prop) (s : Shared) (I : Addr) (n : Nat) : Nat → Nat → Heap → (Str → Option Value) → List (Addr × Obj) → Prop
  | 0, _, g, m, news => ∀ h tk, Fr g env.locals h m → News g env.locals h news → Q .next { s with heap := h, toks := tk }
  | k + 1, i, g, m, news => ∀ t h tk, Fr g env.locals h (fun y => if y = x then some (.int (i : Int) t) else m y) → News g env.locals h ((I, itR (((i + 1 : Nat) : Int)) ((n : Int) - ((i + 1 : Nat) : Int))) :: news) →
      wpAny (model prog w) A (execs body env) (TPost env s I (itR (((i + 1 : Nat) : Int)) ((n : Int) - ((i + 1 : Nat) : Int))) (TRest prog w A E env x body Q s I n k (i + 1)) Q) E { s with heap := h, toks := tk }

def TLoop (prog : Program) (w : World) (A : Around) (env : Env) (x : Str) (body : List Stmt) (Q : Flow → Shared → Prop) (E : Value → Shared → Prop) (it : Value) (s₂ : Shared) : Prop :=
  ∃ (s : Shared) (h : Heap) (tk : Nat) (I : Addr) (n : Nat) (g : Heap) (m : Str → Option Value) (news : List (Addr × Obj)), s₂ = { s with heap := h, toks := tk } ∧ it = .ref I ∧ A.handled = none ∧ Fr g env.locals h m ∧ News g env.locals h ((I, itR 0 n) :: news) ∧ (∀ p ∈ news, p.1 ≠ I) ∧ TRest prog w A E env x body Q s I n n 0 g m news

theorem forT {px pos : Pos} {iter : PySem.Expr} (hx : env.kindOf x = some .local) (hp : (env.scope.kind == .class || (env.scope.kind == .module && env.locals != env.globals)) = false)
    (h : wpAny (model prog w) A (eval iter env) (fun xv s₁ => wpAny (model prog w) A (pyIter xv) (fun it s₂ => TLoop prog w A env x body Q E it s₂) E s₁) E s)
    (hs : ∀ x, foldedSetIterable iter env x = pure x := by intro _; rfl) (hE : PassesOwn (model prog w) A env E := by passes_own) :
    wpAny (model prog w) A (exec (.For (.Name x px) iter body [] pos) env) Q E s := by
  refine wpAny_For (wpAny_mono h (fun xv s₁ h₁ => wpAny_mono h₁ (fun it s₂ h₂ => ?_) fun _ _ e => e) fun _ _ e => e) hs
  obtain ⟨s₀, h₂, tk₂, I, n, g, m, news, rfl, rfl, hh, F, N, hoff, rest⟩ := h₂
  refine codeAny_forLoop
    (fun k s' => ∃ (h' : Heap) (tk : Nat) (g' : Heap) (m' : Str → Option Value) (news' : List (Addr × Obj)) (i : Nat), s' = { s₀ with heap := h', toks := tk } ∧ Fr g' env.locals h' m' ∧ News g' env.locals h' ((I, itR (i : Int) ((n : Int) - (i : Int))) :: news') ∧ (∀ p ∈ news', p.1 ≠ I) ∧ TRest prog w A E env x body Q s₀ I n (n - i) i g' m' news' ∧ i ≤ n ∧ k = n + 1 - i) ?_ (n + 1)
    ⟨h₂, tk₂, g, m, news, 0, rfl, F, by simpa using N, hoff, rest, Nat.zero_le _, rfl⟩
  rintro k s' ⟨h', tk, g', m', news', i, rfl, F', N', off', R', hi, rfl⟩
  have W := Walks.range (prog := prog) (w := w) hh I 0 1 n
  have NI := N' _ (List.Mem.head _)
  have st : IsRangeIter h' I (0 + (i : Nat) * 1) ((n : Int) - (i : Nat)) 1 := by
    have e : (0 : Int) + (i : Nat) * 1 = i := by omega
    rw [e]; exact NI.1
  have ILe : I ≠ env.locals := NI.2.1
  have next : ∀ h₁ : Heap, (∀ b o, b ∉ [I] → h'.get? b = some o → h₁.get? b = some o) → Fr g' env.locals h₁ m' ∧ News g' env.locals h₁ news' := fun h₁ hk =>
    ⟨⟨F'.ns.at' fun o e => hk _ o (by simpa using Ne.symm ILe) e, fun b o e => hk b o (by
      have : b ≠ I := fun z => by have := NI.2.2; rw [← z, e] at this; cases this
      simpa using this) (F'.keep b o e), F'.above⟩, fun p hp => ⟨hk _ _ (by simpa using off' p hp) (N' _ (.tail _ hp)).1, (N' _ (.tail _ hp)).2⟩⟩
  by_cases hlt : i < n
  · refine W.item i _ _ _ hlt st fun v h₁ tk₁ hP hst₁ hk₁ => ?_
    obtain ⟨t, rfl⟩ := hP
    obtain ⟨F₁, N₁⟩ := next h₁ hk₁
    refine wpAny_assign_Name (wpAny_storeName_local hx F₁.ns (fun h₂ hn₂ hs₂ => ?_) hp)
    have F₂ := F₁.set hn₂ hs₂
    have e1 : (0 : Int) + (i : Nat) * 1 = i := by omega
    have e2 : (0 : Int) + ((i + 1 : Nat) : Int) * 1 = ((i + 1 : Nat) : Int) := by omega
    rw [e1] at F₂
    have hI₂ : h₂.get? I = some (itR (((i + 1 : Nat) : Int)) ((n : Int) - ((i + 1 : Nat) : Int))) := by
      have q : IsRangeIter h₁ I (0 + ((i + 1 : Nat) : Int) * 1) ((n : Int) - ((i + 1 : Nat) : Int)) 1 := hst₁
      rw [e2] at q
      exact (hs₂.2 I ILe).trans q
    have N₂ : News g' env.locals h₂ ((I, itR (((i + 1 : Nat) : Int)) ((n : Int) - ((i + 1 : Nat) : Int))) :: news') := fun p hp => by
      rcases List.mem_cons.mp hp with rfl | hp
      · exact ⟨hI₂, NI.2⟩
      · exact (N₁.set hs₂) p hp
    have ek : n - i = (n - (i + 1)) + 1 := by omega
    rw [ek] at R'
    refine wpAny_passesOwn hE (wpAny_mono (R' t h₂ _ F₂ N₂) (fun f s₃ h₃ => ?_) fun _ _ e => e)
    have fin : (∃ g h tk m news, s₃ = { s₀ with heap := h, toks := tk } ∧ Fr g env.locals h m ∧ News g env.locals h ((I, itR (((i + 1 : Nat) : Int)) ((n : Int) - ((i + 1 : Nat) : Int))) :: news) ∧ (∀ p ∈ news, p.1 ≠ I) ∧
        TRest prog w A E env x body Q s₀ I n (n - (i + 1)) (i + 1) g m news) → ∃ j, j < n + 1 - i ∧ ∃ (h' : Heap) (tk : Nat) (g' : Heap) (m' : Str → Option Value) (news' : List (Addr × Obj)) (i : Nat), s₃ = { s₀ with heap := h', toks := tk } ∧ Fr g' env.locals h' m' ∧ News g' env.locals h' ((I, itR (i : Int) ((n : Int) - (i : Int))) :: news') ∧ (∀ p ∈ news', p.1 ≠ I) ∧ TRest prog w A E env x body Q s₀ I n (n - i) i g' m' news' ∧ i ≤ n ∧ j = n + 1 - i := by
      rintro ⟨g₃, h₃, tk₃, m₃, news₃, e, F₃, N₃, off₃, R₃⟩
      exact ⟨n + 1 - (i + 1), by omega, h₃, tk₃, g₃, m₃, news₃, i + 1, e, F₃, N₃, off₃, R₃, hlt, rfl⟩
    cases f with
    | ret v => exact h₃
    | brk => exact h₃
    | cont => exact fin h₃
    | next => exact fin h₃
  · have hin : i = n := by omega
    subst hin
    refine W.done _ _ _ st fun h₁ tk₁ hk₁ => wpAny_execs_nil ?_
    obtain ⟨F₁, N₁⟩ := next h₁ hk₁
    rw [Nat.sub_self] at R'
    exact R' h₁ tk₁ F₁ N₁

theorem TRest.zero {i : Nat} {g : Heap} {m : Str → Option Value} {news : List (Addr × Obj)} (h : ∀ h tk, Fr g env.locals h m → News g env.locals h news → Q .next { s with heap := h, toks := tk }) : TRest prog w A E env x body Q s I n 0 i g m news := h
theorem TRest.succ {i k : Nat} {g : Heap} {m : Str → Option Value} {news : List (Addr × Obj)}
    (h : ∀ t h tk, Fr g env.locals h (fun y => if y = x then some (.int (i : Int) t) else m y) → News g env.locals h ((I, itR (((i + 1 : Nat) : Int)) ((n : Int) - ((i + 1 : Nat) : Int))) :: news) →
      wpAny (model prog w) A (execs body env) (TPost env s I (itR (((i + 1 : Nat) : Int)) ((n : Int) - ((i + 1 : Nat) : Int))) (TRest prog w A E env x body Q s I n k (i + 1)) Q) E { s with heap := h, toks := tk }) :
    TRest prog w A E env x body Q s I n (k + 1) i g m news := h

theorem iterT {r : Addr} {b₀ : Int} {t₀ u₀ v₀ : Tok} {g : Heap} {m : Str → Option Value} {news : List (Addr × Obj)} (n : Nat) (hh : A.handled = none) (hr : IsRange s.heap r 0 b₀ 1 t₀ u₀ v₀) (hsmall : Builtin.Range.small 0 b₀ 1 = true) (hn : Builtin.Range.rangeSize 0 b₀ 1 = (n : Int))
    (F : Fr g env.locals s.heap m) (N : News g env.locals s.heap news) (rest : ∀ I : Addr, (∀ p ∈ news, p.1 < I) → TRest prog w A E env x body Q s I n n 0 g m news) :
    wpAny (model prog w) A (pyIter (.ref r)) (fun it s₂ => TLoop prog w A env x body Q E it s₂) E s := by
  refine wpAny_pyIter_range hr hsmall ?_
  rw [hn]
  have hlt : ∀ p ∈ news, p.1 < s.heap.objs.size := fun p hp => Heap.lt_size (N p hp).1
  have hL : env.locals < s.heap.objs.size := F.ns.lt
  refine ⟨s, _, _, s.heap.objs.size, n, g, m, news, rfl, rfl, hh, F.push _, fun p hp => ?_, fun p hp => Nat.ne_of_lt (hlt p hp), rest _ hlt⟩
  rcases List.mem_cons.mp hp with rfl | hp
  · refine ⟨Heap.get?_push_size _ rfl, Nat.ne_of_gt hL, ?_⟩
    cases z : g.get? s.heap.objs.size with
    | none => rfl
    | some o => exact absurd (Heap.lt_size (F.keep _ _ z)) (Nat.lt_irrefl _)
  · exact ⟨Heap.get?_push_of_some _ (N p hp).1, (N p hp).2⟩
end
end Mine
end
section
set_option maxRecDepth 100000
set_option maxHeartbeats 4000000
open PySem PySem.W PySem.Calls PyProof.Rows PySem.Spec Builtin Builtin.ObjectAttr
namespace Mine

section
variable {prog : Program} {w : World} {A₀ A : Around} {s : Shared} {base h₀ : Heap} {env : Env} {outer : List Env} {L a : Addr} {m : Str → Option Value} {news : List (Addr × Obj)} {K : Frag} {p : Program} {loose : List Str} {mean : ExcName → Option Value} {mg mb : Str → Option Value}
  {R : Result → Shared → Prop} {name qual : Str} {params : Arguments} {body : List Stmt} {scope : Scope} {dV kV doc pm cdv ct oc : Value} {an od : Option Addr} {osl : Array (Option Value)} {f : Addr} {args : Args} {binds : List (Str × Value)}

/-- a def entered with an empty ledger: all that the caller has made is ground within, and stands behind -/
theorem enterG (B : Below A₀ base outer h₀) (F : Fr h₀ L s.heap m) (X₀ : K.In h₀) (N : News h₀ L s.heap news) (T : Top p loose mean mg mb h₀) (hA : A.frames = some (env :: outer)) (hf : env.frame = some L) (hke : env.scope.kind = .function)
    (ho : K.lookup f = some ⟨oc, od, .func (fnOf name qual params body scope dV kV doc pm an cdv ct), osl⟩) (hcd : codeIn K cdv qual = true) (hroom : A.depth < recursionLimit)
    (hbind : BindsTo s (fnOf name qual params body scope dV kV doc pm an cdv ct) args binds) (hloc : ∀ y ∈ binds, scope.names.lookup y.1 = some .local)
    (h : ∀ g L' h₁, News h₀ L g news → Fr h₀ L g m → Fr g L' h₁ (fun y => binds.reverse.lookup y) → News g L' h₁ [] → Below A base (env :: outer) g → K.In g → Top p loose mean mg mb g →
      wpAny (model prog w) (A.deeper (envOf qual scope L' f cdv)) (execs body (envOf qual scope L' f cdv))
        (fun fl s' => LeaveK h₀ L m g (fun r s'' => News h₀ L s''.heap news → R r s'') (match fl with | .ret v => v | _ => .none) s')
        (fun e s' => wpAny (model prog w) (A.deeper (envOf qual scope L' f cdv)) (leaving (envOf qual scope L' f cdv) e) (fun _ s'' => R (.error e) s'') (fun e' s'' => R (.error e') s'') s')
        { s with heap := h₁, toks := s.toks + binds.length })
    (hco : scope.isCoroutine = false) (hgen : scope.isGenerator = false) (hk : scope.kind = .function)
    (hcell : ∀ x ∈ scope.names, x.2 ≠ .cell) : codeAny (model prog w) A (.call (.ref f) args) R s := by
  have X := X₀.keeps F.keep
  obtain ⟨FG, BG, st, lv⟩ := groundX (R := fun r s'' => News h₀ L s''.heap news → R r s'') B F (News.nil (h₀ := h₀) (L := L)) hA hf hke
  refine codeAny_call_def (fd := fnOf name qual params body scope dV kV doc pm an cdv ct) (body := body) (binds := binds) hroom (X _ _ ho) rfl (T.nolimit.keeps F.keep) (codeRec_of X hcd) rfl hbind hcell hloc (fun h₁ hns hk₁ => ?_) hco hgen hk
  refine wpAny_mono (h s.heap s.heap.objs.size h₁ N F ⟨hns, hk₁, Nat.le_refl _⟩ News.nil BG X (T.keeps F.keep)) (fun fl s' hl => ?_) fun _ _ y => y
  have hl' := hl
  obtain ⟨L', m', news', F', N', k⟩ := hl
  exact lv _ _ hl' (fun q hq => ⟨F'.keep _ _ (N q hq).1, (N q hq).2⟩)

/-- a def entered with one object of the caller's alone at hand (the one that it changes): the rest is ground within, and stands behind -/
theorem enterP {q : Addr × Obj} (B : Below A₀ base outer h₀) (F : Fr h₀ L s.heap m) (X₀ : K.In h₀) (N : News h₀ L s.heap (q :: news)) (hoff : ∀ p ∈ news, p.1 ≠ q.1) (T : Top p loose mean mg mb h₀) (hA : A.frames = some (env :: outer)) (hf : env.frame = some L) (hke : env.scope.kind = .function)
    (ho : K.lookup f = some ⟨oc, od, .func (fnOf name qual params body scope dV kV doc pm an cdv ct), osl⟩) (hcd : codeIn K cdv qual = true) (hroom : A.depth < recursionLimit)
    (hbind : BindsTo s (fnOf name qual params body scope dV kV doc pm an cdv ct) args binds) (hloc : ∀ y ∈ binds, scope.names.lookup y.1 = some .local)
    (h : ∀ g L' h₁, News h₀ L g news → Fr h₀ L g m → Fr g L' h₁ (fun y => binds.reverse.lookup y) → News g L' h₁ [q] → Below A base (env :: outer) g → K.In g → Top p loose mean mg mb g →
      wpAny (model prog w) (A.deeper (envOf qual scope L' f cdv)) (execs body (envOf qual scope L' f cdv))
        (fun fl s' => LeaveK h₀ L m g (fun r s'' => News h₀ L s''.heap news → R r s'') (match fl with | .ret v => v | _ => .none) s')
        (fun e s' => wpAny (model prog w) (A.deeper (envOf qual scope L' f cdv)) (leaving (envOf qual scope L' f cdv) e) (fun _ s'' => R (.error e) s'') (fun e' s'' => R (.error e') s'') s')
        { s with heap := h₁, toks := s.toks + binds.length })
    (hco : scope.isCoroutine = false) (hgen : scope.isGenerator = false) (hk : scope.kind = .function)
    (hcell : ∀ x ∈ scope.names, x.2 ≠ .cell) : codeAny (model prog w) A (.call (.ref f) args) R s := by
  have X := X₀.keeps F.keep
  have Nq : News h₀ L s.heap [q] := fun p hp => N p (List.mem_singleton.mp hp ▸ .head _)
  obtain ⟨FG, BG, st, lv⟩ := groundX (R := fun r s'' => News h₀ L s''.heap news → R r s'') B F Nq hA hf hke
  have NG : News h₀ L (hideAll s.heap ([q].map (·.1))) news := fun p hp => ⟨hideAll_get _ (N p (.tail _ hp)).1 (by simpa using hoff p hp), (N p (.tail _ hp)).2⟩
  refine codeAny_call_def (fd := fnOf name qual params body scope dV kV doc pm an cdv ct) (body := body) (binds := binds) hroom (X _ _ ho) rfl (T.nolimit.keeps F.keep) (codeRec_of X hcd) rfl hbind hcell hloc (fun h₁ hns hk₁ => ?_) hco hgen hk
  refine wpAny_mono (h _ s.heap.objs.size h₁ NG FG ⟨hns, fun b o e => hk₁ b o (of_hideAll _ e), Nat.le_of_eq (hideAll_size _ _)⟩ (fun p hp => ?_) BG (X₀.keeps st) (T.keeps st)) (fun fl s' hl => ?_) fun _ _ y => y
  · obtain rfl := List.mem_singleton.mp hp
    have P := N p (.head _)
    exact ⟨hk₁ _ _ P.1, Nat.ne_of_lt (Heap.lt_size P.1), hideAll_none _ (by simp)⟩
  · have hl' := hl
    obtain ⟨L', m', news', F', N', k⟩ := hl
    exact lv _ _ hl' (fun q hq => ⟨F'.keep _ _ (NG q hq).1, (NG q hq).2⟩)

/-- enterG, of a def some of whose names are cells -/
theorem enterGC (B : Below A₀ base outer h₀) (F : Fr h₀ L s.heap m) (X₀ : K.In h₀) (N : News h₀ L s.heap news) (T : Top p loose mean mg mb h₀) (hA : A.frames = some (env :: outer)) (hf : env.frame = some L) (hke : env.scope.kind = .function)
    (ho : K.lookup f = some ⟨oc, od, .func (fnOf name qual params body scope dV kV doc pm an cdv ct), osl⟩) (hcd : codeIn K cdv qual = true) (hroom : A.depth < recursionLimit)
    (hbind : BindsTo s (fnOf name qual params body scope dV kV doc pm an cdv ct) args binds) (hkind : (binds.all fun y => scope.names.lookup y.1 == some .local || scope.names.lookup y.1 == some .cell) = true)
    (hnd : ((cellsFrom 0 scope.names []).map (·.1)).Nodup)
    (h : ∀ g L' h₁ tk cells, News h₀ L g news → Fr h₀ L g m → Fr g L' h₁ (bindL (envOfC qual scope L' f cdv).kindOf binds fun _ => none) → News g L' h₁ cells →
      CellsAre (bindC (envOfC qual scope L' f cdv).kindOf binds fun _ => none) (cellsFrom (L' + 1) scope.names []) cells → Below A base (env :: outer) g → K.In g → Top p loose mean mg mb g →
      wpAny (model prog w) (A.deeper (envOfC qual scope L' f cdv)) (execs body (envOfC qual scope L' f cdv))
        (fun fl s' => LeaveK h₀ L m g (fun r s'' => News h₀ L s''.heap news → R r s'') (match fl with | .ret v => v | _ => .none) s')
        (fun e s' => wpAny (model prog w) (A.deeper (envOfC qual scope L' f cdv)) (leaving (envOfC qual scope L' f cdv) e) (fun _ s'' => R (.error e) s'') (fun e' s'' => R (.error e') s'') s')
        { s with heap := h₁, toks := tk })
    (hco : scope.isCoroutine = false) (hgen : scope.isGenerator = false) (hk : scope.kind = .function) : codeAny (model prog w) A (.call (.ref f) args) R s := by
  have X := X₀.keeps F.keep
  obtain ⟨FG, BG, st, lv⟩ := groundX (R := fun r s'' => News h₀ L s''.heap news → R r s'') B F (News.nil (h₀ := h₀) (L := L)) hA hf hke
  refine codeAny_call_function hroom (X _ _ ho) rfl hco hgen rfl (codeRec_of X hcd) (hbind _ _ _ _ ?_)
  refine wpAny_newFunctionEnv_cells hk (kindsX hkind _) fun env' he s' x => ?_
  subst he
  refine ⟨(T.nolimit.keeps F.keep).keeps x.toInCall.keep, codeAny_func ?_⟩
  obtain ⟨h₁, tk, rfl, _⟩ := x.done
  have hk₁ := x.toInCall.keep
  obtain ⟨cells, NC, Y⟩ := Cl.news (h₀ := s.heap) (Nat.le_refl _) fun n c hm => ⟨x.cell n c (lookup_of_mem_nodup (cellsFrom_names scope.names 0 (s.heap.objs.size + 1) [] [] rfl ▸ hnd) hm), x.above n c hm⟩
  refine wpAny_mono (h s.heap s.heap.objs.size h₁ tk cells N F ⟨x.toInCall.ns, hk₁, Nat.le_refl _⟩ NC Y BG X (T.keeps F.keep)) (fun fl s' hl => ?_) fun _ _ y => y
  have hl' := hl
  obtain ⟨L', m', news', F', N', k⟩ := hl
  exact lv _ _ hl' (fun q hq => ⟨F'.keep _ _ (N q hq).1, (N q hq).2⟩)
end
end Mine
end
section
open PySem PySem.Spec PySem.Calls PySem.W PyProof.Rows
namespace Mine
open PyProof.Rows.LCg

def TupIn (ax : Addr) (its : Array Value) (k : Nat) (news : List (Addr × Obj)) : Prop := (ax, ({ cls := .type "tuple", data := .seq its k } : Obj)) ∈ news
theorem TupIn.tup {h₀ h : Heap} {L ax : Addr} {its : Array Value} {k : Nat} {news : List (Addr × Obj)} (x : TupIn ax its k news) (N : News h₀ L h news) : h.IsTuple ax its :=
  ⟨_, (N _ x).1, rfl, _, rfl⟩
def TupSrc (prog : Program) (w : World) (A : Around) (h₀ : Heap) (L : Addr) (m : Str → Option Value) (env : Env) (elt : Expr) (x : Str) (scope : Scope) (cl : List (Str × Addr)) (Fin : Shared → List Value → List (Addr × Obj) → Prop) (xv : Value) (s₁ : Shared) : Prop :=
  ∃ ax its k news, xv = .ref ax ∧ A.handled = none ∧ Fr h₀ L s₁.heap m ∧ News h₀ L s₁.heap news ∧ TupIn ax its k news ∧ its.size ≤ sizeLine ∧
    ∀ s₂ : Shared, (∃ h, s₂ = { s₁ with heap := h }) → CompRest prog w A h₀ L m env elt x scope cl s₂ (TupIn ax its k) (fun i v => its[i]? = some v) (Fin s₂) its.size 0 [] news
theorem compEnd_same {h₀ : Heap} {L I C D : Addr} {m : Str → Option Value} {s₁ : Shared} {oI oC oD : Obj} {S : List (Addr × Obj) → Prop} {rest : Value → List (Addr × Obj) → Prop} {y : Value} {h' : Heap} {tk : Nat} {news' : List (Addr × Obj)}
    (F : Fr h₀ L h' m) (N : News h₀ L h' ((I, oI) :: (C, oC) :: (D, oD) :: news')) (off : Off3 I C D news') (hS : S news') (r : rest y news') :
    CompEnd h₀ L m s₁ I oI C oC D oD S rest y { s₁ with heap := h', toks := tk } := CompEnd.intro F N news' (fun _ hp => hp) off hS r
section
variable {prog : Program} {w : World} {A : Around} {E : Value → Shared → Prop} {s : Shared} {h₀ : Heap} {L : Addr} {m : Str → Option Value} {env : Env}
theorem TupSrc.mk {elt : Expr} {x : Str} {scope : Scope} {cl : List (Str × Addr)} {Fin : Shared → List Value → List (Addr × Obj) → Prop} {ax : Addr} {its : Array Value} {k : Nat} {news : List (Addr × Obj)} {s₁ : Shared}
    (hh : A.handled = none) (F : Fr h₀ L s₁.heap m) (N : News h₀ L s₁.heap news) (hm : (ax, ({ cls := .type "tuple", data := .seq its k } : Obj)) ∈ news) (hsz : its.size ≤ sizeLine)
    (h : ∀ g, CompRest prog w A h₀ L m env elt x scope cl { s₁ with heap := g } (TupIn ax its k) (fun i v => its[i]? = some v) (Fin { s₁ with heap := g }) its.size 0 [] news) :
    TupSrc prog w A h₀ L m env elt x scope cl Fin (.ref ax) s₁ := ⟨ax, its, k, news, rfl, hh, F, N, hm, hsz, fun _ ⟨g, e⟩ => e ▸ h g⟩
theorem tup_st {ax I : Addr} {its : Array Value} {k : Nat} : ∀ i (h h' : Heap) (o : Obj) (nw : List (Addr × Obj)), (h.IsTupleIter I ax i ∧ h.IsTuple ax its) → h.get? I = some o → h'.get? I = some o → (∀ b o, h₀.get? b = some o → h'.get? b = some o) → News h₀ L h' nw → TupIn ax its k nw → (h'.IsTupleIter I ax i ∧ h'.IsTuple ax its) :=
  fun i h h' o nw st e e' _ N S => ⟨by obtain ⟨o', q, r⟩ := st.1; rw [e] at q; cases q; exact ⟨o, e', r⟩, S.tup N⟩
theorem Assign_ListComp_T {elt iter : Expr} {x y : Str} {px py : Pos} {scope : Scope} {cl : List (Str × Addr)} {pos spos : Pos} {Q : Flow → Shared → Prop} (F₀ : Fr h₀ L s.heap m) (hLe : env.locals = L)
    (hsw : swapsWith (.ListComp elt [⟨.Name x px, iter, [], 0⟩] scope pos) (some (.Name y py)) spos.line env = pure true)
    (hclos : closureFor scope env = pure cl) (hcell : ∀ z ∈ scope.names, z.2 ≠ .cell) (hkind : scope.kind = .function)
    (hnames : ∀ z ∈ scope.names, z.2 = .local → scope.names.lookup z.1 = some .local) (hx : scope.names.lookup x = some .local)
    (hy : env.kindOf y = some .local) (hp : (env.scope.kind == .class || (env.scope.kind == .module && env.locals != env.globals)) = false)
    (h : wpAny (model prog w) A (eval iter env) (TupSrc prog w A h₀ L m env elt x scope cl (fun s₂ => FinA h₀ L m s₂ y Q)) E s)
    (hs : ∀ x, foldedSetIterable iter env x = pure x := by intro _; rfl) :
    wpAny (model prog w) A (exec (.Assign [.Name y py] (.ListComp elt [⟨.Name x px, iter, [], 0⟩] scope pos) spos) env) Q E s := by
  subst hLe
  rw [exec_Assign_Name_used _ _ _ _ hsw]
  refine wpAny_bind (wpAny_standAt (wpAny_bind ?_))
  show wpAny _ A (do let _ ← comprehension (.ListComp elt [⟨.Name x px, iter, [], 0⟩] scope pos) scope env _ (newList []) false (eval iter env) (some (assign (.Name y py) env))) _ _ s
  refine wpAny_bind (wpAny_mono (wpAny_comprehension_free (use := some (assign (.Name y py) env)) (Q := fun _ s' => Q .next s') rfl hs hclos hkind hnames
    (wpAny_mono h (fun xv s₁ h₁ => ?_) fun _ _ e => e)) (fun _ s' hq => wpAny_pure (wpAny_pure hq)) fun _ _ e => e)
  obtain ⟨ax, its, k, news, rfl, hh, F, N, S, hsz, R⟩ := h₁
  have hl := S.tup N
  have hlt : ax < s₁.heap.objs.size := by obtain ⟨_, e, _⟩ := hl; exact Heap.lt_size e
  refine wpAny_pyIter_tuple hl ?_
  have up : ∀ b o, s₁.heap.get? b = some o → (s₁.heap.push { cls := .type "tuple_iterator", data := .fields #[.ref ax, .int 0 0] }).get? b = some o := fun b o e => Heap.get?_push_of_some _ e
  refine block_U (Walks.tuple hh s₁.heap.objs.size ax (Nat.ne_of_lt hlt) its) hsz (fun i h st => by obtain ⟨o, e, _⟩ := st.1; exact ⟨o, e⟩) tup_st hcell hkind hx ⟨⟨_, Heap.get?_push_size _ rfl, rfl, rfl⟩, hl.push _⟩ (fun b hb => ?_)
    (F.keeps up) (N.grown up) (Nat.ne_of_lt F.ns.lt) (next_is_new F) (fun p hp => Nat.ne_of_lt (Heap.lt_size (N p hp).1)) S (R _ ⟨_, rfl⟩) ?_
  · show b < (s₁.heap.push _).objs.size
    rw [Heap.size_push]
    rcases List.mem_cons.mp hb with rfl | hb
    · exact Nat.lt_succ_self _
    · rw [List.mem_singleton.mp hb]; exact Nat.lt_succ_of_lt hlt
  · intro D C h' tk m' ys news' F' N' o1 hn hC₀ hD₀ hCL hDL hCD offC fin
    show wpAny _ A (assign (.Name y py) env (.ref D)) _ _ _
    refine wpAny_assign_Name (wpAny_storeName_local hy F'.ns (fun h₂ hn₂ hs₂ => ?_) hp)
    have hL₀ : h₀.get? env.locals = none := Heap.get?_none_of_le F'.above
    have F₂ : Fr h₀ env.locals h₂ (fun z => if z = y then some (.ref D) else m z) := ⟨hn₂, fun b o e => hs₂.extBut b o (fun q => by rw [q, hL₀] at e; cases e) (F'.keep b o e), F'.above⟩
    refine ⟨m', hn.sameBut hs₂ hCL, fun h'' hs'' => fin D h'' _ (F₂.change hs'' hCL hC₀) (fun p hp => ?_) o1⟩
    have z : h₂.get? p.1 = some p.2 := hs₂.extBut _ _ (N' p hp).2.1 (N' p hp).1
    refine ⟨hs''.extBut _ _ ?_ z, (N' p hp).2⟩
    rcases List.mem_cons.mp hp with rfl | hp
    · exact Ne.symm hCD
    · exact offC p hp
end
end Mine
end
section
open PySem PySem.W PyProof.Rows
theorem Mine.b0 : PySem.Manifest.find? = PySem.Manifest.find? := rfl
name_quick tw9643721465524540036 for PySem.Manifest.find? by Mine.b0
name_quick tw8075568018651887793 for PySem.Manifest.find? by Mine.b0
name_quick tw16979494861989939188 for PySem.Manifest.find? by Mine.b0
name_quick tw2381599553089736043 for PySem.Manifest.find? by Mine.b0
name_quick tw12529129093788998157 for PySem.Manifest.find? by Mine.b0
name_quick tw17563454237958015444 for PySem.Manifest.find? by Mine.b0
name_quick tw4622596211255666275 for PySem.Manifest.find? by Mine.b0
name_quick tw14979626087600564940 for PySem.Manifest.find? by Mine.b0
name_quick tw12368820175322135714 for PySem.Manifest.find? by Mine.b0
name_quick tw9849938961292279599 for PySem.Manifest.find? by Mine.b0
name_quick tw3186872635466914317 for PySem.Manifest.find? by Mine.b0
name_quick tw1749818173716722547 for PySem.Manifest.find? by Mine.b0
name_quick tw1440575883149458809 for PySem.Manifest.find? by Mine.b0
name_quick tw14440140849115353679 for PySem.Manifest.find? by Mine.b0
name_quick tw12813236842856870187 for PySem.Manifest.find? by Mine.b0
name_quick tw11994158751524154303 for PySem.Manifest.find? by Mine.b0
name_quick tw16643379632663270332 for PySem.Manifest.find? by Mine.b0
name_quick tw6957269047217186779 for PySem.Manifest.find? by Mine.b0
name_quick tw11502282260701905712 for PySem.Manifest.find? by Mine.b0
name_quick tw8989982439271903415 for PySem.Manifest.find? by Mine.b0
name_quick tw14210447440969649564 for PySem.Manifest.find? by Mine.b0
name_quick tw14311459727803291754 for PySem.Manifest.find? by Mine.b0
name_quick tw2401598449976151931 for PySem.Manifest.find? by Mine.b0
name_quick tw12393455550290869266 for PySem.Manifest.find? by Mine.b0
name_quick tw9626621113073979434 for PySem.Manifest.find? by Mine.b0
name_quick tw11462045893675790159 for PySem.Manifest.find? by Mine.b0
name_quick tw11161088081135249708 for PySem.Manifest.find? by Mine.b0
name_quick tw16487347958798203451 for PySem.Manifest.find? by Mine.b0
name_quick tw17975652961387846372 for PySem.Manifest.find? by Mine.b0
name_quick tw13443845346986579664 for PySem.Manifest.find? by Mine.b0
name_quick tw2354101950205528012 for PySem.Manifest.find? by Mine.b0
name_quick tw2334299552400917057 for PySem.Manifest.find? by Mine.b0
name_quick tw16752143609539240740 for PySem.Manifest.find? by Mine.b0
name_quick tw15263041282635125899 for PySem.Manifest.find? by Mine.b0
name_quick tw15542503528162795033 for PySem.Manifest.find? by Mine.b0
name_quick tw2905824091091238844 for PySem.Manifest.find? by Mine.b0
name_quick tw16979880578912567463 for PySem.Manifest.find? by Mine.b0
name_quick tw5529568453561195837 for PySem.Manifest.find? by Mine.b0
name_quick tw5357591511691535388 for PySem.Manifest.find? by Mine.b0
name_quick tw3094477031063562474 for PySem.Manifest.find? by Mine.b0
name_quick tw13640514254501968386 for PySem.Manifest.find? by Mine.b0
name_quick tw12945451867199242903 for PySem.Manifest.find? by Mine.b0
name_quick tw11566699232636054958 for PySem.Manifest.find? by Mine.b0
name_quick tw17552769576498331613 for PySem.Manifest.find? by Mine.b0
name_quick tw13036272033356848781 for PySem.Manifest.find? by Mine.b0
name_quick tw2660918139993853925 for PySem.Manifest.find? by Mine.b0
name_quick tw9674257727999782656 for PySem.Manifest.find? by Mine.b0
name_quick tw7232422423428716515 for PySem.Manifest.find? by Mine.b0
name_quick tw6004533443673955352 for PySem.Manifest.find? by Mine.b0
name_quick tw8555734327229750603 for PySem.Manifest.find? by Mine.b0
name_quick tw1962928258387122110 for PySem.Manifest.find? by Mine.b0
name_quick tw7392212959928792091 for PySem.Manifest.find? by Mine.b0
name_quick tw1291980286583624508 for PySem.Manifest.find? by Mine.b0
name_quick tw15423634916342008072 for PySem.Manifest.find? by Mine.b0
name_quick tw17846936440860909165 for PySem.Manifest.find? by Mine.b0
name_quick tw13759679279233594173 for PySem.Manifest.find? by Mine.b0
name_quick tw3856783459128436802 for PySem.Manifest.find? by Mine.b0
name_quick tw13776390136698705113 for PySem.Manifest.find? by Mine.b0
name_quick tw17100903815162463580 for PySem.Manifest.find? by Mine.b0
name_quick tw3577408171920636059 for PySem.Manifest.find? by Mine.b0
name_quick tw15900120412870309639 for PySem.Manifest.find? by Mine.b0
name_quick tw17274371674624000324 for PySem.Manifest.find? by Mine.b0
name_quick tw8376441433122354887 for PySem.Manifest.find? by Mine.b0
name_quick tw5345256250457102556 for PySem.Manifest.find? by Mine.b0
name_quick tw7892128664451923741 for PySem.Manifest.find? by Mine.b0
name_quick tw10010936943081839664 for PySem.Manifest.find? by Mine.b0
name_quick tw14223099787259518943 for PySem.Manifest.find? by Mine.b0
name_quick tw15894407043143930727 for PySem.Manifest.find? by Mine.b0
name_quick tw8603108125212654177 for PySem.Manifest.find? by Mine.b0
name_quick tw13145125596335152023 for PySem.Manifest.find? by Mine.b0
name_quick tw7745614565497352828 for PySem.Manifest.find? by Mine.b0
name_quick tw16049961110935095269 for PySem.Manifest.find? by Mine.b0
name_quick tw11277716924127702174 for PySem.Manifest.find? by Mine.b0
name_quick tw11588390666370768167 for PySem.Manifest.find? by Mine.b0
name_quick tw13002492023102617099 for PySem.Manifest.find? by Mine.b0
name_quick tw17111948838632640456 for PySem.Manifest.find? by Mine.b0
name_quick tw6662432510661729299 for PySem.Manifest.find? by Mine.b0
name_quick tw11420187438672877268 for PySem.Manifest.find? by Mine.b0
name_quick tw4302124980754421698 for PySem.Manifest.find? by Mine.b0
name_quick tw1355338860687761863 for PySem.Manifest.find? by Mine.b0
name_quick tw17954471519018878134 for PySem.Manifest.find? by Mine.b0
name_quick tw3282434896037501709 for PySem.Manifest.find? by Mine.b0
name_quick tw14821650378409806113 for PySem.Manifest.find? by Mine.b0
name_quick tw16741492637210864865 for PySem.Manifest.find? by Mine.b0
name_quick tw9501820088010722379 for PySem.Manifest.find? by Mine.b0
name_quick tw3362959441861295915 for PySem.Manifest.find? by Mine.b0
name_quick tw6929956602132211858 for PySem.Manifest.find? by Mine.b0
name_quick tw17730448691065144110 for PySem.Manifest.find? by Mine.b0
name_quick tw13678640442995254988 for PySem.Manifest.find? by Mine.b0
name_quick tw14333388528381170442 for PySem.Manifest.find? by Mine.b0
name_quick tw13615603153576403970 for PySem.Manifest.find? by Mine.b0
name_quick tw1402947280878808549 for PySem.Manifest.find? by Mine.b0
name_quick tw9931943479562821362 for PySem.Manifest.find? by Mine.b0
name_quick tw17888162413812561239 for PySem.Manifest.find? by Mine.b0
name_quick tw15919542637913265678 for PySem.Manifest.find? by Mine.b0
name_quick tw3152983702415266003 for PySem.Manifest.find? by Mine.b0
name_quick tw9759809726879904816 for PySem.Manifest.find? by Mine.b0
name_quick tw16018607276475445134 for PySem.Manifest.find? by Mine.b0
name_quick tw17497748084772794779 for PySem.Manifest.find? by Mine.b0
name_quick tw1829445100760108279 for PySem.Manifest.find? by Mine.b0
name_quick tw5732905514179830355 for PySem.Manifest.find? by Mine.b0
name_quick tw219737044198020058 for PySem.Manifest.find? by Mine.b0
name_quick tw1333364371103165705 for PySem.Manifest.find? by Mine.b0
name_quick tw16548257151911338427 for PySem.Manifest.find? by Mine.b0
name_quick tw5268983451555188008 for PySem.Manifest.find? by Mine.b0
name_quick tw16846860572762119324 for PySem.Manifest.find? by Mine.b0
name_quick tw12635297910168745909 for PySem.Manifest.find? by Mine.b0
name_quick tw1377046205977697930 for PySem.Manifest.find? by Mine.b0
name_quick tw3560238982266916124 for PySem.Manifest.find? by Mine.b0
name_quick tw682011567655089306 for PySem.Manifest.find? by Mine.b0
name_quick tw6245536207120538393 for PySem.Manifest.find? by Mine.b0
name_quick tw5770868932273138760 for PySem.Manifest.find? by Mine.b0
name_quick tw5902227825499142635 for PySem.Manifest.find? by Mine.b0
name_quick tw347637069881736656 for PySem.Manifest.find? by Mine.b0
name_quick tw11317593695737139937 for PySem.Manifest.find? by Mine.b0
name_quick tw17828083071136270317 for PySem.Manifest.find? by Mine.b0
name_quick tw17532440430192770315 for PySem.Manifest.find? by Mine.b0
name_quick tw8595292554425487202 for PySem.Manifest.find? by Mine.b0
name_quick tw932993149863042379 for PySem.Manifest.find? by Mine.b0
name_quick tw14386061602966655976 for PySem.Manifest.find? by Mine.b0
name_quick tw14537914154153760125 for PySem.Manifest.find? by Mine.b0
name_quick tw4039474712603431140 for PySem.Manifest.find? by Mine.b0
name_quick tw14224011070414065920 for PySem.Manifest.find? by Mine.b0
name_quick tw17532718790514356516 for PySem.Manifest.find? by Mine.b0
name_quick tw2670528217467546775 for PySem.Manifest.find? by Mine.b0
name_quick tw2422670821966735624 for PySem.Manifest.find? by Mine.b0
name_quick tw13900631225919944168 for PySem.Manifest.find? by Mine.b0
name_quick tw13559156169165276386 for PySem.Manifest.find? by Mine.b0
name_quick tw12659028871203227004 for PySem.Manifest.find? by Mine.b0
name_quick tw15323854079317868165 for PySem.Manifest.find? by Mine.b0
name_quick tw9951705424602377420 for PySem.Manifest.find? by Mine.b0
name_quick tw9948023125614773506 for PySem.Manifest.find? by Mine.b0
name_quick tw724751600484774222 for PySem.Manifest.find? by Mine.b0
name_quick tw10007627690174824804 for PySem.Manifest.find? by Mine.b0
name_quick tw17517737089405305841 for PySem.Manifest.find? by Mine.b0
name_quick tw18056578402003937789 for PySem.Manifest.find? by Mine.b0
name_quick tw8753696776887207221 for PySem.Manifest.find? by Mine.b0
namespace Mine
set_option maxRecDepth 100000 in
set_option maxHeartbeats 8000000 in
open_top hd for PySem.Challenge.rw_xw0004_01
end Mine
end
section
open PySem PySem.Spec PySem.Calls PySem.W PyProof.Rows
namespace Mine
theorem true_end {cl : Str → Option Addr} {mean : ExcName → Option Value} {args : List WData} {s₁ s' : Shared} {L : Addr} {m : Str → Option Value} {b : Bool} (F : Fr s₁.heap L s'.heap m) (hg : s'.gens = #[]) (hos : s'.os = s₁.os) (e : b = true) :
    GoodW PySem.Challenge.rw_xw0004_01.row.claim cl mean args s₁ (.ok (.ret (.bool b))) s' := by
  subst e
  refine goodW_bool F hg (raisesW_false ?_) ?_ hos
  · intro ct h
    exact nomatch h
  · exact postW_of (by wrow_shape) (w_eq_bool (w_res rfl) w_lit) rfl
theorem two_item0 {prog : Program} {w : World} {A : Around} {E : Value → Shared → Prop} {s : Shared} {h₀ : Heap} {L : Addr} {news : List (Addr × Obj)} {value slice : PySem.Expr} {l : Addr} {v1 v2 : Value} {n : Nat} {u : Tok} {Q : Value → Shared → Prop} (N : News h₀ L s.heap news) (hm : (l, W.listOf #[v1, v2] n) ∈ news) (h : Q v1 s)
    (hs : subscripted slice false (.ref l) (.int 0 u) = operate [.ref l, .int 0 u] (getItem (.ref l) (.int 0 u)) := by with_unfolding_all rfl) : wpAny (model prog w) A (subscriptTail value slice (.ref l) (.int 0 u)) Q E s := by
  have hl : s.heap.IsList l #[v1, v2] := ⟨_, (N _ hm).1, rfl, _, rfl⟩
  exact tail_any hl.typeIs slot_list_getitem.lookup (wpAny_getItem_list hl (by decide) (by decide) rfl h) hs
theorem two_item1 {prog : Program} {w : World} {A : Around} {E : Value → Shared → Prop} {s : Shared} {h₀ : Heap} {L : Addr} {news : List (Addr × Obj)} {value slice : PySem.Expr} {l : Addr} {v1 v2 : Value} {n : Nat} {u : Tok} {Q : Value → Shared → Prop} (N : News h₀ L s.heap news) (hm : (l, W.listOf #[v1, v2] n) ∈ news) (h : Q v2 s)
    (hs : subscripted slice false (.ref l) (.int 1 u) = operate [.ref l, .int 1 u] (getItem (.ref l) (.int 1 u)) := by with_unfolding_all rfl) : wpAny (model prog w) A (subscriptTail value slice (.ref l) (.int 1 u)) Q E s := by
  have hl : s.heap.IsList l #[v1, v2] := ⟨_, (N _ hm).1, rfl, _, rfl⟩
  exact tail_any hl.typeIs slot_list_getitem.lookup (wpAny_getItem_list hl (by decide) (by decide) rfl h) hs
end Mine
end
section
open PySem PySem.W PyProof.Rows
namespace Mine

abbrev Calls (w : World) (k : Nat) (f : Addr) (news : List (Addr × Obj)) (vs : List Value) (Out : Value → List (Addr × Obj) → Prop) : Prop :=
  ∀ (mean : ExcName → Option Value) (mg mb : Str → Option Value) (dp un : Nat) (gd : Option (List Code)) (cn : Str) (cs : Scope) (a : Addr) (ccd : Value) (cl : List (Str × Addr)) (outer : List Env) (A₀ : Around) (base h₀ : Heap) (L : Addr) (m : Str → Option Value) (s : Shared) (Q E : Value → Shared → Prop),
    Below A₀ base outer h₀ → Fr h₀ L s.heap m → (hd.heap_39 w.params).In h₀ → News h₀ L s.heap news → Top hd.view_39 (looseW hd.view_39 []) mean mg mb h₀ → cs.kind = .function →
    dp + k < recursionLimit → un + 10 * k < cLine →
    (∀ r tl h' tk', Fr h₀ L h' m → News h₀ L h' (tl ++ news) → (∀ q ∈ news, ∀ p ∈ tl, q.1 < p.1) → Out r tl → Q r { s with heap := h', toks := tk' }) →
    wpAny (model PySem.Challenge.rw_xw0004_01.row.prog w) (ktrTop dp un gd cn cs L a ccd cl outer) (call (.ref f) vs) Q E s

theorem use {w : World} {k : Nat} {f : Addr} {news : List (Addr × Obj)} {vs : List Value} {Out : Value → List (Addr × Obj) → Prop} (C : Calls w k f news vs Out)
    {mean : ExcName → Option Value} {mg mb : Str → Option Value} {dp un : Nat} {gd : Option (List Code)} {cn : Str} {cs : Scope} {a : Addr} {ccd : Value} {cl : List (Str × Addr)} {outer : List Env} {A₀ : Around} {base h₀ : Heap} {L : Addr} {m : Str → Option Value} {s : Shared} {Q E : Value → Shared → Prop}
    (B : Below A₀ base outer h₀) (F : Fr h₀ L s.heap m) (X : (hd.heap_39 w.params).In h₀) (N : News h₀ L s.heap news) (T : Top hd.view_39 (looseW hd.view_39 []) mean mg mb h₀) (hk : cs.kind = .function)
    (hd : dp + k < recursionLimit) (hu : un + 10 * k < cLine)
    (ret : ∀ r tl h' tk', Fr h₀ L h' m → News h₀ L h' (tl ++ news) → (∀ q ∈ news, ∀ p ∈ tl, q.1 < p.1) → Out r tl → Q r { s with heap := h', toks := tk' }) :
    wpAny (model PySem.Challenge.rw_xw0004_01.row.prog w) (ktrTop dp un gd cn cs L a ccd cl outer) (call (.ref f) vs) Q E s :=
  C mean mg mb dp un gd cn cs a ccd cl outer A₀ base h₀ L m s Q E B F X N T hk hd hu ret

abbrev Raises (w : World) (k : Nat) (f : Addr) (news : List (Addr × Obj)) (vs : List Value) : Prop :=
  ∀ (mean : ExcName → Option Value) (mg mb : Str → Option Value) (dp un : Nat) (gd : Option (List Code)) (cn : Str) (cs : Scope) (a : Addr) (ccd : Value) (cl : List (Str × Addr)) (outer : List Env) (A₀ : Around) (base h₀ : Heap) (L : Addr) (m : Str → Option Value) (s : Shared) (Q E : Value → Shared → Prop),
    Below A₀ base outer h₀ → Fr h₀ L s.heap m → (hd.heap_39 w.params).In h₀ → News h₀ L s.heap news → Top hd.view_39 (looseW hd.view_39 []) mean mg mb h₀ → cs.kind = .function →
    dp + k < recursionLimit → un + 10 * k < cLine →
    (∀ G e t vs' h' tk', Fr h₀ L G m → RaisedS base G (envX cn cs L a ccd cl :: outer) e (.ref 51) t vs' news h' → G.UpToSlots h' → E (.ref e) { s with heap := h', toks := tk' }) →
    wpAny (model PySem.Challenge.rw_xw0004_01.row.prog w) (ktrTop dp un gd cn cs L a ccd cl outer) (call (.ref f) vs) Q E s

theorem useR {w : World} {k : Nat} {f : Addr} {news : List (Addr × Obj)} {vs : List Value} (C : Raises w k f news vs)
    {mean : ExcName → Option Value} {mg mb : Str → Option Value} {dp un : Nat} {gd : Option (List Code)} {cn : Str} {cs : Scope} {a : Addr} {ccd : Value} {cl : List (Str × Addr)} {outer : List Env} {A₀ : Around} {base h₀ : Heap} {L : Addr} {m : Str → Option Value} {s : Shared} {Q E : Value → Shared → Prop}
    (B : Below A₀ base outer h₀) (F : Fr h₀ L s.heap m) (X : (hd.heap_39 w.params).In h₀) (N : News h₀ L s.heap news) (T : Top hd.view_39 (looseW hd.view_39 []) mean mg mb h₀) (hk : cs.kind = .function)
    (hd : dp + k < recursionLimit) (hu : un + 10 * k < cLine)
    (ret : ∀ G e t vs' h' tk', Fr h₀ L G m → RaisedS base G (envX cn cs L a ccd cl :: outer) e (.ref 51) t vs' news h' → G.UpToSlots h' → E (.ref e) { s with heap := h', toks := tk' }) :
    wpAny (model PySem.Challenge.rw_xw0004_01.row.prog w) (ktrTop dp un gd cn cs L a ccd cl outer) (call (.ref f) vs) Q E s :=
  C mean mg mb dp un gd cn cs a ccd cl outer A₀ base h₀ L m s Q E B F X N T hk hd hu ret

/-- a contract of a def that catches: for the law's own frame alone -/
abbrev CallsD (w : World) (k : Nat) (f : Addr) (news : List (Addr × Obj)) (vs : List Value) (Out : Value → List (Addr × Obj) → Prop) : Prop :=
  ∀ (mean : ExcName → Option Value) (mg mb : Str → Option Value) (dp un : Nat) (gd : Option (List Code)) (cn : Str) (cs : Scope) (a : Addr) (ccd : Value) (cl : List (Str × Addr)) (A₀ : Around) (h₀ : Heap) (L : Addr) (m : Str → Option Value) (s : Shared) (Q E : Value → Shared → Prop),
    Below A₀ h₀ [] h₀ → Fr h₀ L s.heap m → (hd.heap_39 w.params).In h₀ → News h₀ L s.heap news → Top hd.view_39 (looseW hd.view_39 []) mean mg mb h₀ → cs.kind = .function →
    dp + k < recursionLimit → un + 10 * k < cLine →
    (∀ r tl h' tk', Fr h₀ L h' m → News h₀ L h' (tl ++ news) → Out r tl → Q r { s with heap := h', toks := tk' }) →
    wpAny (model PySem.Challenge.rw_xw0004_01.row.prog w) (ktrTop dp un gd cn cs L a ccd cl []) (call (.ref f) vs) Q E s

/-- a contract of a def that changes one object of the caller's: it stands at the head of the ledger -/
abbrev CallsM (w : World) (k : Nat) (f : Addr) (C : Addr) (o : Obj) (rest : List (Addr × Obj)) (vs : List Value) (Out : Value → Obj → Prop) : Prop :=
  ∀ (mean : ExcName → Option Value) (mg mb : Str → Option Value) (dp un : Nat) (gd : Option (List Code)) (cn : Str) (cs : Scope) (a : Addr) (ccd : Value) (cl : List (Str × Addr)) (outer : List Env) (A₀ : Around) (base h₀ : Heap) (L : Addr) (m : Str → Option Value) (s : Shared) (Q E : Value → Shared → Prop),
    Below A₀ base outer h₀ → Fr h₀ L s.heap m → (hd.heap_39 w.params).In h₀ → News h₀ L s.heap ((C, o) :: rest) → (∀ p ∈ rest, p.1 ≠ C) → Top hd.view_39 (looseW hd.view_39 []) mean mg mb h₀ → cs.kind = .function →
    dp + k < recursionLimit → un + 10 * k < cLine →
    (∀ r o' h' tk', Fr h₀ L h' m → News h₀ L h' ((C, o') :: rest) → Out r o' → Q r { s with heap := h', toks := tk' }) →
    wpAny (model PySem.Challenge.rw_xw0004_01.row.prog w) (ktrTop dp un gd cn cs L a ccd cl outer) (call (.ref f) vs) Q E s

/-- |n| div |d|, with the sign of the quotient -/
def cutz (n d : Int) : Int := if n < 0 then -((-n) / d) else n / d

section
variable {h₀ : Heap} {L : Addr} {m : Str → Option Value} {news : List (Addr × Obj)} {s : Shared} {Q : Value → Shared → Prop} {h' : Heap} {tk' : Nat}
theorem ret0 {Out : Value → List (Addr × Obj) → Prop}
    (hret : ∀ r tl h' tk', Fr h₀ L h' m → News h₀ L h' (tl ++ news) → (∀ q ∈ news, ∀ p ∈ tl, q.1 < p.1) → Out r tl → Q r { s with heap := h', toks := tk' })
    {v : Value} (F : Fr h₀ L h' m) (N : News h₀ L h' news) (o : Out v []) : Q v { s with heap := h', toks := tk' } :=
  hret v [] h' tk' F N (fun _ _ _ h => nomatch h) o
theorem retI {X : Int}
    (hret : ∀ r tl h' tk', Fr h₀ L h' m → News h₀ L h' (tl ++ news) → (∀ q ∈ news, ∀ p ∈ tl, q.1 < p.1) → (tl = [] ∧ ∃ t, r = Value.int X t) → Q r { s with heap := h', toks := tk' })
    {x : Int} {t : Tok} (F : Fr h₀ L h' m) (N : News h₀ L h' news) (e : x = X) : Q (.int x t) { s with heap := h', toks := tk' } :=
  ret0 hret F N ⟨rfl, t, by rw [e]⟩
theorem news_sub {h : Heap} {l l' : List (Addr × Obj)} (N : News h₀ L h l) (hs : ∀ p ∈ l', p ∈ l) : News h₀ L h l' := fun p hp => N p (hs p hp)
end
theorem x51 (P : Params) : xIn (hd.heap_39 P) 51 = true := by kernel_rfl
theorem o51 (P : Params) : excOver (hd.heap_39 P) 51 = true := by kernel_rfl
theorem log2_small {d : Int} (h : d.natAbs < 2 ^ 62) : d.natAbs.log2 < 9000 := by
  by_cases e : d.natAbs = 0
  · rw [e]; decide
  · exact Nat.lt_trans ((Nat.log2_lt e).mpr h) (by decide)
theorem cut_fdiv (n : Int) {d : Int} (h : 0 < d) : (if n < 0 then -n else n).fdiv (if d < 0 then -d else d) = if n < 0 then (-n) / d else n / d := by
  rw [if_neg (show ¬ d < 0 by omega), Int.fdiv_eq_ediv_of_nonneg _ (Int.le_of_lt h)]
  split <;> rfl
theorem cut_neg {n d : Int} (h : 0 < d) (q : (decide (n < 0) != decide (d < 0)) = true) : -(if n < 0 then -n else n).fdiv (if d < 0 then -d else d) = cutz n d := by
  have hn : n < 0 := by
    have : ¬ d < 0 := by omega
    simpa [this] using q
  rw [cut_fdiv n h, if_pos hn]
  unfold cutz
  rw [if_pos hn]
theorem cut_pos {n d : Int} (h : 0 < d) (q : (decide (n < 0) != decide (d < 0)) = false) : (if n < 0 then -n else n).fdiv (if d < 0 then -d else d) = cutz n d := by
  have hn : ¬ n < 0 := by
    have : ¬ d < 0 := by omega
    simpa [this] using q
  rw [cut_fdiv n h, if_neg hn]
  unfold cutz
  rw [if_neg hn]

abbrev tup2 (a b : Int) (t u : Tok) : Obj := { cls := .type "tuple", data := .seq #[.int a t, .int b u] }

structure TyE (es : List DictEntry) (kind : String) (sm : Addr) (lo hi : Int) (t1 t2 t3 : Tok) : Prop where
  kind : getL (Str.ofString "kind") es = some (some (.str (Str.ofString kind) t1))
  small : getL (Str.ofString "small") es = some (some (.ref sm))
  low : getL (Str.ofString "low") es = some (some (.int lo t2))
  high : getL (Str.ofString "high") es = some (some (.int hi t3))

/-- what a maker of a type gives back, and what it adds to the ledger -/
abbrev Made (kind : String) (n d lo hi : Int) (r : Value) (tl : List (Addr × Obj)) : Prop :=
  ∃ x dx sm es c t u t1 t2 t3, r = .ref x ∧ tl = [(x, instObj 322 dx), (dx, dictOf es c), (sm, tup2 n d t u)] ∧ TyE es kind sm lo hi t1 t2 t3

theorem mem_tail {α : Type} {a b : α} {l : List α} (h : a ∈ l) : a ∈ b :: l := .tail _ h
theorem sub3 {a b c : Addr × Obj} {news l : List (Addr × Obj)} (ha : a ∈ l) (hb : b ∈ l) (hc : c ∈ l) (hn : ∀ p ∈ news, p ∈ l) : ∀ p ∈ [a, b, c] ++ news, p ∈ l := by
  intro p hp
  rcases List.mem_append.mp hp with hp | hp
  · simp only [List.mem_cons, List.not_mem_nil, or_false] at hp
    rcases hp with rfl | rfl | rfl <;> assumption
  · exact hn p hp
theorem ord1 {a : Nat} {oa : Obj} {news : List (Addr × Obj)} (l : ∀ p ∈ news, p.1 < a) : ∀ q ∈ news, ∀ p ∈ [(a, oa)], q.1 < p.1 := by
  intro q hq p hp
  rw [List.mem_singleton.mp hp]
  exact l q hq
theorem xne1 {t e : Nat} {o : Obj} {news : List (Addr × Obj)} (l : ∀ p ∈ news, p.1 < t) (h : t < e) : ∀ p ∈ ((t, o) : Addr × Obj) :: news, p.1 ≠ e := by
  intro p hp
  rcases List.mem_cons.mp hp with rfl | hp
  · exact Nat.ne_of_lt h
  · exact Nat.ne_of_lt (Nat.lt_trans (l p hp) h)
theorem xne2 {t e t' : Nat} {o o' oe : Obj} {news : List (Addr × Obj)} (l : ∀ p ∈ news, p.1 < t) (h : t < e) (l' : ∀ p ∈ ((e, oe) : Addr × Obj) :: (t, o) :: news, p.1 < t') : ∀ p ∈ ((t', o') : Addr × Obj) :: (t, o) :: news, p.1 ≠ e := by
  intro p hp
  rcases List.mem_cons.mp hp with rfl | hp
  · exact Nat.ne_of_gt (l' _ (.head _))
  · exact xne1 l h p hp
theorem xne3 {t e t' : Nat} {o oe : Obj} {news : List (Addr × Obj)} (l : ∀ p ∈ news, p.1 < t) (h : t < e) (l' : ∀ p ∈ ((e, oe) : Addr × Obj) :: (t, o) :: news, p.1 < t') : ∀ p ∈ news, p.1 ≠ e ∧ p.1 ≠ t' :=
  fun p hp => ⟨Nat.ne_of_lt (Nat.lt_trans (l p hp) h), Nat.ne_of_lt (l' p (.tail _ (.tail _ hp)))⟩
theorem raised_sub {base G : Heap} {l : List Env} {e : Addr} {cls : Value} {t : Addr} {vs : List Value} {news news' : List (Addr × Obj)} {h : Heap} (R : RaisedS base G l e cls t vs news' h) (hs : ∀ p ∈ news, p ∈ news') : RaisedS base G l e cls t vs news h := by
  obtain ⟨⟨B, h1, h2, h3, h4, h5⟩, h6⟩ := R
  exact ⟨⟨B, h1, h2, fun q hq => h3 q (hs q hq), h4, h5⟩, h6⟩
theorem news_cat {h₀ h : Heap} {L : Addr} {l tl news : List (Addr × Obj)} (N : News h₀ L h l) (N2 : News h₀ L h news) (hs : ∀ p ∈ tl, p ∈ l) : News h₀ L h (tl ++ news) := fun p hp => (List.mem_append.mp hp).elim (fun q => N p (hs p q)) (fun q => N2 p q)
theorem sub1 {a : Addr × Obj} {l : List (Addr × Obj)} (h : a ∈ l) : ∀ p ∈ [a], p ∈ l := fun p hp => by rw [List.mem_singleton.mp hp]; exact h
theorem fmod_in {a m : Int} (h : 0 < m) : 0 ≤ a.fmod m ∧ a.fmod m < m := by
  rw [Int.fmod_eq_emod_of_nonneg _ (Int.le_of_lt h)]
  exact ⟨Int.emod_nonneg _ (Int.ne_of_gt h), Int.emod_lt_of_pos _ h⟩
theorem ne_of_allLt {a : Nat} {news : List (Addr × Obj)} (l : ∀ p ∈ news, p.1 < a) : ∀ p ∈ news, p.1 ≠ a := fun p hp => Nat.ne_of_lt (l p hp)
theorem ne_of_allLt' {a : Nat} : ∀ {news : List (Addr × Obj)}, AllLt a news → ∀ p ∈ news, p.1 ≠ a
  | [], _, _, hp => nomatch hp
  | _ :: _, h, p, hp => by
    rcases List.mem_cons.mp hp with rfl | hp
    · exact Nat.ne_of_lt h.1
    · exact ne_of_allLt' h.2 p hp
theorem ordLt3 {a b c : Addr} {oa ob oc : Obj} {news : List (Addr × Obj)} (h : ∀ q ∈ news, ∀ p ∈ [(a, oa), (b, ob), (c, oc)], q.1 < p.1) : AllLt a news ∧ AllLt b news ∧ AllLt c news :=
  ⟨allLt_of fun q hq => h q hq _ (.head _), allLt_of fun q hq => h q hq _ (.tail _ (.head _)), allLt_of fun q hq => h q hq _ (.tail _ (.tail _ (.head _)))⟩
theorem ord3 {a b c d : Nat} {oa ob oc : Obj} {news : List (Addr × Obj)} (l : ∀ p ∈ news, p.1 < d) (ha : d ≤ a) (hb : d ≤ b) (hc : d ≤ c) : ∀ q ∈ news, ∀ p ∈ [(a, oa), (b, ob), (c, oc)], q.1 < p.1 := by
  intro q hq p hp
  have h := l q hq
  simp only [List.mem_cons, List.not_mem_nil, or_false] at hp
  rcases hp with rfl | rfl | rfl
  · exact Nat.lt_of_lt_of_le h ha
  · exact Nat.lt_of_lt_of_le h hb
  · exact Nat.lt_of_lt_of_le h hc
theorem sub_tail {a : Addr × Obj} {news l : List (Addr × Obj)} (h : ∀ p ∈ news, p ∈ l) : ∀ p ∈ news, p ∈ a :: l := fun p hp => .tail _ (h p hp)
end Mine
end
section
theorem Mine.anew_C1 : True := by
  w_top off
  trivial
open PySem PySem.W PyProof.Rows
set_option maxRecDepth 100000
set_option maxHeartbeats 8000000
theorem Mine.filled : PySem.Challenge.rw_xw0004_01.Holds → Mine.hd.heap_39 = Mine.hd.heap_39 := by
  k_fill
  intro _; rfl
namespace Mine
local macro_rules | `(tactic| k_room) => `(tactic| ((try simp only [depth_mark, depth_under_make, depth_under_kw, depth_in1, depth_deeper, depth_caller] at *); (try dsimp only [ktrTop] at *); (try simp only [recursionLimit] at *); omega))
local macro_rules | `(tactic| k_get) => `(tactic| (with_reducible assumption))
local macro_rules | `(tactic| walk_at "binaryOp FloorDiv int int") => `(tactic| ((with_reducible refine floordiv_int ?fz ?_ (Or.inl (PyProof.noPylong_of_log2 ?fl))); (case fz => first | omega | (split <;> omega)); (case fl => (refine Mine.log2_small ?_; first | omega | (split <;> omega)))))
theorem cut_calls {w : World} {news : List (Addr × Obj)} {n d : Int} {t1 t2 : Tok} (hd0 : 0 < d) (hd1 : d < 2 ^ 60) : Calls w 4 109 news [.int n t1, .int d t2] (fun r tl => tl = [] ∧ ∃ t, r = .int (cutz n d) t) := by
  intro mean mg mb dp un gd cn cs a ccd cl outer A₀ base h₀ L m s Q E B F X N T hk hdp hun hret
  refine wpAny_call ?_
  k_dflt cell_enter
  k_steps
  all_goals refine retI hret (by k_asm) (by k_asm) ?_
  · exact cut_neg hd0 (by assumption)
  · exact cut_pos hd0 (by assumption)

theorem check_calls {w : World} {news : List (Addr × Obj)} {x dx : Addr} {es : List DictEntry} {c : Nat} {lo hi : Int} {tl th : Tok} {v : Int} {t1 : Tok}
    (hx : (x, instObj 322 dx) ∈ news) (hdx : (dx, dictOf es c) ∈ news)
    (hlo : getL (Str.ofString "low") es = some (some (.int lo tl))) (hhi : getL (Str.ofString "high") es = some (some (.int hi th))) (h1 : lo ≤ v) (h2 : v ≤ hi) : Calls w 4 95 news [.ref x, .int v t1] (fun r tl => tl = [] ∧ ∃ t, r = .int v t) := by
  intro mean mg mb dp un gd cn cs a ccd cl outer A₀ base h₀ L m s Q E B F X N T hk hdp hun hret
  refine wpAny_call ?_
  k_dflt cell_enter
  k_steps
  all_goals exact retI hret (by k_asm) (by k_asm) rfl

local macro_rules | `(tactic| k_mem) => `(tactic| first | ktr_member | exact List.Mem.head _ | (refine' Mine.mem_tail ?_; k_mem))
theorem smallF_calls {w : World} {news : List (Addr × Obj)} {x dx sm : Addr} {es : List DictEntry} {c : Nat} {lo hi : Int} {u1 u2 u3 : Tok}
    (hx : (x, instObj 322 dx) ∈ news) (hdx : (dx, dictOf es c) ∈ news) (hT : TyE es "fixed" sm lo hi u1 u2 u3) : Calls w 4 116 news [.ref x] (fun r tl => tl = [] ∧ r = .ref sm) := by
  intro mean mg mb dp un gd cn cs a ccd cl outer A₀ base h₀ L m s Q E B F X N T hk hdp hun hret
  obtain ⟨a1, a2, a3, a4⟩ := hT
  refine wpAny_call ?_
  k_dflt cell_enter
  k_steps
  all_goals exact ret0 hret (by k_asm) (by k_asm) ⟨rfl, rfl⟩
theorem smallI_calls {w : World} {news : List (Addr × Obj)} {x dx sm : Addr} {es : List DictEntry} {c : Nat} {lo hi : Int} {u1 u2 u3 : Tok}
    (hx : (x, instObj 322 dx) ∈ news) (hdx : (dx, dictOf es c) ∈ news) (hT : TyE es "int" sm lo hi u1 u2 u3) : Calls w 4 116 news [.ref x] (fun r tl => ∃ q t u, tl = [(q, tup2 1 1 t u)] ∧ r = .ref q) := by
  intro mean mg mb dp un gd cn cs a ccd cl outer A₀ base h₀ L m s Q E B F X N T hk hdp hun hret
  obtain ⟨a1, a2, a3, a4⟩ := hT
  refine wpAny_call ?_
  k_dflt cell_enter
  k_steps
  all_goals (rename (∀ (p : Addr × Obj), p ∈ _ → p.1 < _) => l1)
  all_goals (refine' hret _ [_] _ _ ?kf ?kn ?ko ⟨_, _, _, rfl, rfl⟩; (case kf => k_asm); (case kn => k_asm); (case ko => exact ord1 l1))
end Mine
end
section
open PySem PySem.W PyProof.Rows
namespace Mine
theorem share_facts {x p : Int} (hx0 : -20000 ≤ x) (hx1 : x ≤ 20000) (hp0 : 0 < p) (hp1 : p ≤ 12) :
    -20000 ≤ cutz x p ∧ cutz x p ≤ 20000 ∧ -20000 ≤ cutz x p * p ∧ cutz x p * p ≤ 20000 ∧ 0 ≤ (x - cutz x p * p) * x ∧ (if x - cutz x p * p < 0 then -(x - cutz x p * p) else x - cutz x p * p) < p ∧
      (0 ≤ x → 0 ≤ x - cutz x p * p ∧ 0 ≤ cutz x p) ∧ (x < 0 → x - cutz x p * p ≤ 0 ∧ cutz x p ≤ 0) ∧ (0 ≤ x → (if x < 0 then -x else x).fdiv p = cutz x p) ∧ (x < 0 → -(if x < 0 then -x else x).fdiv p = cutz x p) := by
  by_cases hx : x < 0
  · have e : cutz x p = -((-x) / p) := by unfold cutz; rw [if_pos hx]
    rw [e, if_pos hx, Int.fdiv_eq_ediv_of_nonneg _ (Int.le_of_lt hp0)]
    have h1 := Int.mul_ediv_add_emod (-x) p
    have h2 := Int.emod_nonneg (-x) (Int.ne_of_gt hp0)
    have h3 := Int.emod_lt_of_pos (-x) hp0
    have h4 : 0 ≤ (-x) / p := Int.ediv_nonneg (by omega) (by omega)
    have h5 : (-x) / p ≤ -x := Int.ediv_le_self _ (by omega)
    generalize hq : (-x) / p = q at *
    generalize (-x) % p = r at *
    have e2 : -q * p = -(p * q) := by rw [Int.neg_mul, Int.mul_comm]
    rw [e2]
    generalize p * q = t at *
    refine ⟨by omega, by omega, by omega, by omega, ?_, by split <;> omega, by omega, by omega, by omega, by omega⟩
    exact Int.mul_nonneg_of_nonpos_of_nonpos (by omega) (by omega)
  · have e : cutz x p = x / p := by unfold cutz; rw [if_neg hx]
    rw [e, if_neg hx, Int.fdiv_eq_ediv_of_nonneg _ (Int.le_of_lt hp0)]
    have h1 := Int.mul_ediv_add_emod x p
    have h2 := Int.emod_nonneg x (Int.ne_of_gt hp0)
    have h3 := Int.emod_lt_of_pos x hp0
    have h4 : 0 ≤ x / p := Int.ediv_nonneg (by omega) (by omega)
    have h5 : x / p ≤ x := Int.ediv_le_self _ (by omega)
    generalize hq : x / p = q at *
    generalize x % p = r at *
    rw [Int.mul_comm q p]
    generalize p * q = t at *
    refine ⟨by omega, by omega, by omega, by omega, ?_, by split <;> omega, by omega, by omega, by omega, by omega⟩
    exact Int.mul_nonneg (by omega) (by omega)

/-- ints of one sign that together make x -/
structure Good (ns : List Int) (x : Int) : Prop where
  sum : ns.sum = x
  sign : (∀ a ∈ ns, 0 ≤ a) ∨ (∀ a ∈ ns, a ≤ 0)

theorem sum_lo : ∀ {l : List Int}, (∀ a ∈ l, 0 ≤ a) → 0 ≤ l.sum
  | [], _ => Int.le_refl 0
  | a :: l, h => by
    have := h a (.head _)
    have := sum_lo (l := l) fun b hb => h b (.tail _ hb)
    rw [List.sum_cons]; omega
theorem sum_hi : ∀ {l : List Int}, (∀ a ∈ l, a ≤ 0) → l.sum ≤ 0
  | [], _ => Int.le_refl 0
  | a :: l, h => by
    have := h a (.head _)
    have := sum_hi (l := l) fun b hb => h b (.tail _ hb)
    rw [List.sum_cons]; omega
theorem Good.pre {ns : List Int} {x : Int} (G : Good ns x) (h0 : -20000 ≤ x) (h1 : x ≤ 20000) : ∀ pre post, ns = pre ++ post → -20000 ≤ pre.sum ∧ pre.sum ≤ 20000 := by
  rintro pre post rfl
  have e := G.sum
  rw [List.sum_append] at e
  rcases G.sign with s | s
  · have := sum_lo (l := pre) fun a ha => s a (List.mem_append_left _ ha)
    have := sum_lo (l := post) fun a ha => s a (List.mem_append_right _ ha)
    omega
  · have := sum_hi (l := pre) fun a ha => s a (List.mem_append_left _ ha)
    have := sum_hi (l := post) fun a ha => s a (List.mem_append_right _ ha)
    omega
theorem sum_rev : ∀ l : List Int, l.reverse.sum = l.sum
  | [] => rfl
  | a :: l => by rw [List.reverse_cons, List.sum_append, sum_rev l, List.sum_singleton, List.sum_cons, Int.add_comm]
theorem Good.rev {ns : List Int} {x : Int} (G : Good ns x) : Good ns.reverse x :=
  ⟨(sum_rev ns).trans G.sum, G.sign.imp (fun h a ha => h a (List.mem_reverse.mp ha)) (fun h a ha => h a (List.mem_reverse.mp ha))⟩

theorem deal_sum {c d r : Int} (hr : 0 ≤ r) : ∀ n : Nat, ((rangeKs 0 n).map fun k => if k < r then c + d else c + 0).sum = c * (n : Int) + d * (if (n : Int) ≤ r then (n : Int) else r)
  | 0 => by simp [rangeKs, hr]
  | n + 1 => by
    have ih := deal_sum (c := c) (d := d) hr n
    have e : rangeKs 0 (n + 1) = rangeKs 0 n ++ [(n : Int)] := by simp [rangeKs, List.range_succ]
    rw [e, List.map_append, List.sum_append, ih, List.map_singleton, List.sum_singleton]
    have e2 : ((n + 1 : Nat) : Int) = (n : Int) + 1 := by omega
    rw [e2, Int.mul_add, Int.mul_one]
    by_cases h1 : (n : Int) < r
    · rw [if_pos h1, if_pos (by omega : (n : Int) ≤ r), if_pos (by omega : (n : Int) + 1 ≤ r), Int.mul_add, Int.mul_one]; omega
    · rw [if_neg h1, if_neg (by omega : ¬ (n : Int) + 1 ≤ r)]
      have : (if (n : Int) ≤ r then (n : Int) else r) = r := by split <;> omega
      rw [this]; omega
theorem deal_mem {c d r M : Int} {l : List Int} (h : M ∈ l.map fun k => if k < r then c + d else c + 0) : M = c + d ∨ M = c := by
  obtain ⟨k, _, rfl⟩ := List.mem_map.mp h
  split
  · exact .inl rfl
  · exact .inr (Int.add_zero c)
def HD (c R d p : Int) : Prop := 0 < R ∧ 0 ≤ c ∧ d = 1 ∧ R < p ∨ R ≤ 0 ∧ (c ≤ 0 ∨ R = 0) ∧ d = -1 ∧ -R < p
theorem share_good {x p : Int} (hx0 : -20000 ≤ x) (hx1 : x ≤ 20000) (hp0 : 0 < p) (hp1 : p ≤ 12) : (0 < x - cutz x p * p → HD (cutz x p) (x - cutz x p * p) 1 p) ∧ (¬ 0 < x - cutz x p * p → HD (cutz x p) (x - cutz x p * p) (-1) p) := by
  obtain ⟨_, _, _, _, _, f6, f7, f8, _, _⟩ := share_facts hx0 hx1 hp0 hp1
  generalize x - cutz x p * p = R at *
  generalize cutz x p = c at *
  unfold HD
  refine ⟨fun h => .inl ?_, fun h => .inr ?_⟩
  · rw [if_neg (by omega)] at f6
    omega
  · by_cases h0 : R < 0
    · rw [if_pos h0] at f6
      omega
    · rw [if_neg h0] at f6
      omega
theorem deal_good {x p c R d : Int} (hp : 0 < p) (e : R = x - c * p) (hd : HD c R d p) :
    Good (List.map (fun k => if k < (if R < 0 then -R else R) then c + d else c + 0) (rangeKs 0 (p - 0).toNat)) x := by
  unfold HD at hd
  constructor
  · rw [deal_sum (by split <;> omega)]
    have : ((p - 0).toNat : Int) = p := by omega
    rw [this]
    rcases hd with ⟨h1, h2, h3, h4⟩ | ⟨h1, h2, h3, h4⟩
    · rw [if_neg (by omega : ¬ R < 0), if_neg (by omega : ¬ p ≤ R), h3]
      omega
    · have e3 : (if R < 0 then -R else R) = -R := by split <;> omega
      rw [e3, if_neg (by omega : ¬ p ≤ -R), h3]
      omega
  · rcases hd with ⟨h1, h2, h3, h4⟩ | ⟨h1, h2, h3, h4⟩
    · exact .inl fun a ha => by rcases deal_mem ha with h | h <;> omega
    · rcases h2 with h2 | h2
      · exact .inr fun a ha => by rcases deal_mem ha with h | h <;> omega
      · have e3 : (if R < 0 then -R else R) = 0 := by split <;> omega
        rw [e3]
        have hall : ∀ a ∈ List.map (fun k => if k < 0 then c + d else c + 0) (rangeKs 0 (p - 0).toNat), a = c := by
          intro a ha
          obtain ⟨k, hk, rfl⟩ := List.mem_map.mp ha
          have := (mem_rangeKs hk).1
          rw [if_neg (by omega : ¬ k < 0)]; omega
        by_cases hc : 0 ≤ c
        · exact .inl fun a ha => by have := hall a ha; omega
        · exact .inr fun a ha => by have := hall a ha; omega
structure Ask (x : Int) : Prop where
  intro ::
theorem flat_mem {c M : Int} {l : List Int} (h : M ∈ l.map fun _ => c + 0) : M = c + 0 ∨ M = c := by
  obtain ⟨k, _, rfl⟩ := List.mem_map.mp h
  exact .inl rfl
theorem flat_sum {c : Int} : ∀ n : Nat, ((rangeKs 0 n).map fun _ => c + 0).sum = c * (n : Int)
  | 0 => by simp [rangeKs]
  | n + 1 => by
    have ih := flat_sum (c := c) n
    have e : rangeKs 0 (n + 1) = rangeKs 0 n ++ [(n : Int)] := by simp [rangeKs, List.range_succ]
    rw [e, List.map_append, List.sum_append, ih, List.map_singleton, List.sum_singleton]
    have e2 : ((n + 1 : Nat) : Int) = (n : Int) + 1 := by omega
    rw [e2, Int.mul_add, Int.mul_one]; omega
theorem flat_good {x p c : Int} (_ : Ask x) (hp : 0 < p) (e : x - c * p = 0) : Good (List.map (fun _ => c + 0) (rangeKs 0 (p - 0).toNat)) x := by
  constructor
  · rw [flat_sum]
    have : ((p - 0).toNat : Int) = p := by omega
    rw [this]; omega
  · have hall : ∀ a ∈ List.map (fun _ => c + 0) (rangeKs 0 (p - 0).toNat), a = c := by
      intro a ha
      rcases flat_mem ha with h | h <;> omega
    by_cases hc : 0 ≤ c
    · exact .inl fun a ha => by have := hall a ha; omega
    · exact .inr fun a ha => by have := hall a ha; omega
/-- what the walk of the shares asks of x and p, kept out of omega's sight -/
structure SF (x p : Int) : Prop where
  pos : 0 ≤ x → (if x < 0 then -x else x).fdiv p = cutz x p
  neg : x < 0 → -(if x < 0 then -x else x).fdiv p = cutz x p
  one : 0 < x - cutz x p * p → HD (cutz x p) (x - cutz x p * p) 1 p
  two : ¬ 0 < x - cutz x p * p → HD (cutz x p) (x - cutz x p * p) (-1) p
theorem share_all {x p : Int} (hx0 : -20000 ≤ x) (hx1 : x ≤ 20000) (hp0 : 0 < p) (hp1 : p ≤ 12) :
    SF x p ∧ -20000 ≤ cutz x p ∧ cutz x p ≤ 20000 ∧ -20000 ≤ cutz x p * p ∧ cutz x p * p ≤ 20000 ∧ 0 ≤ (x - cutz x p * p) * x ∧ (if x - cutz x p * p < 0 then -(x - cutz x p * p) else x - cutz x p * p) < p ∧
      -12 < x - cutz x p * p ∧ x - cutz x p * p < 12 := by
  obtain ⟨f1, f2, f3, f4, f5, f6, _, _, f9, f10⟩ := share_facts hx0 hx1 hp0 hp1
  obtain ⟨g1, g2⟩ := share_good hx0 hx1 hp0 hp1
  refine ⟨⟨f9, f10, g1, g2⟩, f1, f2, f3, f4, f5, f6, ?_, ?_⟩ <;>
  · clear f5 f9 f10 g1 g2
    generalize x - cutz x p * p = R at *
    split at f6 <;> omega
theorem HD.unit {c R d p : Int} (h : HD c R d p) : -1 ≤ d ∧ d ≤ 1 := by
  unfold HD at h
  omega
end Mine
end
section
open PySem PySem.W PyProof.Rows
set_option maxRecDepth 100000
namespace Mine
theorem find_put {name k : Str} {hsh : Int} {tk : Tok} {v : Value} : ∀ es : List DictEntry,
    (putL name hsh (.str name tk) v es).find? (·.key.isStr k) = if k = name then (putL name hsh (.str name tk) v es).find? (·.key.isStr name) else es.find? (·.key.isStr k)
  | [] => by
    by_cases e : k = name
    · rw [if_pos e, e]
    · rw [if_neg e]
      have : (Value.str name tk).isStr k = false := by
        cases h : (Value.str name tk).isStr k with
        | false => rfl
        | true => exact absurd (Value.isStr_inj _ _ _ h (by simp [Value.isStr])) e
      simp [putL, this]
  | e :: r => by
    have ih := find_put (name := name) (k := k) (hsh := hsh) (tk := tk) (v := v) r
    by_cases ek : k = name
    · rw [if_pos ek, ek]
    · rw [if_neg ek] at ih ⊢
      unfold putL
      cases h : e.key.isStr name with
      | true =>
        have hk : e.key.isStr k = false := by
          cases h2 : e.key.isStr k with
          | false => rfl
          | true => exact absurd (Value.isStr_inj _ _ _ h2 h) ek
        simp [hk]
      | false =>
        simp only [Bool.false_eq_true, if_false, List.find?_cons]
        rw [ih]
theorem find_here {name : Str} {hsh : Int} {tk : Tok} {v : Value} : ∀ es : List DictEntry,
    ∃ e, (putL name hsh (.str name tk) v es).find? (·.key.isStr name) = some e ∧ e.val = v
  | [] => ⟨⟨hsh, .str name tk, v⟩, by simp [putL, Value.isStr], rfl⟩
  | e :: r => by
    unfold putL
    cases h : e.key.isStr name with
    | true => exact ⟨⟨e.hash, e.key, v⟩, by simp [h], rfl⟩
    | false =>
      obtain ⟨x, h1, h2⟩ := find_here (name := name) (hsh := hsh) (tk := tk) (v := v) r
      exact ⟨x, by simp [h, h1], h2⟩
theorem refs_put {name : Str} {hsh : Int} {tk : Tok} {v : Value} : ∀ es : List DictEntry, es.any (·.refKey) = false → (putL name hsh (.str name tk) v es).any (·.refKey) = false
  | [], _ => rfl
  | e :: r, h => by
    obtain ⟨h1, h2⟩ := Bool.or_eq_false_iff.mp h
    unfold putL
    cases hk : e.key.isStr name with
    | true => exact Bool.or_eq_false_iff.mpr ⟨h1, h2⟩
    | false => exact Bool.or_eq_false_iff.mpr ⟨h1, refs_put r h2⟩
theorem len_put {name : Str} {hsh : Int} {key v : Value} : ∀ es : List DictEntry, (putL name hsh key v es).length ≤ es.length + 1
  | [] => Nat.le_refl _
  | e :: r => by
    unfold putL
    cases e.key.isStr name with
    | true => simp
    | false => simpa using len_put r

/-- what is known of a type's dict: four names, no ref among the keys, its length -/
structure TyV (es : List DictEntry) (n : Nat) (kind small low high : Option Value) : Prop where
  kind : getL (Str.ofString "kind") es = some kind
  small : getL (Str.ofString "small") es = some small
  low : getL (Str.ofString "low") es = some low
  high : getL (Str.ofString "high") es = some high
  refs : es.any (·.refKey) = false
  len : es.length ≤ n
theorem TyV.nil : TyV [] 0 none none none none := ⟨rfl, rfl, rfl, rfl, rfl, Nat.le_refl _⟩
theorem TyV.is {es : List DictEntry} {n : Nat} {a b c d : Option Value} (T : TyV es n a b c d) (k : Str) : (getL k es).isSome = true := by
  unfold getL
  rw [T.refs]
  split <;> rfl
theorem get_put {name : Str} {hsh : Int} {tk : Tok} {v : Value} {es : List DictEntry} : getL name (putL name hsh (.str name tk) v es) = some (some v) := by
  obtain ⟨e, h1, h2⟩ := find_here (name := name) (hsh := hsh) (tk := tk) (v := v) es
  unfold getL
  rw [h1, ← h2]
theorem get_put_ne {name k : Str} {hsh : Int} {tk : Tok} {v : Value} {es : List DictEntry} {o : Option Value} (ne : (k == name) = false) (r : es.any (·.refKey) = false) (h : getL k es = some o) : getL k (putL name hsh (.str name tk) v es) = some o := by
  have e : ¬ k = name := by
    intro e
    rw [e] at ne
    simp at ne
  unfold getL at h ⊢
  rw [find_put, if_neg e, refs_put es r]
  rw [r] at h
  exact h
section
variable {name : Str} {hsh : Int} {tk : Tok} {v : Value} {es : List DictEntry} {n : Nat} {a b c d : Option Value}
theorem TyV.other (T : TyV es n a b c d) (h : ((Str.ofString "kind" == name) || (Str.ofString "small" == name) || (Str.ofString "low" == name) || (Str.ofString "high" == name)) = false) : TyV (putL name hsh (.str name tk) v es) (n + 1) a b c d := by
  simp only [Bool.or_eq_false_iff] at h
  obtain ⟨⟨⟨h1, h2⟩, h3⟩, h4⟩ := h
  exact ⟨get_put_ne h1 T.refs T.kind, get_put_ne h2 T.refs T.small, get_put_ne h3 T.refs T.low, get_put_ne h4 T.refs T.high, refs_put _ T.refs, Nat.le_trans (len_put _) (Nat.succ_le_succ T.len)⟩
theorem TyV.kind' (T : TyV es n a b c d) : TyV (putL (Str.ofString "kind") hsh (.str (Str.ofString "kind") tk) v es) (n + 1) (some v) b c d :=
  ⟨get_put, get_put_ne (by decide) T.refs T.small, get_put_ne (by decide) T.refs T.low, get_put_ne (by decide) T.refs T.high, refs_put _ T.refs, Nat.le_trans (len_put _) (Nat.succ_le_succ T.len)⟩
theorem TyV.small' (T : TyV es n a b c d) : TyV (putL (Str.ofString "small") hsh (.str (Str.ofString "small") tk) v es) (n + 1) a (some v) c d :=
  ⟨get_put_ne (by decide) T.refs T.kind, get_put, get_put_ne (by decide) T.refs T.low, get_put_ne (by decide) T.refs T.high, refs_put _ T.refs, Nat.le_trans (len_put _) (Nat.succ_le_succ T.len)⟩
theorem TyV.low' (T : TyV es n a b c d) : TyV (putL (Str.ofString "low") hsh (.str (Str.ofString "low") tk) v es) (n + 1) a b (some v) d :=
  ⟨get_put_ne (by decide) T.refs T.kind, get_put_ne (by decide) T.refs T.small, get_put, get_put_ne (by decide) T.refs T.high, refs_put _ T.refs, Nat.le_trans (len_put _) (Nat.succ_le_succ T.len)⟩
theorem TyV.high' (T : TyV es n a b c d) : TyV (putL (Str.ofString "high") hsh (.str (Str.ofString "high") tk) v es) (n + 1) a b c (some v) :=
  ⟨get_put_ne (by decide) T.refs T.kind, get_put_ne (by decide) T.refs T.small, get_put_ne (by decide) T.refs T.low, get_put, refs_put _ T.refs, Nat.le_trans (len_put _) (Nat.succ_le_succ T.len)⟩
end
section
variable {prog : Program} {w : World} {A : Around} {E : Value → Shared → Prop} {s : Shared} {K : Frag} {x C dx L : Addr} {h₀ : Heap} {m : Str → Option Value} {news : List (Addr × Obj)} {news' : List DictEntry → Nat → List (Addr × Obj)} {ox : Obj} {es : List DictEntry} {n i : Nat} {name : Str} {v : Value} {a b c d a' b' c' d' : Option Value}
/-- a field of a type is stored: what is known of the dict alone is kept -/
theorem set_ty {Q : Unit → Shared → Prop} (F : Fr h₀ L s.heap m) (X₀ : K.In h₀) (N : News h₀ L s.heap news) (I : InstAt s.heap x ox C (some (dictOf es n))) (hd : ox.dict = some dx)
    (hs : findIn K (.ref C) "__setattr__" = some (some (.builtin "object.__setattr__"))) (hp : plainOver K C = true) (ht : takerIn K C name = some none) (hh : hasDictIn K C = true)
    (T : TyV es i a b c d) (T' : TyV (putL name (PyData.keyHash w.params name) (.str name (s.toks + 1)) v es) (i + 1) a' b' c' d') (hi : i + 1 ≤ 1000)
    (U : ∀ es' n', Upd dx (dictOf es n) (dictOf es' n') news (news' es' n'))
    (h : ∀ h' es' n', TyV es' (i + 1) a' b' c' d' → Fr h₀ L h' m → News h₀ L h' (news' es' n') → Q () { s with heap := h', toks := s.toks + 2 }) :
    wpAny (model prog w) A (setAttr (.ref x) name v) Q E s :=
  set_dict F X₀ N I hd hs hp ht hh (T.is name) rfl (U _ _) (Nat.le_trans T'.len hi) fun h' F' N' => h h' _ _ T' F' N'
end
end Mine
end
section
theorem Mine.anew_C2 : True := by
  w_top off
  trivial
open PySem PySem.W PyProof.Rows
set_option maxRecDepth 100000
set_option maxHeartbeats 8000000
namespace Mine
local macro_rules | `(tactic| k_room) => `(tactic| ((try simp only [depth_mark, depth_under_make, depth_under_kw, depth_in1, depth_deeper, depth_caller] at *); (try dsimp only [ktrTop] at *); (try simp only [recursionLimit] at *); omega))
theorem sub2 {a b : Addr × Obj} {news l : List (Addr × Obj)} (ha : a ∈ l) (hb : b ∈ l) (hn : ∀ p ∈ news, p ∈ l) : ∀ p ∈ [a, b] ++ news, p ∈ l := by
  intro p hp
  rcases List.mem_append.mp hp with hp | hp
  · simp only [List.mem_cons, List.not_mem_nil, or_false] at hp
    rcases hp with rfl | rfl <;> assumption
  · exact hn p hp
theorem ord3b {x dx sm : Nat} {ox od os : Obj} {news : List (Addr × Obj)} (l : ∀ p ∈ news, p.1 < sm) (h : ∀ q ∈ (sm, os) :: news, ∀ p ∈ [(x, ox), (dx, od)], q.1 < p.1) : ∀ q ∈ news, ∀ p ∈ [(x, ox), (dx, od), (sm, os)], q.1 < p.1 := by
  intro q hq p hp
  simp only [List.mem_cons, List.not_mem_nil, or_false] at hp
  rcases hp with rfl | rfl | rfl
  · exact h q (.tail _ hq) _ (.head _)
  · exact h q (.tail _ hq) _ (.tail _ (.head _))
  · exact l q hq
abbrev MadeBy (sm : Addr) (lo hi : Int) (r : Value) (tl : List (Addr × Obj)) : Prop :=
  ∃ x dx es c t1 t2 t3, r = .ref x ∧ tl = [(x, instObj 322 dx), (dx, dictOf es c)] ∧ TyE es "fixed" sm lo hi t1 t2 t3
local macro_rules | `(tactic| k_all) => `(tactic| first | exact Mine.ne_of_allLt (by assumption) | exact Mine.ne_of_allLt' (by assumption))
theorem lt_of_all {a : Nat} : ∀ {l : List (Addr × Obj)}, AllLt a l → ∀ q ∈ l, q.1 < a
  | [], _, _, h => nomatch h
  | _ :: _, A, q, h => by
    rcases List.mem_cons.mp h with rfl | h
    · exact A.1
    · exact lt_of_all A.2 q h
theorem ordA2 {a b : Nat} {oa ob : Obj} {news : List (Addr × Obj)} (ha : AllLt a news) (hb : AllLt b news) : ∀ q ∈ news, ∀ p ∈ [(a, oa), (b, ob)], q.1 < p.1 := by
  intro q hq p hp
  simp only [List.mem_cons, List.not_mem_nil, or_false] at hp
  rcases hp with rfl | rfl
  · exact lt_of_all ha q hq
  · exact lt_of_all hb q hq
theorem ordA3 {a b c : Nat} {oa ob oc : Obj} {news : List (Addr × Obj)} (ha : AllLt a news) (hb : AllLt b news) (hc : AllLt c news) : ∀ q ∈ news, ∀ p ∈ [(a, oa), (b, ob), (c, oc)], q.1 < p.1 := by
  intro q hq p hp
  rcases List.mem_cons.mp hp with rfl | hp
  · exact lt_of_all ha q hq
  · exact ordA2 hb hc q hq p hp
theorem TyE.of {es : List DictEntry} {n : Nat} {k : String} {sm : Addr} {lo hi : Int} {t1 t2 t3 : Tok} (T : TyV es n (some (.str (Str.ofString k) t1)) (some (.ref sm)) (some (.int lo t2)) (some (.int hi t3))) : TyE es k sm lo hi t1 t2 t3 :=
  ⟨T.kind, T.small, T.low, T.high⟩
local macro_rules | `(tactic| walk_at "setAttr ref") => `(tactic| (k_here; k_dflt (refine' set_ty ?k1 ?k2 ?k3 ?k4 ?k5 ?k6 ?k7 ?k8 ?k9 ?t1 ?t2 ?t3 ?u ?_; (case k1 => k_asm); (case k2 => k_asm); (case k3 => k_asm); (case k4 => k_inst); (case k5 => exact rfl); (case k6 => k_is); (case k7 => k_is); (case k8 => k_is); (case k9 => k_is); (case t1 => first | with_reducible assumption | exact TyV.nil); (case t2 => first | exact TyV.kind' (by assumption) | exact TyV.small' (by assumption) | exact TyV.low' (by assumption) | exact TyV.high' (by assumption) | exact TyV.other (by assumption) rfl | exact TyV.kind' TyV.nil); (case t3 => exact Nat.le_of_ble_eq_true rfl); (case u => (intro e' n'; k_upd)); k_whole); intro h' es' n' T' F' N'; (try dsimp only at N'); (try k_sweep)))
abbrev TypeMade (kd : String) (r : Value) (tl : List (Addr × Obj)) : Prop :=
  ∃ x dx sm es c t u t1, r = .ref x ∧ tl = [(x, instObj 322 dx), (dx, dictOf es c), (sm, tup2 1 1 t u)] ∧ TyV es 24 (some (.str (Str.ofString kd) t1)) (some (.ref sm)) (some .none) (some .none) ∧ @Ne Nat x dx ∧ @Ne Nat sm dx
theorem type_calls {w : World} {news : List (Addr × Obj)} {kd : String} {nm : Str} {tk tn : Tok} : Calls w 6 322 news [.str (Str.ofString kd) tk, .str nm tn] (TypeMade kd) := by
  intro mean mg mb dp un gd cn cs a ccd cl outer A₀ base h₀ L m s Q E B F X N T hk hdp hun hret
  k_dflt (refine' call_cls ?k1 ?k2 ?k3 ?k4 ?k5 ?k6 ?_; (case k1 => k_asm); (case k2 => k_asm); (case k3 => k_asm); (case k4 => k_is); (case k5 => k_is); (case k6 => k_is))
  k_whole
  intro x' d' h' F' N' l1 l2
  (try k_lt l1)
  (try k_lt2 l2)
  (try k_sweep)
  cell_enter
  k_steps
  all_goals (rename (∀ (p : Addr × Obj), p ∈ _ → p.1 < _) => l1)
  all_goals (refine' hret _ _ _ _ (by k_asm) (news_sub (by k_asm) (sub3 ?a ?b ?c ?n)) (ord3 l1 ?d ?e ?f) ⟨_, _, _, _, _, _, _, _, rfl, rfl, ?k1, ?k2, ?k3⟩)
  case a => k_mem
  case b => k_mem
  case c => k_mem
  case k1 => assumption
  case n => repeat (first | exact fun _ h => h | refine sub_tail ?_)
  case d => omega
  case e => omega
  case f => omega
  case k2 => omega
  case k3 => omega
local macro_rules | `(tactic| walk_at "call ref") => `(tactic| (k_here; (with_reducible show wpAny _ _ (call (Value.ref 322) _) _ _ _); k_dflt (refine' use type_calls ?k1 ?k2 ?k3 ?k4 ?k5 ?kK ?kd ?ku ?_; (case k1 => k_asm); (case k2 => k_asm); (case k3 => k_asm); (case k4 => k_asm); (case k5 => k_asm); (case kK => first | exact rfl | assumption); (case kd => k_room); (case ku => ktr_units); (intro r9 tl9 h9 tk9 F9 N9 hl9 ho9; obtain ⟨x9, dx9, sm9, es9, c9, ta9, tb9, tc9, e9, e8, T9, n8, n9⟩ := ho9; subst e9; subst e8; (replace hl9 := Mine.ordLt3 hl9); obtain ⟨hl7, hl8, hl9⟩ := hl9; (try simp only [List.cons_append, List.nil_append] at N9); (try dsimp only)))))
theorem fixed_calls {w : World} {news : List (Addr × Obj)} {nm : Str} {tn tl th : Tok} {sm : Addr} {lo hi : Int} : Calls w 7 361 news [.str nm tn, .ref sm, .int lo tl, .int hi th] (MadeBy sm lo hi) := by
  intro mean mg mb dp un gd cn cs a ccd cl outer A₀ base h₀ L m s Q E B F X N T hk hdp hun hret
  refine wpAny_call ?_
  k_dflt cell_enter
  k_steps
  all_goals (refine' hret _ _ _ _ (by k_asm) (news_sub (by k_asm) (sub2 ?a ?b ?n)) (ordA2 ?o1 ?o2) ⟨_, _, _, _, _, _, _, rfl, rfl, TyE.of ?k1⟩)
  case a => k_mem
  case b => k_mem
  case k1 => assumption
  case n => repeat (first | exact fun _ h => h | refine sub_tail ?_)
  case o1 => assumption
  case o2 => assumption
local macro_rules | `(tactic| walk_at "call ref") => `(tactic| (k_here; (with_reducible show wpAny _ _ (call (Value.ref 361) _) _ _ _); k_dflt (refine' use fixed_calls ?k1 ?k2 ?k3 ?k4 ?k5 ?kK ?kd ?ku ?_; (case k1 => k_asm); (case k2 => k_asm); (case k3 => k_asm); (case k4 => k_asm); (case k5 => k_asm); (case kK => first | exact rfl | assumption); (case kd => k_room); (case ku => ktr_units); (intro r9 tl9 h9 tk9 F9 N9 hl9 ho9; obtain ⟨x9, dx9, es9, c9, ta9, tb9, tc9, e9, e8, T9⟩ := ho9; subst e9; subst e8; (try simp only [List.cons_append, List.nil_append] at N9); (try dsimp only)))))
theorem money_calls {w : World} {news : List (Addr × Obj)} : Calls w 8 368 news [] (Made "fixed" 1 100 (-20000) 20000) := by
  intro mean mg mb dp un gd cn cs a ccd cl outer A₀ base h₀ L m s Q E B F X N T hk hdp hun hret
  refine wpAny_call ?_
  k_dflt cell_enter
  k_steps
  all_goals (rename (∀ (p : Addr × Obj), p ∈ _ → p.1 < _) => l1)
  all_goals (rename (∀ (q : Addr × Obj), q ∈ _ → ∀ (p : Addr × Obj), p ∈ _ → q.1 < p.1) => l2)
  all_goals (refine' hret _ _ _ _ (by k_asm) (by k_asm) (ord3b l1 l2) ⟨_, _, _, _, _, _, _, _, _, _, rfl, rfl, ?k1⟩)
  case k1 => assumption
theorem part_calls {w : World} {news : List (Addr × Obj)} : Calls w 8 375 news [] (Made "fixed" 1 100 0 100) := by
  intro mean mg mb dp un gd cn cs a ccd cl outer A₀ base h₀ L m s Q E B F X N T hk hdp hun hret
  refine wpAny_call ?_
  k_dflt cell_enter
  k_steps
  all_goals (rename (∀ (p : Addr × Obj), p ∈ _ → p.1 < _) => l1)
  all_goals (rename (∀ (q : Addr × Obj), q ∈ _ → ∀ (p : Addr × Obj), p ∈ _ → q.1 < p.1) => l2)
  all_goals (refine' hret _ _ _ _ (by k_asm) (by k_asm) (ord3b l1 l2) ⟨_, _, _, _, _, _, _, _, _, _, rfl, rfl, ?k1⟩)
  case k1 => assumption
theorem fourths_calls {w : World} {news : List (Addr × Obj)} : Calls w 8 382 news [] (Made "fixed" 1 4 (-800) 800) := by
  intro mean mg mb dp un gd cn cs a ccd cl outer A₀ base h₀ L m s Q E B F X N T hk hdp hun hret
  refine wpAny_call ?_
  k_dflt cell_enter
  k_steps
  all_goals (rename (∀ (p : Addr × Obj), p ∈ _ → p.1 < _) => l1)
  all_goals (rename (∀ (q : Addr × Obj), q ∈ _ → ∀ (p : Addr × Obj), p ∈ _ → q.1 < p.1) => l2)
  all_goals (refine' hret _ _ _ _ (by k_asm) (by k_asm) (ord3b l1 l2) ⟨_, _, _, _, _, _, _, _, _, _, rfl, rfl, ?k1⟩)
  case k1 => assumption
theorem whole_calls {w : World} {news : List (Addr × Obj)} : Calls w 8 389 news [] (Made "int" 1 1 (-1000) 1000) := by
  intro mean mg mb dp un gd cn cs a ccd cl outer A₀ base h₀ L m s Q E B F X N T hk hdp hun hret
  refine wpAny_call ?_
  k_dflt cell_enter
  k_steps
  all_goals (refine' hret _ _ _ _ (by k_asm) (news_sub (by k_asm) (sub3 ?a ?b ?c ?n)) (ordA3 ?o1 ?o2 ?o3) ⟨_, _, _, _, _, _, _, _, _, _, rfl, rfl, TyE.of ?k1⟩)
  case a => k_mem
  case b => k_mem
  case k1 => assumption
  case c => k_mem
  case n => repeat (first | exact fun _ h => h | refine sub_tail ?_)
  case o1 => assumption
  case o2 => assumption
  case o3 => assumption
end Mine
end
section
theorem Mine.anew_C3 : True := by
  w_top off
  trivial
open PySem PySem.W PyProof.Rows
set_option maxRecDepth 100000
set_option maxHeartbeats 8000000
namespace Mine
local macro_rules | `(tactic| k_room) => `(tactic| ((try simp only [depth_mark, depth_under_make, depth_under_kw, depth_in1, depth_deeper, depth_caller] at *); (try dsimp only [ktrTop] at *); (try simp only [recursionLimit] at *); omega))
local macro_rules | `(tactic| k_get) => `(tactic| (with_reducible assumption))
local macro_rules | `(tactic| k_mem) => `(tactic| first | ktr_member | exact List.Mem.head _ | (refine' Mine.mem_tail ?_; k_mem))
-- what every use of a contract asks
local macro_rules | `(tactic| tb_start) => `(tactic| (
  (case k1 => k_asm)
  (case k2 => k_asm)
  (case k3 => k_asm)
  (case k4 => k_asm)
  (case k5 => k_asm)
  (case kK => first | exact rfl | assumption)
  (case kd => k_room)
  (case ku => ktr_units)))
local macro_rules | `(tactic| walk_at "call ref") => `(tactic| (k_here; (with_reducible show wpAny _ _ (call (Value.ref 116) _) _ _ _); k_dflt (refine' use (smallF_calls ?a1 ?a2 ?a3) ?k1 ?k2 ?k3 ?k4 ?k5 ?kK ?kd ?ku ?_; tb_start; (case a1 => k_mem); (case a2 => k_mem); (case a3 => assumption); (intro r9 tl9 h9 tk9 F9 N9 hl9 ho9; obtain ⟨e9, e8⟩ := ho9; subst e9; subst e8; clear hl9; (try simp only [List.nil_append] at N9); (try dsimp only); (try k_sweep); (try k_fold)))))
local macro_rules | `(tactic| walk_at "call ref") => `(tactic| (k_here; (with_reducible show wpAny _ _ (call (Value.ref 116) _) _ _ _); k_dflt (refine' use (smallI_calls ?a1 ?a2 ?a3) ?k1 ?k2 ?k3 ?k4 ?k5 ?kK ?kd ?ku ?_; tb_start; (case a1 => k_mem); (case a2 => k_mem); (case a3 => assumption); (intro r9 tl9 h9 tk9 F9 N9 hl9 ho9; obtain ⟨q9, t9, u9, e9, e8⟩ := ho9; subst e9; subst e8; clear hl9; (try simp only [List.cons_append, List.nil_append] at N9); (try dsimp only); (try k_sweep); (try k_fold)))))
local macro_rules | `(tactic| tb_rel) => `(tactic| (intro r9 tl9 h9 tk9 F9 N9 hl9 ho9; obtain ⟨e9, t9, e8⟩ := ho9; subst e9; subst e8; clear hl9; (try simp only [List.nil_append] at N9); (try dsimp only); (try k_sweep); (try k_fold)))
local macro_rules | `(tactic| walk_at "call ref") => `(tactic| (k_here; (with_reducible show wpAny _ _ (call (Value.ref 109) _) _ _ _); k_dflt (refine' use (cut_calls ?p1 ?p2) ?k1 ?k2 ?k3 ?k4 ?k5 ?kK ?kd ?ku ?_; tb_start; (case p1 => omega); (case p2 => omega); tb_rel)))
local macro_rules | `(tactic| walk_at "call ref") => `(tactic| (k_here; (with_reducible show wpAny _ _ (call (Value.ref 95) _) _ _ _); k_dflt (refine' use (check_calls ?a1 ?a2 ?a3 ?a4 ?p1 ?p2) ?k1 ?k2 ?k3 ?k4 ?k5 ?kK ?kd ?ku ?_; tb_start; (case a1 => k_mem); (case a2 => k_mem); (case a3 => k_get); (case a4 => k_get); (case p1 => omega); (case p2 => omega); tb_rel)))

local macro_rules | `(tactic| walk_at "call ref") => `(tactic| ((with_reducible show wpAny _ _ (call (Value.ref 60) _) _ _ _); exfalso; omega))

theorem cut_whole {x y : Int} : cutz (x * 1 * y * 1 * 100) (100 * 1 * 1) = x * y := by
  unfold cutz
  have e : x * 1 * y * 1 * 100 = x * y * 100 := by rw [Int.mul_one, Int.mul_one]
  rw [e]
  split <;> omega

theorem cut_part {x y : Int} : cutz (x * 1 * y * 1 * 100) (100 * 100 * 1) = cutz (x * y) 100 := by
  unfold cutz
  have e : x * 1 * y * 1 * 100 = x * y * 100 := by rw [Int.mul_one, Int.mul_one]
  rw [e]
  generalize x * y = z
  split <;> split <;> omega
theorem cut_over {x y : Int} (h : 0 < y) : cutz (x * 1 * 1 * 100) (100 * y * 1 * 1) = cutz x y := by
  unfold cutz
  have e : x * 1 * 1 * 100 = 100 * x := by omega
  have e2 : 100 * y * 1 * 1 = 100 * y := by omega
  have e3 : -(100 * x) = 100 * (-x) := by omega
  rw [e, e2, e3, Int.mul_ediv_mul_of_pos _ _ (by decide), Int.mul_ediv_mul_of_pos _ _ (by decide)]
  split <;> split <;> first | rfl | omega
theorem timesW_calls {w : World} {news : List (Addr × Obj)} {t dt sm o dd so : Addr} {et eo : List DictEntry} {ct co : Nat} {u1 u2 u3 u4 u5 v1 v2 v3 v4 v5 : Tok} {x y : Int} {tx ty : Tok}
    (hta : (t, instObj 322 dt) ∈ news) (htb : (dt, dictOf et ct) ∈ news) (htc : (sm, tup2 1 100 u4 u5) ∈ news) (htd : TyE et "fixed" sm (-20000) (20000) u1 u2 u3)
    (hoa : (o, instObj 322 dd) ∈ news) (hob : (dd, dictOf eo co) ∈ news) (hoc : (so, tup2 1 1 v4 v5) ∈ news) (hod : TyE eo "int" so (-1000) (1000) v1 v2 v3)
    (hx0 : -20000 ≤ x) (hx1 : x ≤ 20000) (hy0 : -20000 ≤ y) (hy1 : y ≤ 20000) (h0 : -20000 ≤ x * y) (h1 : x * y ≤ 20000) :
    Calls w 12 263 news [.ref t, .int x tx, .ref t, .int y ty, .ref o] (fun r tl => tl = [] ∧ ∃ t, r = .int (x * y) t) := by
  intro mean mg mb dp un gd cn cs a ccd cl outer A₀ base h₀ L m s Q E B F X N T hk hdp hun hret
  have htd' := htd
  obtain ⟨a1, a2, a3, a4⟩ := htd'
  have hod' := hod
  obtain ⟨b1, b2, b3, b4⟩ := hod'
  have hres := @cut_whole x y
  refine wpAny_call ?_
  k_dflt cell_enter
  k_steps
  all_goals (refine' retI hret ?kf (news_sub ?kn ?kt) ?ke; (case kf => k_asm); (case kn => k_asm); (case kt => repeat (first | exact fun _ h => h | refine sub_tail ?_)); (case ke => exact hres))
theorem timesP_calls {w : World} {news : List (Addr × Obj)} {t dt sm o dd so : Addr} {et eo : List DictEntry} {ct co : Nat} {u1 u2 u3 u4 u5 v1 v2 v3 v4 v5 : Tok} {x y : Int} {tx ty : Tok}
    (hta : (t, instObj 322 dt) ∈ news) (htb : (dt, dictOf et ct) ∈ news) (htc : (sm, tup2 1 100 u4 u5) ∈ news) (htd : TyE et "fixed" sm (-20000) (20000) u1 u2 u3)
    (hoa : (o, instObj 322 dd) ∈ news) (hob : (dd, dictOf eo co) ∈ news) (hoc : (so, tup2 1 100 v4 v5) ∈ news) (hod : TyE eo "fixed" so (0) (100) v1 v2 v3)
    (hx0 : -20000 ≤ x) (hx1 : x ≤ 20000) (hy0 : -20000 ≤ y) (hy1 : y ≤ 20000) (h0 : -20000 ≤ cutz (x * y) 100) (h1 : cutz (x * y) 100 ≤ 20000) :
    Calls w 12 263 news [.ref t, .int x tx, .ref t, .int y ty, .ref o] (fun r tl => tl = [] ∧ ∃ t, r = .int (cutz (x * y) 100) t) := by
  intro mean mg mb dp un gd cn cs a ccd cl outer A₀ base h₀ L m s Q E B F X N T hk hdp hun hret
  have htd' := htd
  obtain ⟨a1, a2, a3, a4⟩ := htd'
  have hod' := hod
  obtain ⟨b1, b2, b3, b4⟩ := hod'
  have hres := @cut_part x y
  refine wpAny_call ?_
  k_dflt cell_enter
  k_steps
  all_goals (refine' retI hret ?kf (news_sub ?kn ?kt) ?ke; (case kf => k_asm); (case kn => k_asm); (case kt => repeat (first | exact fun _ h => h | refine sub_tail ?_)); (case ke => exact hres))
theorem over_calls {w : World} {news : List (Addr × Obj)} {t dt sm o dd so : Addr} {et eo : List DictEntry} {ct co : Nat} {u1 u2 u3 u4 u5 v1 v2 v3 v4 v5 : Tok} {x y : Int} {tx ty : Tok}
    (hta : (t, instObj 322 dt) ∈ news) (htb : (dt, dictOf et ct) ∈ news) (htc : (sm, tup2 1 100 u4 u5) ∈ news) (htd : TyE et "fixed" sm (-20000) (20000) u1 u2 u3)
    (hoa : (o, instObj 322 dd) ∈ news) (hob : (dd, dictOf eo co) ∈ news) (hoc : (so, tup2 1 1 v4 v5) ∈ news) (hod : TyE eo "int" so (-1000) (1000) v1 v2 v3)
    (hx0 : -20000 ≤ x) (hx1 : x ≤ 20000) (hy0 : 0 < y) (hy1 : y ≤ 20000) (h0 : -20000 ≤ cutz x y) (h1 : cutz x y ≤ 20000) :
    Calls w 12 270 news [.ref t, .int x tx, .ref t, .int y ty, .ref o] (fun r tl => tl = [] ∧ ∃ t, r = .int (cutz x y) t) := by
  intro mean mg mb dp un gd cn cs a ccd cl outer A₀ base h₀ L m s Q E B F X N T hk hdp hun hret
  have htd' := htd
  obtain ⟨a1, a2, a3, a4⟩ := htd'
  have hod' := hod
  obtain ⟨b1, b2, b3, b4⟩ := hod'
  have hres := @cut_over x y hy0
  refine wpAny_call ?_
  k_dflt cell_enter
  k_steps
  all_goals (refine' retI hret ?kf (news_sub ?kn ?kt) ?ke; (case kf => k_asm); (case kn => k_asm); (case kt => repeat (first | exact fun _ h => h | refine sub_tail ?_)); (case ke => exact hres))
theorem add_calls {w : World} {news : List (Addr × Obj)} {t dt sm : Addr} {et : List DictEntry} {ct : Nat} {u1 u2 u3 : Tok} {k : String} {lo hi : Int} {x y : Int} {tx ty : Tok}
    (hta : (t, instObj 322 dt) ∈ news) (htb : (dt, dictOf et ct) ∈ news) (htd : TyE et k sm lo hi u1 u2 u3)
    (h0 : lo ≤ x + y) (h1 : x + y ≤ hi) :
    Calls w 8 137 news [.ref t, .int x tx, .int y ty] (fun r tl => tl = [] ∧ ∃ t, r = .int (x + y) t) := by
  intro mean mg mb dp un gd cn cs a ccd cl outer A₀ base h₀ L m s Q E B F X N T hk hdp hun hret
  have htd' := htd
  obtain ⟨a1, a2, a3, a4⟩ := htd'
  refine wpAny_call ?_
  k_dflt cell_enter
  k_steps
  all_goals (refine' retI hret ?kf (news_sub ?kn ?kt) ?ke; (case kf => k_asm); (case kn => k_asm); (case kt => repeat (first | exact fun _ h => h | refine sub_tail ?_)); (case ke => rfl))
theorem sub_calls {w : World} {news : List (Addr × Obj)} {t dt sm : Addr} {et : List DictEntry} {ct : Nat} {u1 u2 u3 : Tok} {k : String} {lo hi : Int} {x y : Int} {tx ty : Tok}
    (hta : (t, instObj 322 dt) ∈ news) (htb : (dt, dictOf et ct) ∈ news) (htd : TyE et k sm lo hi u1 u2 u3)
    (h0 : lo ≤ x - y) (h1 : x - y ≤ hi) :
    Calls w 8 144 news [.ref t, .int x tx, .int y ty] (fun r tl => tl = [] ∧ ∃ t, r = .int (x - y) t) := by
  intro mean mg mb dp un gd cn cs a ccd cl outer A₀ base h₀ L m s Q E B F X N T hk hdp hun hret
  have htd' := htd
  obtain ⟨a1, a2, a3, a4⟩ := htd'
  refine wpAny_call ?_
  k_dflt cell_enter
  k_steps
  all_goals (refine' retI hret ?kf (news_sub ?kn ?kt) ?ke; (case kf => k_asm); (case kn => k_asm); (case kt => repeat (first | exact fun _ h => h | refine sub_tail ?_)); (case ke => rfl))
end Mine
end
section
theorem Mine.anew_C6 : True := by
  w_top off
  trivial
open PySem PySem.W PyProof.Rows
set_option maxRecDepth 100000
set_option maxHeartbeats 8000000
namespace Mine
local macro_rules | `(tactic| walk_at "pad") => `(tactic| fail)
local macro_rules | `(tactic| walk_at "pad") => `(tactic| fail)
local macro_rules | `(tactic| k_room) => `(tactic| ((try simp only [depth_mark, depth_under_make, depth_under_kw, depth_in1, depth_deeper, depth_caller] at *); (try dsimp only [ktrTop] at *); (try simp only [recursionLimit] at *); omega))
local macro_rules | `(tactic| k_all) => `(tactic| first | exact Mine.ne_of_allLt (by assumption) | exact Mine.ne_of_allLt' (by assumption))
local macro_rules | `(tactic| k_lt $h) => `(tactic| (replace $h := allLt_of $h; (have hA9 := $h); (repeat (replace hA9 := And.right hA9)); simp only [AllLt, and_true] at $h:ident))
local macro_rules | `(tactic| walk_at "exec Raise some none") => `(tactic| (k_here; k_dflt (refine' xraise ?k1 (x51 _) ?k2 ?_; (case k1 => k_asm); (case k2 => exact rfl))))
local macro_rules | `(tactic| walk_at "call ref") => `(tactic| (k_here; (with_reducible show wpAny _ _ (call (Value.ref 51) _) _ _ _); k_dflt (refine' xmake_call ?k1 ?k2 ?k3 (x51 _) ?k4 ?k5 ?_; (case k1 => k_asm); (case k2 => k_asm); (case k3 => k_asm); (case k4 => k_is); (case k5 => k_is)); intro e9 t9 h9 l8 l9 F9 N9; k_dflt k_enter))
local macro_rules | `(tactic| walk_at "getMethod type:Exception") => `(tactic| (k_here; refine' method_type ?F ?X ?m (by decide +kernel) ?e ?h ?_; (case F => k_asm); (case X => k_asm); (case m => kernel_rfl); (case e => k_dflt k_is); (case h => k_handed)))
local macro_rules | `(tactic| walk_at "call builtin:Exception.__init__") => `(tactic| (k_here; (with_reducible show wpAny _ _ (call (Value.builtin "Exception.__init__") [Value.ref _, _]) _ _ _); k_dflt (refine' xinit_call ?k1 ?k2 ?k3 ?k4 (x51 _) ?_; (case k1 => k_asm); (case k2 => k_asm); (case k3 => k_asm); (case k4 => exact xne1 (by assumption) (by assumption))); intro h9 t9 l9 F9 N9; (try k_sweep)))
local macro_rules | `(tactic| walk_at "setAttr ref") => `(tactic| (k_here; k_dflt (first
  | (refine' xset_more ?k1 ?k2 ?k3 ?k4 ?k5 ?k6 ?k7 ?k8 (o51 _) ?k9 ?k10 ?k11 ?k12 ?_; (case k1 => k_asm); (case k2 => k_asm); (case k3 => k_asm); (case k4 => exact rfl); (case k5 => exact rfl); (case k6 => exact rfl); (case k7 => assumption); (case k8 => exact ne_of_allLt (by assumption)); (case k9 => k_is); (case k10 => k_is); (case k11 => within_ways); (case k12 => decide); intro h9 tk9 o9 F9 N9 n9; (try k_sweep))
  | (refine' xset_first ?k1 ?k2 ?k3 ?k4 ?k5 ?k6 ?k7 (o51 _) ?k9 ?k10 ?_; (case k1 => k_asm); (case k2 => k_asm); (case k3 => k_asm); (case k4 => exact rfl); (case k5 => exact rfl); (case k6 => exact rfl); (case k7 => exact xne2 (by assumption) (by assumption) (by assumption)); (case k9 => k_is); (case k10 => k_is); intro h9 tk9 d9 o9 l9 F9 N9 n9; (try dsimp only at l9 N9); (try k_sweep)))))

theorem refuse_raises {w : World} {news : List (Addr × Obj)} {x : Str} {tx : Tok} : Raises w 20 60 news [.str x tx] := by
  intro mean mg mb dp un gd cn cs a ccd cl outer A₀ base h₀ L m s Q E B F X N T hk hdp hun hret
  refine wpAny_call ?_
  k_dflt cell_enter
  k_steps
  (with_reducible rename Fr _ _ _ (fun _ => _) => kF9)
  (with_reducible rename News _ _ _ _ => kN9)
  (rename ∀ (p : Addr × Obj), p ∈ news → p.1 < _ => l8)
  (rename ∀ (p : Addr × Obj), p ∈ (_, excO _ _ _) :: (_, _) :: news → p.1 < _ => l9)
  refine' ⟨_, _, _, _, rfl, Frag.In.keeps (by assumption) (Fr.keep kF9), (News.get (by assumption) (List.Mem.head _)), ?kg⟩
  k_unfold
  (try dsimp only)
  refine' xleave ?K kF9 kN9 (List.Mem.head _) rfl rfl rfl rfl ?ht ?hs (xne3 l8 ?l0 l9) ?hQ
  case K => k_asm
  case ht => k_mem
  case l0 => k_asm
  case hs => repeat (first | exact fun _ h => h | refine sub_tail ?_)
  case hQ =>
    intro h' R U
    exact hret _ _ _ _ _ _ (by k_asm) R U
end Mine
end
section
theorem Mine.anew_C7 : True := by
  w_top off
  trivial
open PySem PySem.W PyProof.Rows
set_option maxRecDepth 100000
set_option maxHeartbeats 8000000
namespace Mine
local macro_rules | `(tactic| k_room) => `(tactic| ((try simp only [depth_mark, depth_under_make, depth_under_kw, depth_in1, depth_deeper, depth_caller] at *); (try dsimp only [ktrTop] at *); (try simp only [recursionLimit] at *); omega))
local macro_rules | `(tactic| k_get) => `(tactic| (with_reducible assumption))
local macro_rules | `(tactic| k_mem) => `(tactic| first | ktr_member | exact List.Mem.head _ | (refine' Mine.mem_tail ?_; k_mem))
local macro_rules | `(tactic| tb_start) => `(tactic| (
  (case k1 => k_asm)
  (case k2 => k_asm)
  (case k3 => k_asm)
  (case k4 => k_asm)
  (case k5 => k_asm)
  (case kK => first | exact rfl | assumption)
  (case kd => k_room)
  (case ku => ktr_units)))
local macro_rules | `(tactic| tb_rel) => `(tactic| (intro r9 tl9 h9 tk9 F9 N9 hl9 ho9; obtain ⟨e9, t9, e8⟩ := ho9; subst e9; subst e8; clear hl9; (try simp only [List.nil_append] at N9); (try dsimp only); (try k_sweep); (try k_fold)))
local macro_rules | `(tactic| walk_at "call ref") => `(tactic| (k_here; (with_reducible show wpAny _ _ (call (Value.ref 60) _) _ _ _); k_dflt (refine' useR refuse_raises ?k1 ?k2 ?k3 ?k4 ?k5 ?kK ?kd ?ku ?_; tb_start; intro G9 e9 t9 v9 h9 tk9 F9 R9 U9)))
local macro_rules | `(tactic| walk_at "leaving ref") => `(tactic| (k_here; k_dflt (refine' leave_onS ?k1 ?k2 ?k3 ?k4 ?_; (case k3 => assumption); (case k2 => assumption); (case k1 => assumption); (case k4 => assumption)); intro h9 R9 Q9 U9; (try dsimp only at R9 U9 ⊢)))

theorem check_raises {w : World} {news : List (Addr × Obj)} {x dx sm : Addr} {es : List DictEntry} {c : Nat} {k : String} {lo hi : Int} {u1 u2 u3 : Tok} {v : Int} {t1 : Tok}
    (hx : (x, instObj 322 dx) ∈ news) (hdx : (dx, dictOf es c) ∈ news) (hT : TyE es k sm lo hi u1 u2 u3) (h1 : v < lo ∨ hi < v) : Raises w 24 95 news [.ref x, .int v t1] := by
  intro mean mg mb dp un gd cn cs a ccd cl outer A₀ base h₀ L m s Q E B F X N T hk hdp hun hret
  obtain ⟨a1, a2, a3, a4⟩ := hT
  refine wpAny_call ?_
  k_dflt cell_enter
  k_steps
  all_goals first | (exact hret _ _ _ _ _ _ (by assumption) (by assumption) (by assumption)) | (exfalso; simp_all; omega)

local macro_rules | `(tactic| walk_at "call ref") => `(tactic| (k_here; (with_reducible show wpAny _ _ (call (Value.ref 95) _) _ _ _); k_dflt (refine' useR (check_raises ?a1 ?a2 ?a3 ?p1) ?k1 ?k2 ?k3 ?k4 ?k5 ?kK ?kd ?ku ?_; tb_start; (case a1 => k_mem); (case a2 => k_mem); (case a3 => assumption); (case p1 => omega); intro G9 e9 t9 v9 h9 tk9 F9 R9 U9)))
local macro_rules | `(tactic| walk_at "call ref") => `(tactic| (k_here; (with_reducible show wpAny _ _ (call (Value.ref 116) _) _ _ _); k_dflt (refine' use (smallF_calls ?a1 ?a2 ?a3) ?k1 ?k2 ?k3 ?k4 ?k5 ?kK ?kd ?ku ?_; tb_start; (case a1 => k_mem); (case a2 => k_mem); (case a3 => assumption); (intro r9 tl9 h9 tk9 F9 N9 hl9 ho9; obtain ⟨e9, e8⟩ := ho9; subst e9; subst e8; clear hl9; (try simp only [List.nil_append] at N9); (try dsimp only); (try k_sweep); (try k_fold)))))
local macro_rules | `(tactic| walk_at "call ref") => `(tactic| (k_here; (with_reducible show wpAny _ _ (call (Value.ref 116) _) _ _ _); k_dflt (refine' use (smallI_calls ?a1 ?a2 ?a3) ?k1 ?k2 ?k3 ?k4 ?k5 ?kK ?kd ?ku ?_; tb_start; (case a1 => k_mem); (case a2 => k_mem); (case a3 => assumption); (intro r9 tl9 h9 tk9 F9 N9 hl9 ho9; obtain ⟨q9, t9, u9, e9, e8⟩ := ho9; subst e9; subst e8; clear hl9; (try simp only [List.cons_append, List.nil_append] at N9); (try dsimp only); (try k_sweep); (try k_fold)))))
local macro_rules | `(tactic| walk_at "call ref") => `(tactic| (k_here; (with_reducible show wpAny _ _ (call (Value.ref 109) _) _ _ _); k_dflt (refine' use (cut_calls ?p1 ?p2) ?k1 ?k2 ?k3 ?k4 ?k5 ?kK ?kd ?ku ?_; tb_start; (case p1 => omega); (case p2 => omega); tb_rel)))
theorem add_raises {w : World} {news : List (Addr × Obj)} {t dt sm : Addr} {et : List DictEntry} {ct : Nat} {u1 u2 u3 : Tok} {k : String} {lo hi : Int} {x y : Int} {tx ty : Tok}
    (hta : (t, instObj 322 dt) ∈ news) (htb : (dt, dictOf et ct) ∈ news) (htd : TyE et k sm lo hi u1 u2 u3)
    (h1 : x + y < lo ∨ hi < x + y) : Raises w 30 137 news [.ref t, .int x tx, .int y ty] := by
  intro mean mg mb dp un gd cn cs a ccd cl outer A₀ base h₀ L m s Q E B F X N T hk hdp hun hret
  have htd' := htd
  obtain ⟨a1, a2, a3, a4⟩ := htd'
  refine wpAny_call ?_
  k_dflt cell_enter
  k_steps
  exact hret _ _ _ _ _ _ (by assumption) (by assumption) (by assumption)

theorem timesW_raises {w : World} {news : List (Addr × Obj)} {t dt sm o dd so : Addr} {et eo : List DictEntry} {ct co : Nat} {u1 u2 u3 u4 u5 v1 v2 v3 v4 v5 : Tok} {x y : Int} {tx ty : Tok}
    (hta : (t, instObj 322 dt) ∈ news) (htb : (dt, dictOf et ct) ∈ news) (htc : (sm, tup2 1 100 u4 u5) ∈ news) (htd : TyE et "fixed" sm (-20000) (20000) u1 u2 u3)
    (hoa : (o, instObj 322 dd) ∈ news) (hob : (dd, dictOf eo co) ∈ news) (hoc : (so, tup2 1 1 v4 v5) ∈ news) (hod : TyE eo "int" so (-1000) (1000) v1 v2 v3)
    (hx0 : -20000 ≤ x) (hx1 : x ≤ 20000) (hy0 : -20000 ≤ y) (hy1 : y ≤ 20000) (h1 : x * y < -20000 ∨ 20000 < x * y) : Raises w 34 263 news [.ref t, .int x tx, .ref t, .int y ty, .ref o] := by
  intro mean mg mb dp un gd cn cs a ccd cl outer A₀ base h₀ L m s Q E B F X N T hk hdp hun hret
  have htd' := htd
  obtain ⟨a1, a2, a3, a4⟩ := htd'
  have hod' := hod
  obtain ⟨b1, b2, b3, b4⟩ := hod'
  have hres := @cut_whole x y
  refine wpAny_call ?_
  k_dflt cell_enter
  k_steps
  refine' hret _ _ _ _ _ _ ?k1 (raised_sub ?k2 ?k3) ?k4
  case k1 => assumption
  case k2 => assumption
  case k4 => assumption
  case k3 => repeat (first | exact fun _ h => h | refine sub_tail ?_)
end Mine
end
section
theorem Mine.anew_C8 : True := by
  w_top off
  trivial
open PySem PySem.W PyProof.Rows
set_option maxRecDepth 100000
set_option maxHeartbeats 8000000
namespace Mine
local macro_rules | `(tactic| k_all) => `(tactic| first | exact Mine.ne_of_allLt (by assumption) | exact Mine.ne_of_allLt' (by assumption))
local macro_rules | `(tactic| k_lt $h) => `(tactic| (replace $h := allLt_of $h; (have hA9 := $h); (repeat (replace hA9 := And.right hA9)); simp only [AllLt, and_true] at $h:ident))
local macro_rules | `(tactic| k_room) => `(tactic| ((try simp only [depth_mark, depth_under_make, depth_under_kw, depth_in1, depth_deeper, depth_caller] at *); (try dsimp only [ktrTop] at *); (try simp only [recursionLimit] at *); omega))
local macro_rules | `(tactic| k_get) => `(tactic| (with_reducible assumption))
local macro_rules | `(tactic| k_mem) => `(tactic| first | ktr_member | exact List.Mem.head _ | (refine' Mine.mem_tail ?_; k_mem))
local macro_rules | `(tactic| tb_start) => `(tactic| (
  (case k1 => k_asm)
  (case k2 => k_asm)
  (case k3 => k_asm)
  (case k4 => k_asm)
  (case k5 => k_asm)
  (case kK => first | exact rfl | assumption)
  (case kd => k_room)
  (case ku => ktr_units)))
local macro_rules | `(tactic| tb_rel) => `(tactic| (intro r9 tl9 h9 tk9 F9 N9 hl9 ho9; obtain ⟨e9, t9, e8⟩ := ho9; subst e9; subst e8; clear hl9; (try simp only [List.nil_append] at N9); (try dsimp only); (try k_sweep); (try k_fold)))
local macro_rules | `(tactic| ktd_rel) => `(tactic| (intro r9 tl9 h9 tk9 F9 N9 hl9 ho9; obtain ⟨x9, dx9, sm9, es9, c9, ta9, tb9, tc9, td9, te9, e9, e8, T9⟩ := ho9; subst e9; subst e8; (try simp only [List.cons_append, List.nil_append] at N9); (replace hl9 := Mine.ordLt3 hl9); (try simp only [AllLt, and_true] at hl9); (have U9 := T9); obtain ⟨U1, U2, U3, U4⟩ := U9; (try dsimp only); (try k_sweep); (try k_fold)))
local macro_rules | `(tactic| walk_at "call ref") => `(tactic| (k_here; (with_reducible show wpAny _ _ (call (Value.ref 137) _) _ _ _); k_dflt (refine' use (add_calls ?a1 ?a2 ?a3 ?p1 ?p2) ?k1 ?k2 ?k3 ?k4 ?k5 ?kK ?kd ?ku ?_; tb_start; (case a1 => k_mem); (case a2 => k_mem); (case a3 => assumption); (case p1 => omega); (case p2 => omega); tb_rel)))
local macro_rules | `(tactic| walk_at "call ref") => `(tactic| (k_here; (with_reducible show wpAny _ _ (call (Value.ref 144) _) _ _ _); k_dflt (refine' use (sub_calls ?a1 ?a2 ?a3 ?p1 ?p2) ?k1 ?k2 ?k3 ?k4 ?k5 ?kK ?kd ?ku ?_; tb_start; (case a1 => k_mem); (case a2 => k_mem); (case a3 => assumption); (case p1 => omega); (case p2 => omega); tb_rel)))
local macro_rules | `(tactic| walk_at "call ref") => `(tactic| (k_here; (with_reducible show wpAny _ _ (call (Value.ref 263) _) _ _ _); k_dflt (refine' use (timesW_calls ?a1 ?a2 ?a3 ?a4 ?b1 ?b2 ?b3 ?b4 ?p1 ?p2 ?p3 ?p4 ?p5 ?p6) ?k1 ?k2 ?k3 ?k4 ?k5 ?kK ?kd ?ku ?_; tb_start; (case a1 => k_mem); (case a2 => k_mem); (case a4 => assumption); (case a3 => k_mem); (case b1 => k_mem); (case b2 => k_mem); (case b4 => assumption); (case b3 => k_mem); (case p1 => omega); (case p2 => omega); (case p3 => omega); (case p4 => omega); (case p5 => omega); (case p6 => omega); tb_rel)))
local macro_rules | `(tactic| walk_at "call ref") => `(tactic| (k_here; (with_reducible show wpAny _ _ (call (Value.ref 368) _) _ _ _); k_dflt (refine' use money_calls ?k1 ?k2 ?k3 ?k4 ?k5 ?kK ?kd ?ku ?_; tb_start; ktd_rel)))
local macro_rules | `(tactic| walk_at "call ref") => `(tactic| (k_here; (with_reducible show wpAny _ _ (call (Value.ref 389) _) _ _ _); k_dflt (refine' use whole_calls ?k1 ?k2 ?k3 ?k4 ?k5 ?kK ?kd ?ku ?_; tb_start; ktd_rel)))
local macro_rules | `(tactic| walk_at "call ref") => `(tactic| (k_here; (with_reducible show wpAny _ _ (call (Value.ref 137) _) _ _ _); k_dflt (refine' useR (add_raises ?a1 ?a2 ?a3 ?p1) ?k1 ?k2 ?k3 ?k4 ?k5 ?kK ?kd ?ku ?_; tb_start; (case a1 => k_mem); (case a2 => k_mem); (case a3 => assumption); (case p1 => omega); intro G9 e9 t9 v9 h9 tk9 F9 R9 U9)))
local macro_rules | `(tactic| walk_at "call ref") => `(tactic| (k_here; (with_reducible show wpAny _ _ (call (Value.ref 263) _) _ _ _); k_dflt (refine' useR (timesW_raises ?a1 ?a2 ?a3 ?a4 ?b1 ?b2 ?b3 ?b4 ?p1 ?p2 ?p3 ?p4 ?p5) ?k1 ?k2 ?k3 ?k4 ?k5 ?kK ?kd ?ku ?_; tb_start; (case a1 => k_mem); (case a2 => k_mem); (case a4 => assumption); (case a3 => k_mem); (case b1 => k_mem); (case b2 => k_mem); (case b4 => assumption); (case b3 => k_mem); (case p1 => omega); (case p2 => omega); (case p3 => omega); (case p4 => omega); (case p5 => omega); intro G9 e9 t9 v9 h9 tk9 F9 R9 U9)))
local macro_rules | `(tactic| walk_at "exec For Name Call cons nil") => `(tactic| (k_here; (with_reducible rename KtsDicts _ _ => kdX); (with_unfolding_all refine' forT ?k1 ?k2 ?_; (case k1 => exact rfl); (case k2 => exact rfl); k_whole)))
local macro_rules | `(tactic| walk_at "pyIter ref") => `(tactic| (k_here; (with_reducible show wpAny _ _ (pyIter (Value.ref _)) (fun it s₂ => TLoop _ _ _ _ _ _ _ _ it s₂) _ _); (with_reducible rename IsRange _ _ _ _ _ _ _ _ => lR'); (rename Fr _ _ _ _ => lF'); (rename News _ _ _ _ => lN'); (with_unfolding_all refine iterT 2 (by rfl) lR' (by first | decide | rfl) (by first | decide | rfl) lF' lN' ?_); intro i' l1; (try k_lt l1)))
local macro_rules | `(tactic| walk_at "TRest") => `(tactic| (with_unfolding_all first | (refine TRest.succ (fun t' h' tk' F' N' => ?_)) | (refine TRest.zero (fun h' tk' F' N' => ?_))))
local macro_rules | `(tactic| walk_at "TPost") => `(tactic| (dsimp only [TPost]))
local macro_rules | `(tactic| walk_at "TEnd") => `(tactic| (k_dflt (refine' TEnd.intro ?F ?N ?t ?off ?_; (case F => k_asm); (case N => k_asm); (case t => first | exact Take.here | exact Take.there Take.here | exact Take.there (Take.there Take.here) | exact Take.there (Take.there (Take.there Take.here))); (case off => k_all))))

theorem doubledNo_calls {w : World} {news : List (Addr × Obj)} {x : Int} {tx : Tok} (hx0 : -20000 ≤ x) (hx1 : x ≤ 20000) (h1 : x < -10000 ∨ 10000 < x) :
    CallsD w 60 422 news [.int x tx] (fun r tl => ∃ l t1 t2 n, r = .ref l ∧ tl = [(l, W.listOf #[.str (Str.ofString "no") t1, .str (Str.ofString "no") t2] n)]) := by
  intro mean mg mb dp un gd cn cs a ccd cl A₀ h₀ L m s Q E B F X N T hk hdp hun hret
  refine wpAny_call ?_
  k_dflt (refine' enterT ?k1 ?k2 ?k3 ?k4 ?k5 ?kA ?kF ?kK ?k6 ?k7 ?k8 ?k9 ?kB ?_ ?c2 ?c3 ?c4 ?c5; (case kA => exact rfl); (case kF => exact rfl); (case kK => assumption); (case k1 => k_asm); (case k2 => k_asm); (case k3 => k_asm); (case k4 => k_asm); (case k5 => k_asm); (case k6 => k_is); (case k7 => k_is); (case k8 => ktr_room); (case k9 => exact BindsTo.of_eq rfl); (case c5 => decide); (case kB => exact locs rfl); (case c2 => exact rfl); (case c3 => exact rfl); (case c4 => exact rfl); k_whole; intro g' L' h' F' N' B' X' T' D'; (try dsimp only); (try k_lift B'); (try k_fold))
  k_steps
  (with_reducible rename News _ _ _ news => N8)
  (with_reducible rename News _ _ _ (_ :: _) => N9)
  refine' hret _ [_] _ _ ?kf (news_cat N9 N8 (sub1 ?km)) ⟨_, _, _, _, rfl, rfl⟩
  case kf => k_asm
  case km => k_mem

theorem doubledOk_calls {w : World} {news : List (Addr × Obj)} {x : Int} {tx : Tok} (hx0 : -10000 ≤ x) (hx1 : x ≤ 10000) :
    CallsD w 60 422 news [.int x tx] (fun r tl => ∃ l t1 t2 n, r = .ref l ∧ tl = [(l, W.listOf #[.int (x + x) t1, .int (x * 2) t2] n)]) := by
  intro mean mg mb dp un gd cn cs a ccd cl A₀ h₀ L m s Q E B F X N T hk hdp hun hret
  refine wpAny_call ?_
  k_dflt (refine' enterT ?k1 ?k2 ?k3 ?k4 ?k5 ?kA ?kF ?kK ?k6 ?k7 ?k8 ?k9 ?kB ?_ ?c2 ?c3 ?c4 ?c5; (case kA => exact rfl); (case kF => exact rfl); (case kK => assumption); (case k1 => k_asm); (case k2 => k_asm); (case k3 => k_asm); (case k4 => k_asm); (case k5 => k_asm); (case k6 => k_is); (case k7 => k_is); (case k8 => ktr_room); (case k9 => exact BindsTo.of_eq rfl); (case c5 => decide); (case kB => exact locs rfl); (case c2 => exact rfl); (case c3 => exact rfl); (case c4 => exact rfl); k_whole; intro g' L' h' F' N' B' X' T' D'; (try dsimp only); (try k_lift B'); (try k_fold))
  k_steps
  (with_reducible rename News _ _ _ news => N8)
  (with_reducible rename News _ _ _ (_ :: _) => N9)
  refine' hret _ [_] _ _ ?kf (news_cat N9 N8 (sub1 ?km)) ⟨_, _, _, _, rfl, rfl⟩
  case kf => k_asm
  case km => k_mem

end Mine
end
section
theorem Mine.anew_C9 : True := by
  w_top off
  trivial
open PySem PySem.W PyProof.Rows
set_option maxRecDepth 100000
set_option maxHeartbeats 8000000
namespace Mine
local macro_rules | `(tactic| k_all) => `(tactic| first | exact Mine.ne_of_allLt (by assumption) | exact Mine.ne_of_allLt' (by assumption))
local macro_rules | `(tactic| k_lt $h) => `(tactic| (replace $h := allLt_of $h; (have hA9 := $h); (repeat (replace hA9 := And.right hA9)); simp only [AllLt, and_true] at $h:ident))
local macro_rules | `(tactic| k_room) => `(tactic| ((try simp only [depth_mark, depth_under_make, depth_under_kw, depth_in1, depth_deeper, depth_caller] at *); (try dsimp only [ktrTop] at *); (try simp only [recursionLimit] at *); omega))
local macro_rules | `(tactic| k_get) => `(tactic| (with_reducible assumption))
local macro_rules | `(tactic| k_mem) => `(tactic| first | ktr_member | exact List.Mem.head _ | (refine' Mine.mem_tail ?_; k_mem))
local macro_rules | `(tactic| tb_start) => `(tactic| (
  (case k1 => k_asm)
  (case k2 => k_asm)
  (case k3 => k_asm)
  (case k4 => k_asm)
  (case k5 => k_asm)
  (case kK => first | exact rfl | assumption)
  (case kd => k_room)
  (case ku => ktr_units)))
local macro_rules | `(tactic| tb_rel) => `(tactic| (intro r9 tl9 h9 tk9 F9 N9 hl9 ho9; obtain ⟨e9, t9, e8⟩ := ho9; subst e9; subst e8; clear hl9; (try simp only [List.nil_append] at N9); (try dsimp only); (try k_sweep); (try k_fold)))
local macro_rules | `(tactic| ktd_rel) => `(tactic| (intro r9 tl9 h9 tk9 F9 N9 hl9 ho9; obtain ⟨x9, dx9, sm9, es9, c9, ta9, tb9, tc9, td9, te9, e9, e8, T9⟩ := ho9; subst e9; subst e8; (try simp only [List.cons_append, List.nil_append] at N9); (replace hl9 := Mine.ordLt3 hl9); (try simp only [AllLt, and_true] at hl9); (have U9 := T9); obtain ⟨U1, U2, U3, U4⟩ := U9; (try dsimp only); (try k_sweep); (try k_fold)))
local macro_rules | `(tactic| walk_at "call ref") => `(tactic| (k_here; (with_reducible show wpAny _ _ (call (Value.ref 137) _) _ _ _); k_dflt (refine' use (add_calls ?a1 ?a2 ?a3 ?p1 ?p2) ?k1 ?k2 ?k3 ?k4 ?k5 ?kK ?kd ?ku ?_; tb_start; (case a1 => k_mem); (case a2 => k_mem); (case a3 => assumption); (case p1 => omega); (case p2 => omega); tb_rel)))
local macro_rules | `(tactic| walk_at "call ref") => `(tactic| (k_here; (with_reducible show wpAny _ _ (call (Value.ref 144) _) _ _ _); k_dflt (refine' use (sub_calls ?a1 ?a2 ?a3 ?p1 ?p2) ?k1 ?k2 ?k3 ?k4 ?k5 ?kK ?kd ?ku ?_; tb_start; (case a1 => k_mem); (case a2 => k_mem); (case a3 => assumption); (case p1 => omega); (case p2 => omega); tb_rel)))
local macro_rules | `(tactic| walk_at "call ref") => `(tactic| (k_here; (with_reducible show wpAny _ _ (call (Value.ref 263) _) _ _ _); k_dflt (refine' use (timesW_calls ?a1 ?a2 ?a3 ?a4 ?b1 ?b2 ?b3 ?b4 ?p1 ?p2 ?p3 ?p4 ?p5 ?p6) ?k1 ?k2 ?k3 ?k4 ?k5 ?kK ?kd ?ku ?_; tb_start; (case a1 => k_mem); (case a2 => k_mem); (case a4 => assumption); (case a3 => k_mem); (case b1 => k_mem); (case b2 => k_mem); (case b4 => assumption); (case b3 => k_mem); (case p1 => omega); (case p2 => omega); (case p3 => omega); (case p4 => omega); (case p5 => omega); (case p6 => omega); tb_rel)))
local macro_rules | `(tactic| walk_at "call ref") => `(tactic| (k_here; (with_reducible show wpAny _ _ (call (Value.ref 368) _) _ _ _); k_dflt (refine' use money_calls ?k1 ?k2 ?k3 ?k4 ?k5 ?kK ?kd ?ku ?_; tb_start; ktd_rel)))
local macro_rules | `(tactic| walk_at "call ref") => `(tactic| (k_here; (with_reducible show wpAny _ _ (call (Value.ref 389) _) _ _ _); k_dflt (refine' use whole_calls ?k1 ?k2 ?k3 ?k4 ?k5 ?kK ?kd ?ku ?_; tb_start; ktd_rel)))

theorem sum_step {ns pre post : List Int} {n a : Int} (hb : ∀ pre post, ns = pre ++ post → -20000 ≤ pre.sum ∧ pre.sum ≤ 20000) (e : ns = pre ++ n :: post) (ha : a = pre.sum) : -20000 ≤ a + n ∧ a + n ≤ 20000 := by
  have := hb (pre ++ [n]) post (by rw [e, List.append_assoc]; rfl)
  rw [List.sum_append, List.sum_singleton, ← ha] at this
  exact this
local macro_rules | `(tactic| walk_at "call ref") => `(tactic| (k_here; (with_reducible show wpAny _ _ (call (Value.ref 137) _) _ _ _); k_dflt (refine' use (add_calls ?a1 ?a2 ?a3 ?p1 ?p2) ?k1 ?k2 ?k3 ?k4 ?k5 ?kK ?kd ?ku ?_; tb_start; (case a1 => k_mem); (case a2 => k_mem); (case a3 => assumption); (case p1 => exact (sum_step (by assumption) (by assumption) (by assumption)).1); (case p2 => exact (sum_step (by assumption) (by assumption) (by assumption)).2); tb_rel)))

theorem sum_calls {w : World} {news : List (Addr × Obj)} {l : Addr} {vs : List Value} {ns : List Int} {n : Nat} (hl : (l, W.listOf vs.toArray n) ∈ news) (hi : IntsAre vs ns) (hlen : ns.length ≤ 12)
    (hb : ∀ pre post, ns = pre ++ post → -20000 ≤ pre.sum ∧ pre.sum ≤ 20000) : Calls w 20 410 news [.ref l] (fun r tl => tl = [] ∧ ∃ t, r = .int ns.sum t) := by
  intro mean mg mb dp un gd cn cs a ccd cl outer A₀ base h₀ L m s Q E B F X N T hk hdp hun hret
  refine wpAny_call ?_
  k_dflt (refine' enterG ?k1 ?k2 ?k3 ?k4 ?k5 ?kA ?kF ?kK ?k6 ?k7 ?k8 ?k9 ?kB ?_ ?c2 ?c3 ?c4 ?c5; (case kA => exact rfl); (case kF => exact rfl); (case kK => assumption); (case k1 => k_asm); (case k2 => k_asm); (case k3 => k_asm); (case k4 => k_asm); (case k5 => k_asm); (case k6 => k_is); (case k7 => k_is); (case k8 => ktr_room); (case k9 => exact BindsTo.of_eq rfl); (case c5 => decide); (case kB => exact locs rfl); (case c2 => exact rfl); (case c3 => exact rfl); (case c4 => exact rfl); k_whole; intro g' L' h' NG' FG' F' N' B' X' T'; (try dsimp only); (try k_lift B'); (try k_fold))
  have hlG : g'.IsList l vs.toArray := ⟨_, (NG' _ hl).1, rfl, _, rfl⟩
  (k_with "pyIter ref" => k_state (fun pre a => a = pre.sum) "found")
  k_steps
  (with_reducible rename (_ = List.sum _) => kI9)
  exact retI hret (by k_asm) (by assumption) kI9
end Mine
end
section
theorem Mine.anew_C10 : True := by
  w_top off
  trivial
open PySem PySem.W PyProof.Rows
set_option maxRecDepth 100000
set_option maxHeartbeats 8000000
namespace Mine
local macro_rules | `(tactic| k_all) => `(tactic| first | exact Mine.ne_of_allLt (by assumption) | exact Mine.ne_of_allLt' (by assumption))
local macro_rules | `(tactic| k_lt $h) => `(tactic| (replace $h := allLt_of $h; (have hA9 := $h); (repeat (replace hA9 := And.right hA9)); simp only [AllLt, and_true] at $h:ident))
local macro_rules | `(tactic| k_room) => `(tactic| ((try simp only [depth_mark, depth_under_make, depth_under_kw, depth_in1, depth_deeper, depth_caller] at *); (try dsimp only [ktrTop] at *); (try simp only [recursionLimit] at *); omega))
local macro_rules | `(tactic| k_get) => `(tactic| (with_reducible assumption))
local macro_rules | `(tactic| k_mem) => `(tactic| first | ktr_member | exact List.Mem.head _ | (refine' Mine.mem_tail ?_; k_mem))
local macro_rules | `(tactic| tb_start) => `(tactic| (
  (case k1 => k_asm)
  (case k2 => k_asm)
  (case k3 => k_asm)
  (case k4 => k_asm)
  (case k5 => k_asm)
  (case kK => first | exact rfl | assumption)
  (case kd => k_room)
  (case ku => ktr_units)))
local macro_rules | `(tactic| tb_rel) => `(tactic| (intro r9 tl9 h9 tk9 F9 N9 hl9 ho9; obtain ⟨e9, t9, e8⟩ := ho9; subst e9; subst e8; clear hl9; (try simp only [List.nil_append] at N9); (try dsimp only); (try k_sweep); (try k_fold)))
local macro_rules | `(tactic| ktd_rel) => `(tactic| (intro r9 tl9 h9 tk9 F9 N9 hl9 ho9; obtain ⟨x9, dx9, sm9, es9, c9, ta9, tb9, tc9, td9, te9, e9, e8, T9⟩ := ho9; subst e9; subst e8; (try simp only [List.cons_append, List.nil_append] at N9); (replace hl9 := Mine.ordLt3 hl9); (try simp only [AllLt, and_true] at hl9); (have U9 := T9); obtain ⟨U1, U2, U3, U4⟩ := U9; (try dsimp only); (try k_sweep); (try k_fold)))
local macro_rules | `(tactic| walk_at "call ref") => `(tactic| (k_here; (with_reducible show wpAny _ _ (call (Value.ref 137) _) _ _ _); k_dflt (refine' use (add_calls ?a1 ?a2 ?a3 ?p1 ?p2) ?k1 ?k2 ?k3 ?k4 ?k5 ?kK ?kd ?ku ?_; tb_start; (case a1 => k_mem); (case a2 => k_mem); (case a3 => assumption); (case p1 => omega); (case p2 => omega); tb_rel)))
local macro_rules | `(tactic| walk_at "call ref") => `(tactic| (k_here; (with_reducible show wpAny _ _ (call (Value.ref 144) _) _ _ _); k_dflt (refine' use (sub_calls ?a1 ?a2 ?a3 ?p1 ?p2) ?k1 ?k2 ?k3 ?k4 ?k5 ?kK ?kd ?ku ?_; tb_start; (case a1 => k_mem); (case a2 => k_mem); (case a3 => assumption); (case p1 => omega); (case p2 => omega); tb_rel)))
local macro_rules | `(tactic| walk_at "call ref") => `(tactic| (k_here; (with_reducible show wpAny _ _ (call (Value.ref 263) _) _ _ _); k_dflt (refine' use (timesW_calls ?a1 ?a2 ?a3 ?a4 ?b1 ?b2 ?b3 ?b4 ?p1 ?p2 ?p3 ?p4 ?p5 ?p6) ?k1 ?k2 ?k3 ?k4 ?k5 ?kK ?kd ?ku ?_; tb_start; (case a1 => k_mem); (case a2 => k_mem); (case a4 => assumption); (case a3 => k_mem); (case b1 => k_mem); (case b2 => k_mem); (case b4 => assumption); (case b3 => k_mem); (case p1 => omega); (case p2 => omega); (case p3 => omega); (case p4 => omega); (case p5 => omega); (case p6 => omega); tb_rel)))
local macro_rules | `(tactic| walk_at "call ref") => `(tactic| (k_here; (with_reducible show wpAny _ _ (call (Value.ref 368) _) _ _ _); k_dflt (refine' use money_calls ?k1 ?k2 ?k3 ?k4 ?k5 ?kK ?kd ?ku ?_; tb_start; ktd_rel)))
local macro_rules | `(tactic| walk_at "call ref") => `(tactic| (k_here; (with_reducible show wpAny _ _ (call (Value.ref 389) _) _ _ _); k_dflt (refine' use whole_calls ?k1 ?k2 ?k3 ?k4 ?k5 ?kK ?kd ?ku ?_; tb_start; ktd_rel)))
local macro_rules | `(tactic| walk_at "call ref") => `(tactic| (k_here; (with_reducible show wpAny _ _ (call (Value.ref 116) _) _ _ _); k_dflt (refine' use (smallF_calls ?a1 ?a2 ?a3) ?k1 ?k2 ?k3 ?k4 ?k5 ?kK ?kd ?ku ?_; tb_start; (case a1 => k_mem); (case a2 => k_mem); (case a3 => assumption); (intro r9 tl9 h9 tk9 F9 N9 hl9 ho9; obtain ⟨e9, e8⟩ := ho9; subst e9; subst e8; clear hl9; (try simp only [List.nil_append] at N9); (try dsimp only); (try k_sweep); (try k_fold)))))
local macro_rules | `(tactic| walk_at "call ref") => `(tactic| (k_here; (with_reducible show wpAny _ _ (call (Value.ref 116) _) _ _ _); k_dflt (refine' use (smallI_calls ?a1 ?a2 ?a3) ?k1 ?k2 ?k3 ?k4 ?k5 ?kK ?kd ?ku ?_; tb_start; (case a1 => k_mem); (case a2 => k_mem); (case a3 => assumption); (intro r9 tl9 h9 tk9 F9 N9 hl9 ho9; obtain ⟨q9, t9, u9, e9, e8⟩ := ho9; subst e9; subst e8; clear hl9; (try simp only [List.cons_append, List.nil_append] at N9); (try dsimp only); (try k_sweep); (try k_fold)))))
local macro_rules | `(tactic| walk_at "call ref") => `(tactic| (k_here; (with_reducible show wpAny _ _ (call (Value.ref 109) _) _ _ _); k_dflt (refine' use (cut_calls ?p1 ?p2) ?k1 ?k2 ?k3 ?k4 ?k5 ?kK ?kd ?ku ?_; tb_start; (case p1 => omega); (case p2 => omega); tb_rel)))
local macro_rules | `(tactic| walk_at "call ref") => `(tactic| (k_here; (with_reducible show wpAny _ _ (call (Value.ref 95) _) _ _ _); k_dflt (refine' use (check_calls ?a1 ?a2 ?a3 ?a4 ?p1 ?p2) ?k1 ?k2 ?k3 ?k4 ?k5 ?kK ?kd ?ku ?_; tb_start; (case a1 => k_mem); (case a2 => k_mem); (case a3 => k_get); (case a4 => k_get); (case p1 => omega); (case p2 => omega); tb_rel)))
theorem conv_calls {w : World} {news : List (Addr × Obj)} {S dS t dt sm o dd so : Addr} {eS et eo : List DictEntry} {cS ct co : Nat} {u1 u2 u3 u4 u5 v1 v2 v3 v4 v5 : Tok} {lo hi lo' hi' : Int} {v a b : Int} {tv : Tok}
    (hS : (S, instObj 343 dS) ∈ news) (hS2 : (dS, dictOf eS cS) ∈ news) (hS3 : getL (Str.ofString "type") eS = some (some (.ref t))) (hS4 : getL (Str.ofString "constraint") eS = some (some .none))
    (hta : (t, instObj 322 dt) ∈ news) (htb : (dt, dictOf et ct) ∈ news) (htc : (sm, tup2 1 b u4 u5) ∈ news) (htd : TyE et "fixed" sm lo hi u1 u2 u3)
    (hoa : (o, instObj 322 dd) ∈ news) (hob : (dd, dictOf eo co) ∈ news) (hoc : (so, tup2 1 a v4 v5) ∈ news) (hod : TyE eo "fixed" so lo' hi' v1 v2 v3)
    (ha0 : 0 < a) (ha1 : a ≤ 1000) (hb0 : 0 < b) (hb1 : b ≤ 1000) (h0 : lo ≤ cutz (v * 1 * b) (a * 1)) (h1 : cutz (v * 1 * b) (a * 1) ≤ hi) :
    Calls w 30 130 news [.ref S, .ref o, .int v tv] (fun r tl => tl = [] ∧ ∃ t, r = .int (cutz (v * 1 * b) (a * 1)) t) := by
  intro mean mg mb dp un gd cn cs a' ccd cl outer A₀ base h₀ L m s Q E B F X N T hk hdp hun hret
  have htd' := htd
  obtain ⟨a1, a2, a3, a4⟩ := htd'
  have hod' := hod
  obtain ⟨b1, b2, b3, b4⟩ := hod'
  refine wpAny_call ?_
  k_dflt cell_enter
  k_steps
  refine' retI hret ?kf (news_sub ?kn ?kt) rfl
  case kf => k_asm
  case kn => k_asm
  case kt => repeat (first | exact fun _ h => h | refine sub_tail ?_)
end Mine
end
section
theorem Mine.anew_C11 : True := by
  w_top off
  trivial
open PySem PySem.W PyProof.Rows
set_option maxRecDepth 100000
set_option maxHeartbeats 8000000
namespace Mine
local macro_rules | `(tactic| k_all) => `(tactic| first | exact Mine.ne_of_allLt (by assumption) | exact Mine.ne_of_allLt' (by assumption))
local macro_rules | `(tactic| k_lt $h) => `(tactic| (replace $h := allLt_of $h; (have hA9 := $h); (repeat (replace hA9 := And.right hA9)); simp only [AllLt, and_true] at $h:ident))
local macro_rules | `(tactic| k_room) => `(tactic| ((try simp only [depth_mark, depth_under_make, depth_under_kw, depth_in1, depth_deeper, depth_caller] at *); (try dsimp only [ktrTop] at *); (try simp only [recursionLimit] at *); omega))
local macro_rules | `(tactic| k_get) => `(tactic| (with_reducible assumption))
local macro_rules | `(tactic| k_mem) => `(tactic| first | ktr_member | exact List.Mem.head _ | (refine' Mine.mem_tail ?_; k_mem))
local macro_rules | `(tactic| tb_start) => `(tactic| (
  (case k1 => k_asm)
  (case k2 => k_asm)
  (case k3 => k_asm)
  (case k4 => k_asm)
  (case k5 => k_asm)
  (case kK => first | exact rfl | assumption)
  (case kd => k_room)
  (case ku => ktr_units)))
local macro_rules | `(tactic| tb_rel) => `(tactic| (intro r9 tl9 h9 tk9 F9 N9 hl9 ho9; obtain ⟨e9, t9, e8⟩ := ho9; subst e9; subst e8; clear hl9; (try simp only [List.nil_append] at N9); (try dsimp only); (try k_sweep); (try k_fold)))
local macro_rules | `(tactic| ktd_rel) => `(tactic| (intro r9 tl9 h9 tk9 F9 N9 hl9 ho9; obtain ⟨x9, dx9, sm9, es9, c9, ta9, tb9, tc9, td9, te9, e9, e8, T9⟩ := ho9; subst e9; subst e8; (try simp only [List.cons_append, List.nil_append] at N9); (replace hl9 := Mine.ordLt3 hl9); (try simp only [AllLt, and_true] at hl9); (have U9 := T9); obtain ⟨U1, U2, U3, U4⟩ := U9; (try dsimp only); (try k_sweep); (try k_fold)))

theorem mint_calls {w : World} {C S : Addr} {rest : List (Addr × Obj)} {vs : List Value} {ns : List Int} {k : Int} {t tm : Tok} {n nS : Nat} {many : Int} (hS : (S, W.listOf vs.toArray nS) ∈ rest) (hi : IntsAre vs ns) (hlen : ns.length ≤ 5)
    (hk0 : 0 ≤ k) (hk1 : k ≤ 4) (hm0 : 0 < many) (hm1 : many ≤ 20001) :
    CallsM w 20 403 C (W.listOf #[.ref S, .int k t] n) rest [.ref C, .int many tm] (fun r o' => ∃ v t' t'' n', r = .int v t' ∧ 0 ≤ v ∧ v < many ∧ o' = W.listOf #[.ref S, .int (k + 1) t''] n') := by
  intro mean mg mb dp un gd cn cs a ccd cl outer A₀ base h₀ L m s Q E B F X N hoff T hk hdp hun hret
  refine wpAny_call ?_
  k_dflt (refine' enterP ?k1 ?k2 ?k3 ?k4 ?ko ?k5 ?kA ?kF ?kK ?k6 ?k7 ?k8 ?k9 ?kB ?_ ?c2 ?c3 ?c4 ?c5; (case kA => exact rfl); (case kF => exact rfl); (case kK => assumption); (case k1 => k_asm); (case k2 => k_asm); (case k3 => k_asm); (case k4 => k_asm); (case ko => k_asm); (case k5 => k_asm); (case k6 => k_is); (case k7 => k_is); (case k8 => ktr_room); (case k9 => exact BindsTo.of_eq rfl); (case c5 => decide); (case kB => exact locs rfl); (case c2 => exact rfl); (case c3 => exact rfl); (case c4 => exact rfl); k_whole; intro g' L' h' NG' FG' F' N' B' X' T'; (try dsimp only); (try k_lift B'); (try k_fold))
  have hlG : g'.IsList S vs.toArray := ⟨_, (NG' _ hS).1, rfl, _, rfl⟩
  k_steps
  all_goals (
    (with_reducible rename News _ _ _ rest => N8)
    (with_reducible rename News _ _ _ (_ :: _) => N9)
    refine' hret _ _ _ _ ?kf (news_cat (tl := [(C, _)]) N9 N8 (sub1 ?km)) ⟨_, _, _, _, rfl, (fmod_in hm0).1, (fmod_in hm0).2, ?ko⟩
    case kf => k_asm
    case km => k_mem
    case ko => rfl)
end Mine
end
section
open PySem PySem.W PyProof.Rows
namespace Mine
theorem part_facts {x y : Int} (h3 : y < 101) (h2 : 0 ≤ y) (h0 : -20000 ≤ x) (h1 : x ≤ 20000) :
    (0 ≤ x → ((if x < 0 then -x else x) * y).fdiv 100 = cutz (x * y) 100) ∧ (x < 0 → -((if x < 0 then -x else x) * y).fdiv 100 = cutz (x * y) 100) ∧
    -1 ≤ x - cutz (x * y) 100 - cutz (x * (100 - y)) 100 ∧ x - cutz (x * y) 100 - cutz (x * (100 - y)) 100 ≤ 1 ∧
    0 ≤ (if x - cutz (x * y) 100 - cutz (x * (100 - y)) 100 < 0 then -(x - cutz (x * y) 100 - cutz (x * (100 - y)) 100) else x - cutz (x * y) 100 - cutz (x * (100 - y)) 100) ∧
    (if x - cutz (x * y) 100 - cutz (x * (100 - y)) 100 < 0 then -(x - cutz (x * y) 100 - cutz (x * (100 - y)) 100) else x - cutz (x * y) 100 - cutz (x * (100 - y)) 100) ≤ 1 ∧
    0 ≤ (x - cutz (x * y) 100 - cutz (x * (100 - y)) 100) * x := by
  have e : x * (100 - y) = 100 * x - x * y := by rw [Int.mul_sub, Int.mul_comm x 100]
  rw [e]
  rw [Int.fdiv_eq_ediv_of_nonneg _ (by decide : (0 : Int) ≤ 100)]
  by_cases hx : x < 0
  · rw [if_pos hx, Int.neg_mul]
    have a1 : x * y ≤ 0 := Int.mul_nonpos_of_nonpos_of_nonneg (by omega) h2
    have a2 : 100 * x - x * y ≤ 0 := by rw [← e]; exact Int.mul_nonpos_of_nonpos_of_nonneg (by omega) (by omega)
    generalize x * y = n at *
    have c1 : cutz n 100 = -((-n) / 100) := by unfold cutz; split <;> omega
    have c2 : cutz (100 * x - n) 100 = -((-(100 * x - n)) / 100) := by unfold cutz; split <;> omega
    rw [c1, c2]
    refine ⟨by omega, by omega, by omega, by omega, by split <;> omega, by split <;> omega, Int.mul_nonneg_of_nonpos_of_nonpos (by omega) (by omega)⟩
  · rw [if_neg hx]
    have a1 : 0 ≤ x * y := Int.mul_nonneg (by omega) h2
    have a2 : 0 ≤ 100 * x - x * y := by rw [← e]; exact Int.mul_nonneg (by omega) (by omega)
    generalize x * y = n at *
    have c1 : cutz n 100 = n / 100 := by unfold cutz; split <;> omega
    have c2 : cutz (100 * x - n) 100 = (100 * x - n) / 100 := by unfold cutz; split <;> omega
    rw [c1, c2]
    refine ⟨by omega, by omega, by omega, by omega, by split <;> omega, by split <;> omega, Int.mul_nonneg (by omega) (by omega)⟩
theorem part_factsG {x y : Int} (h3 : y < 101) (h2 : 0 ≤ y) (h0 : -20000 ≤ x) (h1 : x ≤ 20000) :
    (0 ≤ x → ((if x < 0 then -x else x) * y).fdiv 100 = ([cutz (x * y) 100, cutz (x * (100 - y)) 100] : List Int).getD (Int.toNat 0) 0) ∧ (x < 0 → -((if x < 0 then -x else x) * y).fdiv 100 = ([cutz (x * y) 100, cutz (x * (100 - y)) 100] : List Int).getD (Int.toNat 0) 0) ∧
    -1 ≤ x - ([cutz (x * y) 100, cutz (x * (100 - y)) 100] : List Int).getD (Int.toNat 0) 0 - ([cutz (x * y) 100, cutz (x * (100 - y)) 100] : List Int).getD (Int.toNat 1) 0 ∧ x - ([cutz (x * y) 100, cutz (x * (100 - y)) 100] : List Int).getD (Int.toNat 0) 0 - ([cutz (x * y) 100, cutz (x * (100 - y)) 100] : List Int).getD (Int.toNat 1) 0 ≤ 1 ∧
    0 ≤ (if x - ([cutz (x * y) 100, cutz (x * (100 - y)) 100] : List Int).getD (Int.toNat 0) 0 - ([cutz (x * y) 100, cutz (x * (100 - y)) 100] : List Int).getD (Int.toNat 1) 0 < 0 then -(x - ([cutz (x * y) 100, cutz (x * (100 - y)) 100] : List Int).getD (Int.toNat 0) 0 - ([cutz (x * y) 100, cutz (x * (100 - y)) 100] : List Int).getD (Int.toNat 1) 0) else x - ([cutz (x * y) 100, cutz (x * (100 - y)) 100] : List Int).getD (Int.toNat 0) 0 - ([cutz (x * y) 100, cutz (x * (100 - y)) 100] : List Int).getD (Int.toNat 1) 0) ∧
    (if x - ([cutz (x * y) 100, cutz (x * (100 - y)) 100] : List Int).getD (Int.toNat 0) 0 - ([cutz (x * y) 100, cutz (x * (100 - y)) 100] : List Int).getD (Int.toNat 1) 0 < 0 then -(x - ([cutz (x * y) 100, cutz (x * (100 - y)) 100] : List Int).getD (Int.toNat 0) 0 - ([cutz (x * y) 100, cutz (x * (100 - y)) 100] : List Int).getD (Int.toNat 1) 0) else x - ([cutz (x * y) 100, cutz (x * (100 - y)) 100] : List Int).getD (Int.toNat 0) 0 - ([cutz (x * y) 100, cutz (x * (100 - y)) 100] : List Int).getD (Int.toNat 1) 0) ≤ 1 ∧
    0 ≤ (x - ([cutz (x * y) 100, cutz (x * (100 - y)) 100] : List Int).getD (Int.toNat 0) 0 - ([cutz (x * y) 100, cutz (x * (100 - y)) 100] : List Int).getD (Int.toNat 1) 0) * x := part_facts h3 h2 h0 h1
theorem conv_facts {x : Int} (h0 : -20000 ≤ x) (h1 : x ≤ 20000) :
    (if cutz (cutz (x * 1 * 4) (100 * 1) * 1 * 100) (4 * 1) < 0 then -cutz (cutz (x * 1 * 4) (100 * 1) * 1 * 100) (4 * 1) else cutz (cutz (x * 1 * 4) (100 * 1) * 1 * 100) (4 * 1)) = (if x < 0 then -x else x).fdiv 25 * 25 ∧
    0 ≤ cutz (cutz (x * 1 * 4) (100 * 1) * 1 * 100) (4 * 1) * x ∧ 25 * cutz (x * 1 * 4) (100 * 1) = cutz (cutz (x * 1 * 4) (100 * 1) * 1 * 100) (4 * 1) ∧ cutz (x * 1 * 4) (100 * 1) * 25 = cutz (cutz (x * 1 * 4) (100 * 1) * 1 * 100) (4 * 1) := by
  rw [Int.fdiv_eq_ediv_of_nonneg _ (by decide : (0 : Int) ≤ 25)]
  by_cases hx : x < 0
  · rw [if_pos hx]
    have c1 : cutz (x * 1 * 4) (100 * 1) = -((-x) / 25) := by unfold cutz; split <;> omega
    rw [c1]
    have c2 : cutz (-((-x) / 25) * 1 * 100) (4 * 1) = -((-x) / 25 * 25) := by unfold cutz; split <;> omega
    rw [c2]
    refine ⟨by split <;> omega, Int.mul_nonneg_of_nonpos_of_nonpos (by omega) (by omega), by omega, by omega⟩
  · rw [if_neg hx]
    have c1 : cutz (x * 1 * 4) (100 * 1) = x / 25 := by unfold cutz; split <;> omega
    rw [c1]
    have c2 : cutz (x / 25 * 1 * 100) (4 * 1) = x / 25 * 25 := by unfold cutz; split <;> omega
    rw [c2]
    refine ⟨by split <;> omega, Int.mul_nonneg (by omega) (by omega), by omega, by omega⟩
end Mine
end
section
theorem Mine.anew_C12 : True := by
  w_top off
  trivial
open PySem PySem.W PyProof.Rows
set_option maxRecDepth 100000
set_option maxHeartbeats 4000000
namespace Mine
local macro_rules | `(tactic| k_all) => `(tactic| first | exact Mine.ne_of_allLt (by assumption) | exact Mine.ne_of_allLt' (by assumption))
local macro_rules | `(tactic| k_lt $h) => `(tactic| (replace $h := allLt_of $h; (have hA9 := $h); (repeat (replace hA9 := And.right hA9)); simp only [AllLt, and_true] at $h:ident))
local macro_rules | `(tactic| k_room) => `(tactic| ((try simp only [depth_mark, depth_under_make, depth_under_kw, depth_in1, depth_deeper, depth_caller] at *); (try dsimp only [ktrTop] at *); (try simp only [recursionLimit] at *); omega))
local macro_rules | `(tactic| k_get) => `(tactic| (with_reducible assumption))
local macro_rules | `(tactic| k_mem) => `(tactic| first | ktr_member | exact List.Mem.head _ | (refine' Mine.mem_tail ?_; k_mem))
local macro_rules | `(tactic| tb_start) => `(tactic| (
  (case k1 => k_asm)
  (case k2 => k_asm)
  (case k3 => k_asm)
  (case k4 => k_asm)
  (case k5 => k_asm)
  (case kK => first | exact rfl | assumption)
  (case kd => k_room)
  (case ku => ktr_units)))
local macro_rules | `(tactic| tb_rel) => `(tactic| (intro r9 tl9 h9 tk9 F9 N9 hl9 ho9; obtain ⟨e9, t9, e8⟩ := ho9; subst e9; subst e8; clear hl9; (try simp only [List.nil_append] at N9); (try dsimp only); (try k_sweep); (try k_fold)))
local macro_rules | `(tactic| ktd_rel) => `(tactic| (intro r9 tl9 h9 tk9 F9 N9 hl9 ho9; obtain ⟨x9, dx9, sm9, es9, c9, ta9, tb9, tc9, td9, te9, e9, e8, T9⟩ := ho9; subst e9; subst e8; (try simp only [List.cons_append, List.nil_append] at N9); (replace hl9 := Mine.ordLt3 hl9); (try simp only [AllLt, and_true] at hl9); (have U9 := T9); obtain ⟨U1, U2, U3, U4⟩ := U9; (try dsimp only); (try k_sweep); (try k_fold)))
local macro_rules | `(tactic| walk_at "call ref") => `(tactic| (k_here; (with_reducible show wpAny _ _ (call (Value.ref 137) _) _ _ _); k_dflt (refine' use (add_calls ?a1 ?a2 ?a3 ?p1 ?p2) ?k1 ?k2 ?k3 ?k4 ?k5 ?kK ?kd ?ku ?_; tb_start; (case a1 => k_mem); (case a2 => k_mem); (case a3 => assumption); (case p1 => omega); (case p2 => omega); tb_rel)))
local macro_rules | `(tactic| walk_at "call ref") => `(tactic| (k_here; (with_reducible show wpAny _ _ (call (Value.ref 144) _) _ _ _); k_dflt (refine' use (sub_calls ?a1 ?a2 ?a3 ?p1 ?p2) ?k1 ?k2 ?k3 ?k4 ?k5 ?kK ?kd ?ku ?_; tb_start; (case a1 => k_mem); (case a2 => k_mem); (case a3 => assumption); (case p1 => omega); (case p2 => omega); tb_rel)))
local macro_rules | `(tactic| walk_at "call ref") => `(tactic| (k_here; (with_reducible show wpAny _ _ (call (Value.ref 263) _) _ _ _); k_dflt (refine' use (timesW_calls ?a1 ?a2 ?a3 ?a4 ?b1 ?b2 ?b3 ?b4 ?p1 ?p2 ?p3 ?p4 ?p5 ?p6) ?k1 ?k2 ?k3 ?k4 ?k5 ?kK ?kd ?ku ?_; tb_start; (case a1 => k_mem); (case a2 => k_mem); (case a4 => assumption); (case a3 => k_mem); (case b1 => k_mem); (case b2 => k_mem); (case b4 => assumption); (case b3 => k_mem); (case p1 => omega); (case p2 => omega); (case p3 => omega); (case p4 => omega); (case p5 => omega); (case p6 => omega); tb_rel)))
local macro_rules | `(tactic| walk_at "call ref") => `(tactic| (k_here; (with_reducible show wpAny _ _ (call (Value.ref 368) _) _ _ _); k_dflt (refine' use money_calls ?k1 ?k2 ?k3 ?k4 ?k5 ?kK ?kd ?ku ?_; tb_start; ktd_rel)))
local macro_rules | `(tactic| walk_at "call ref") => `(tactic| (k_here; (with_reducible show wpAny _ _ (call (Value.ref 389) _) _ _ _); k_dflt (refine' use whole_calls ?k1 ?k2 ?k3 ?k4 ?k5 ?kK ?kd ?ku ?_; tb_start; ktd_rel)))
local macro_rules | `(tactic| walk_at "call ref") => `(tactic| (k_here; (with_reducible show wpAny _ _ (call (Value.ref 270) _) _ _ _); k_dflt (refine' use (over_calls ?a1 ?a2 ?a3 ?a4 ?b1 ?b2 ?b3 ?b4 ?p1 ?p2 ?p3 ?p4 ?p5 ?p6) ?k1 ?k2 ?k3 ?k4 ?k5 ?kK ?kd ?ku ?_; tb_start; (case a1 => k_mem); (case a2 => k_mem); (case a4 => assumption); (case a3 => k_mem); (case b1 => k_mem); (case b2 => k_mem); (case b4 => assumption); (case b3 => k_mem); (case p1 => omega); (case p2 => omega); (case p3 => omega); (case p4 => omega); (case p5 => omega); (case p6 => omega); tb_rel)))

local macro_rules | `(tactic| walk_at "subscriptTail Call") => `(tactic| walk_at "subscriptTail")
theorem goodsum_calls {w : World} {news : List (Addr × Obj)} {l : Addr} {vs : List Value} {ns : List Int} {n : Nat} {x : Int} (hl : (l, W.listOf vs.toArray n) ∈ news) (hi : IntsAre vs ns) (hlen : ns.length ≤ 12)
    (G : Good ns x) (h0 : -20000 ≤ x) (h1 : x ≤ 20000) : Calls w 20 410 news [.ref l] (fun r tl => tl = [] ∧ ∃ t, r = .int x t) := by
  have e := sum_calls (w := w) hl hi hlen (G.pre h0 h1)
  rw [G.sum] at e
  exact e
def CutEnd (X : Int) (s : Shared) (v : Value) (s' : Shared) : Prop := (∃ t, v = .int X t) ∧ ∃ tk, s' = { s with toks := tk }
theorem cut_end {X z : Int} {t : Tok} {tk : Nat} {s : Shared} (h : z = X) : CutEnd X s (.int z t) { s with toks := tk } := ⟨⟨t, by rw [h]⟩, tk, rfl⟩
theorem cut_share {M : Model} {A : Around} {c : Sem Value} {x p : Int} {Q E : Value → Shared → Prop} {s : Shared} (_ : SF x p) (h1 : wpAny M A c (CutEnd (cutz x p) s) E s) (h2 : ∀ t tk, Q (.int (cutz x p) t) { s with toks := tk }) : wpAny M A c Q E s :=
  wpAny_mono h1 (fun _ _ ⟨⟨t, e⟩, tk, e2⟩ => e ▸ e2 ▸ h2 t tk) fun _ _ e => e
def HdEnd (c R p : Int) (s : Shared) (v : Value) (s' : Shared) : Prop := (∃ d t, HD c R d p ∧ v = .int d t) ∧ ∃ tk, s' = { s with toks := tk }
theorem hd_end {c R d p : Int} {t : Tok} {tk : Nat} {s : Shared} (h : HD c R d p) : HdEnd c R p s (.int d t) { s with toks := tk } := ⟨⟨d, t, h, rfl⟩, tk, rfl⟩
theorem cut_single {M : Model} {A : Around} {c : Sem Value} {x p : Int} {Q E : Value → Shared → Prop} {s : Shared} (_ : SF x p) (h1 : wpAny M A c (HdEnd (cutz x p) (x - cutz x p * p) p s) E s) (h2 : ∀ d t tk, HD (cutz x p) (x - cutz x p * p) d p → -1 ≤ d → d ≤ 1 → Q (.int d t) { s with toks := tk }) : wpAny M A c Q E s :=
  wpAny_mono h1 (fun _ _ ⟨⟨d, t, hd, e⟩, tk, e2⟩ => e ▸ e2 ▸ h2 d t tk hd hd.unit.1 hd.unit.2) fun _ _ e => e
local macro_rules | `(tactic| walk_at "eval IfExp") => `(tactic| (k_here; (with_reducible show wpAny _ _ (eval (PySem.Expr.IfExp _ (PySem.Expr.BinOp _ _ _ _) (PySem.Expr.UnaryOp _ _ _) _) _) _ _ _); refine' cut_share ?d9 ?z1 (fun t9 tk9 => ?_); (case d9 => assumption); (case z1 => ((with_reducible refine IfExp_ ?_); (k_dflt k_steps); (all_goals (refine' cut_end ?_; first | exact SF.pos ‹SF _ _› (by omega) | exact SF.neg ‹SF _ _› (by omega)))))))
local macro_rules | `(tactic| walk_at "eval IfExp") => `(tactic| (k_here; (with_reducible show wpAny _ _ (eval (PySem.Expr.IfExp _ (PySem.Expr.Constant _ _ _) _ _) _) _ _ _); refine' cut_single ?d9 ?z1 (fun d9 t9 tk9 hh9 hd9 he9 => ?_); (case d9 => assumption); (case z1 => ((with_reducible refine IfExp_ ?_); (k_dflt k_steps); (all_goals (refine' hd_end ?_; first | exact SF.one ‹SF _ _› (by assumption) | exact SF.two ‹SF _ _› (by assumption) | exact SF.one ‹SF _ _› (by omega) | exact SF.two ‹SF _ _› (by omega))))); (repeat (with_reducible rename (0 : Int) ≤ _ * _ => hz9; clear hz9)); (repeat (with_reducible rename ite _ _ _ < (_ : Int) => hz9; clear hz9)); (repeat (with_reducible rename SF _ _ => hz9; clear hz9))))
local macro_rules | `(tactic| walk_at "call ref") => `(tactic| (k_here; (with_reducible show wpAny _ _ (call (Value.ref 410) _) _ _ _); k_dflt (refine' use (goodsum_calls ?a1 ?a2 ?a3 ?g1 ?p1 ?p2) ?k1 ?k2 ?k3 ?k4 ?k5 ?kK ?kd ?ku ?_; tb_start; (case a1 => k_mem); (case a2 => assumption); (case a3 => (simp only [List.length_reverse, List.length_map, rangeKs_length]; omega)); (case g1 => (with_reducible first | exact deal_good (by assumption) rfl (by assumption) | exact Good.rev (deal_good (by assumption) rfl (by assumption)))); (case p1 => omega); (case p2 => omega); tb_rel)))
local macro_rules | `(tactic| walk_at "call builtin:max") => `(tactic| (k_here; (with_reducible show wpAny _ _ (call (Value.builtin _) [Value.ref _]) _ _ _); ((with_unfolding_all refine' kso_max ?k1 ?k2 ?k3 ?k4 ?k5 ?k6 ?_; (case k1 => k_asm); (case k2 => k_asm); (case k3 => kso_list); (case k4 => l_ints); (case k5 => (simp only [List.length_map, rangeKs_length]; omega)); (case k6 => with_unfolding_all rfl); k_whole); intro h' M' t' k' F' N' a' b'; clear b'; (with_reducible replace a' := deal_mem a'); (try k_sweep))))
local macro_rules | `(tactic| walk_at "call builtin:min") => `(tactic| (k_here; (with_reducible show wpAny _ _ (call (Value.builtin _) [Value.ref _]) _ _ _); ((with_unfolding_all refine' kso_min ?k1 ?k2 ?k3 ?k4 ?k5 ?k6 ?_; (case k1 => k_asm); (case k2 => k_asm); (case k3 => kso_list); (case k4 => l_ints); (case k5 => (simp only [List.length_map, rangeKs_length]; omega)); (case k6 => with_unfolding_all rfl); k_whole); intro h' M' t' k' F' N' a' b'; clear b'; (with_reducible replace a' := deal_mem a'); (try k_sweep))))
theorem shares_calls {w : World} {news : List (Addr × Obj)} {x p : Int} {tx tp : Tok} (hx0 : -20000 ≤ x) (hx1 : x ≤ 20000) (hp0 : 0 < p) (hp1 : p ≤ 12) :
    Calls w 60 415 news [.int x tx, .int p tp] (fun r tl => tl = [] ∧ r = .bool true) := by
  intro mean mg mb dp un gd cn cs a ccd cl outer A₀ base h₀ L m s Q E B F X N T hk hdp hun hret
  obtain ⟨f0, f1, f2, f3, f4, f5, f6, f7, f8⟩ := share_all hx0 hx1 hp0 hp1
  refine wpAny_call ?_
  k_dflt (refine' enterGC ?k1 ?k2 ?k3 ?k4 ?k5 ?kA ?kF ?kK ?k6 ?k7 ?k8 ?k9 ?kB ?kD ?_ ?c2 ?c3 ?c4; (case kA => exact rfl); (case kF => exact rfl); (case kK => assumption); (case k1 => k_asm); (case k2 => k_asm); (case k3 => k_asm); (case k4 => k_asm); (case k5 => k_asm); (case k6 => k_is); (case k7 => k_is); (case k8 => ktr_room); (case k9 => exact BindsTo.of_eq rfl); (case kB => exact rfl); (case kD => decide +kernel); (case c2 => exact rfl); (case c3 => exact rfl); (case c4 => exact rfl); k_whole; intro g' L' h' tk' cells' NG' FG' F' N' Y' B' X' T'; k_cells Y'; (try simp only [List.cons_append, List.nil_append] at N'); (try dsimp only); (try k_lift B'); (try k_fold))
  k_steps
  all_goals (try (exfalso; omega))
  all_goals (try exact absurd rfl (by assumption))
  all_goals exact ret0 hret (by k_asm) (by k_asm) ⟨rfl, by simp⟩
end Mine
end
section
theorem Mine.anew_C13 : True := by
  w_top off
  trivial
open PySem PySem.W PyProof.Rows Mine
set_option maxRecDepth 100000
set_option maxHeartbeats 8000000
namespace Mine
local macro_rules | `(tactic| k_all) => `(tactic| first | exact Mine.ne_of_allLt (by assumption) | exact Mine.ne_of_allLt' (by assumption))
local macro_rules | `(tactic| k_lt $h) => `(tactic| (replace $h := allLt_of $h; (have hA9 := $h); (repeat (replace hA9 := And.right hA9)); simp only [AllLt, and_true] at $h:ident))
local macro_rules | `(tactic| k_room) => `(tactic| ((try simp only [depth_mark, depth_under_make, depth_under_kw, depth_in1, depth_deeper, depth_caller] at *); (try dsimp only [ktrTop] at *); (try simp only [recursionLimit] at *); omega))
local macro_rules | `(tactic| k_get) => `(tactic| (with_reducible assumption))
local macro_rules | `(tactic| k_mem) => `(tactic| first | ktr_member | exact List.Mem.head _ | (refine' Mine.mem_tail ?_; k_mem))
local macro_rules | `(tactic| tb_start) => `(tactic| (
  (case k1 => k_asm)
  (case k2 => k_asm)
  (case k3 => k_asm)
  (case k4 => k_asm)
  (case k5 => k_asm)
  (case kK => first | exact rfl | assumption)
  (case kd => k_room)
  (case ku => ktr_units)))
local macro_rules | `(tactic| tb_rel) => `(tactic| (intro r9 tl9 h9 tk9 F9 N9 hl9 ho9; obtain ⟨e9, t9, e8⟩ := ho9; subst e9; subst e8; clear hl9; (try simp only [List.nil_append] at N9); (try dsimp only); (try k_sweep); (try k_fold)))
local macro_rules | `(tactic| ktd_rel) => `(tactic| (intro r9 tl9 h9 tk9 F9 N9 hl9 ho9; obtain ⟨x9, dx9, sm9, es9, c9, ta9, tb9, tc9, td9, te9, e9, e8, T9⟩ := ho9; subst e9; subst e8; (try simp only [List.cons_append, List.nil_append] at N9); (replace hl9 := Mine.ordLt3 hl9); (try simp only [AllLt, and_true] at hl9); (have U9 := T9); obtain ⟨U1, U2, U3, U4⟩ := U9; (try dsimp only); (try k_sweep); (try k_fold)))

local macro_rules | `(tactic| walk_at "subscriptTail Call") => `(tactic| walk_at "subscriptTail")
noncomputable def AllNe (d : Nat) : List (Addr × Obj) → Prop
  | [] => True
  | p :: r => @Ne Nat p.1 d ∧ AllNe d r
theorem allNe_all {d : Addr} : ∀ {l : List (Addr × Obj)}, AllNe d l → ∀ p ∈ l, p.1 ≠ d
  | [], _, _, hp => nomatch hp
  | _ :: _, h, p, hp => by
    rcases List.mem_cons.mp hp with rfl | hp
    · exact h.1
    · exact allNe_all h.2 p hp
theorem useM {w : World} {k : Nat} {f : Addr} {C : Addr} {o : Obj} {rest : List (Addr × Obj)} {vs : List Value} {Out : Value → Obj → Prop} (c : CallsM w k f C o rest vs Out)
    {mean : ExcName → Option Value} {mg mb : Str → Option Value} {dp un : Nat} {gd : Option (List Code)} {cn : Str} {cs : Scope} {a : Addr} {ccd : Value} {cl : List (Str × Addr)} {outer : List Env} {A₀ : Around} {base h₀ : Heap} {L : Addr} {m : Str → Option Value} {s : Shared} {Q E : Value → Shared → Prop} {all : List (Addr × Obj)}
    (t : Take (C, o) all rest) (B : Below A₀ base outer h₀) (F : Fr h₀ L s.heap m) (X : (hd.heap_39 w.params).In h₀) (N : News h₀ L s.heap all) (T : Top hd.view_39 (looseW hd.view_39 []) mean mg mb h₀) (hk : cs.kind = .function)
    (hd : dp + k < recursionLimit) (hu : un + 10 * k < cLine) (off : ∀ p ∈ rest, p.1 ≠ C)
    (ret : ∀ r o' h' tk', Fr h₀ L h' m → News h₀ L h' ((C, o') :: rest) → Out r o' → Q r { s with heap := h', toks := tk' }) :
    wpAny (model PySem.Challenge.rw_xw0004_01.row.prog w) (ktrTop dp un gd cn cs L a ccd cl outer) (call (.ref f) vs) Q E s :=
  c mean mg mb dp un gd cn cs a ccd cl outer A₀ base h₀ L m s Q E B F X (news_sub N t.sub) off T hk hd hu ret
theorem useD {w : World} {k : Nat} {f : Addr} {news : List (Addr × Obj)} {vs : List Value} {Out : Value → List (Addr × Obj) → Prop} (c : CallsD w k f news vs Out)
    {mean : ExcName → Option Value} {mg mb : Str → Option Value} {dp un : Nat} {gd : Option (List Code)} {cn : Str} {cs : Scope} {a : Addr} {ccd : Value} {cl : List (Str × Addr)} {A₀ : Around} {h₀ : Heap} {L : Addr} {m : Str → Option Value} {s : Shared} {Q E : Value → Shared → Prop}
    (B : Below A₀ h₀ [] h₀) (F : Fr h₀ L s.heap m) (X : (hd.heap_39 w.params).In h₀) (N : News h₀ L s.heap news) (T : Top hd.view_39 (looseW hd.view_39 []) mean mg mb h₀) (hk : cs.kind = .function)
    (hd : dp + k < recursionLimit) (hu : un + 10 * k < cLine)
    (ret : ∀ r tl h' tk', Fr h₀ L h' m → News h₀ L h' (tl ++ news) → Out r tl → Q r { s with heap := h', toks := tk' }) :
    wpAny (model PySem.Challenge.rw_xw0004_01.row.prog w) (ktrTop dp un gd cn cs L a ccd cl []) (call (.ref f) vs) Q E s :=
  c mean mg mb dp un gd cn cs a ccd cl A₀ h₀ L m s Q E B F X N T hk hd hu ret
theorem dbl_split {M : Model} {A : Around} {x : Int} {tx : Tok} {Q E : Value → Shared → Prop} {s : Shared} (h1 : (x < -10000 ∨ 10000 < x) → wpAny M A (call (.ref 422) [.int x tx]) Q E s) (h2 : -10000 ≤ x → x ≤ 10000 → wpAny M A (call (.ref 422) [.int x tx]) Q E s) : wpAny M A (call (.ref 422) [.int x tx]) Q E s := by
  by_cases h : x < -10000 ∨ 10000 < x
  · exact h1 h
  · exact h2 (by omega) (by omega)
local macro_rules | `(tactic| walk_at "call ref") => `(tactic| (k_here; (with_reducible show wpAny _ _ (call (Value.ref 403) _) _ _ _); k_dflt (refine' useM (mint_calls ?a1 ?a2 ?a3 ?p1 ?p2 ?p3 ?p4) ?tk ?k1 ?k2 ?k3 ?k4 ?k5 ?kK ?kd ?ku ?off ?_; tb_start; (case tk => (repeat (first | exact Take.here | apply Take.there))); (case off => (refine' allNe_all ?_; (simp only [AllNe, and_true]); omega)); (case a1 => k_mem); (case a2 => assumption); (case a3 => omega); (case p1 => omega); (case p2 => omega); (case p3 => omega); (case p4 => omega); (intro r9 o9 h9 tk9 F9 N9 ho9; obtain ⟨v9, t9, t8, n9, e9, v1, v2, e8⟩ := ho9; subst e9; subst e8; (try dsimp only); (try k_sweep); (try k_fold)))))
local macro_rules | `(tactic| walk_at "call ref") => `(tactic| (k_here; (with_reducible show wpAny _ _ (call (Value.ref 368) _) _ _ _); k_dflt (refine' use money_calls ?k1 ?k2 ?k3 ?k4 ?k5 ?kK ?kd ?ku ?_; tb_start; ktd_rel)))
local macro_rules | `(tactic| walk_at "call ref") => `(tactic| (k_here; (with_reducible show wpAny _ _ (call (Value.ref 375) _) _ _ _); k_dflt (refine' use part_calls ?k1 ?k2 ?k3 ?k4 ?k5 ?kK ?kd ?ku ?_; tb_start; ktd_rel)))
local macro_rules | `(tactic| walk_at "call ref") => `(tactic| (k_here; (with_reducible show wpAny _ _ (call (Value.ref 382) _) _ _ _); k_dflt (refine' use fourths_calls ?k1 ?k2 ?k3 ?k4 ?k5 ?kK ?kd ?ku ?_; tb_start; ktd_rel)))
local macro_rules | `(tactic| walk_at "call ref") => `(tactic| (k_here; (with_reducible show wpAny _ _ (call (Value.ref 389) _) _ _ _); k_dflt (refine' use whole_calls ?k1 ?k2 ?k3 ?k4 ?k5 ?kK ?kd ?ku ?_; tb_start; ktd_rel)))
theorem menu_bnd {v k : Int} (h0 : 0 ≤ v) (h1 : v < 20001) (_ : 0 ≤ k) (h3 : k < 4) : -20000 ≤ ([20000, -20000, v, -v] : List Int).getD k.toNat 0 ∧ ([20000, -20000, v, -v] : List Int).getD k.toNat 0 ≤ 20000 := by
  have : k.toNat < 4 := by omega
  match hk : k.toNat, this with
  | 0, _ => exact ⟨by show (-20000 : Int) ≤ 20000; decide, by show (20000 : Int) ≤ 20000; decide⟩
  | 1, _ => exact ⟨by show (-20000 : Int) ≤ -20000; decide, by show (-20000 : Int) ≤ 20000; decide⟩
  | 2, _ => exact ⟨by show _ ≤ v; omega, by show v ≤ _; omega⟩
  | 3, _ => exact ⟨by show _ ≤ -v; omega, by show -v ≤ _; omega⟩
theorem menu_step {prog : Program} {w : World} {A : Around} {E : Value → Shared → Prop} {s : Shared} {value slice : PySem.Expr} {l : Addr} {vs : List Value} {v k : Int} {u : Tok} {Q : Value → Shared → Prop} (ht : IsTup s.heap l vs.toArray) (hi : IntsAre vs [20000, -20000, v, -v])
    (h0 : 0 ≤ k) (h1 : k < 4) (h2 : 0 ≤ v) (h3 : v < 20001) (h : ∀ y t, -20000 ≤ y → y ≤ 20000 → Q (.int y t) s)
    (hs : subscripted slice false (.ref l) (.int k u) = operate [.ref l, .int k u] (getItem (.ref l) (.int k u)) := by with_unfolding_all rfl) :
    wpAny (model prog w) A (subscriptTail value slice (.ref l) (.int k u)) Q E s :=
  item_anyT ht hi h0 (by simpa using h1) (by omega) (fun t => h _ t (menu_bnd h2 h3 h0 h1).1 (menu_bnd h2 h3 h0 h1).2) hs
local macro_rules | `(tactic| walk_at "subscriptTail") => `(tactic| (k_here; (with_reducible show wpAny _ _ (subscriptTail _ _ (Value.ref _) (Value.int _ _)) _ _ _); (with_unfolding_all refine' menu_step ?k1 ?k2 ?k3 ?k4 ?k5 ?k6 ?_; (case k1 => exact News.isTup (by k_asm) (by k_mem)); (case k2 => l_ints); (case k3 => omega); (case k4 => omega); (case k5 => omega); (case k6 => omega); k_whole); intro y9 t9 b1 b2))
local macro_rules | `(tactic| walk_at "exec Assign cons ListComp") => `(tactic| (k_here; k_dflt (refine Mine.Assign_ListComp_T (F₀ := by k_asm) (by rfl) (by with_unfolding_all rfl) (by rfl) (by decide) (by rfl) (by decide) (by rfl) (by rfl) (by rfl) ?_)))
local macro_rules | `(tactic| walk_at "TupSrc") => `(tactic| (k_here; k_dflt (refine Mine.TupSrc.mk (by rfl) (by k_asm) (by k_asm) (by exact List.Mem.head _) (by first | size_fits | exact Nat.le_of_ble_eq_true rfl) ?_); intro g'; lcg_lit))
local macro_rules | `(tactic| walk_at "CompEnd") => `(tactic| (k_dflt (refine' Mine.compEnd_same ?f ?n ?o ?src ?_; (case f => assumption); (case n => assumption); (case o => (simp only [LCg.Off3, and_true]; assumption)); (case src => (unfold Mine.TupIn; k_mem)))))
theorem mid_step {h₀ h : Heap} {L : Addr} {d t1 t2 f1 f2 f3 p1 p2 p3 m1 m2 m3 l u1 u2 ls c1 c2 c3 : Addr × Obj} {P : Prop} (N : News h₀ L h [d, t1, t2, f1, f2, f3, p1, p2, p3, m1, m2, m3, l, u1, u2, ls, c1, c2, c3])
    (q : AllNe l.1 [ls, c1, c2, c3]) (r : AllNe l.1 [ls, c1, c2, c3] → News h₀ L h [d, f1, f2, f3, m1, m2, m3, l, ls, c1, c2, c3] → P) : P :=
  r q fun p hp => N p (by
    simp only [List.mem_cons, List.not_mem_nil, or_false] at hp ⊢
    rcases hp with rfl | rfl | rfl | rfl | rfl | rfl | rfl | rfl | rfl | rfl | rfl | rfl <;> simp)
theorem late_step {h₀ h : Heap} {L : Addr} {x1 d1 x2 d2 d f1 f2 f3 m1 m2 m3 l ls c1 c2 c3 : Addr × Obj} {P : Prop} (N : News h₀ L h [x1, d1, x2, d2, d, f1, f2, f3, m1, m2, m3, l, ls, c1, c2, c3])
    (r : News h₀ L h [l, ls, c1, c2, c3] → P) : P :=
  r fun p hp => N p (by
    simp only [List.mem_cons, List.not_mem_nil, or_false] at hp ⊢
    rcases hp with rfl | rfl | rfl | rfl | rfl <;> simp)
local macro_rules | `(tactic| walk_at "call ref") => `(tactic| (k_here; (with_reducible show wpAny _ _ (call (Value.ref 403) _) _ _ _); (with_reducible rename News _ _ _ _ => NN9); refine' late_step NN9 ?_; clear NN9; intro NN9; (repeat (with_reducible rename _ ∧ _ => hz9; clear hz9)); (repeat (with_reducible rename (_ : Int) = _ => hz9; clear hz9)); (repeat (with_reducible rename (0 : Int) ≤ _ * _ => hz9; clear hz9)); (repeat (with_reducible rename (0 : Int) ≤ ite _ _ _ => hz9; clear hz9)); (repeat (with_reducible rename ite _ _ _ ≤ (1 : Int) => hz9; clear hz9)); (repeat (with_reducible rename (-1 : Int) ≤ _ - _ => hz9; clear hz9)); (repeat (with_reducible rename (_ : Int) - _ ≤ 1 => hz9; clear hz9)); k_dflt (refine' useM (mint_calls ?a1 ?a2 ?a3 ?p1 ?p2 ?p3 ?p4) ?tk ?k1 ?k2 ?k3 ?k4 ?k5 ?kK ?kd ?ku ?off ?_; tb_start; (case tk => exact Take.here); (case off => (refine' allNe_all ?_; assumption)); (case a1 => k_mem); (case a2 => assumption); (case a3 => omega); (case p1 => omega); (case p2 => omega); (case p3 => omega); (case p4 => omega); (intro r9 o9 h9 tk9 F9 N9 ho9; obtain ⟨v9, t9, t8, n9, e9, v1, v2, e8⟩ := ho9; subst e9; subst e8; (try dsimp only); (try k_sweep); (try k_fold)))))
local macro_rules | `(tactic| walk_at "call ref") => `(tactic| (k_here; (with_reducible show wpAny _ _ (call (Value.ref 343) _) _ _ _); k_dflt (refine' call_cls ?k1 ?k2 ?k3 ?k4 ?k5 ?k6 ?_; (case k1 => k_asm); (case k2 => k_asm); (case k3 => k_asm); (case k4 => k_is); (case k5 => k_is); (case k6 => k_is); k_whole; intro x' d' h' F' N' l1 l2; (try k_lt l1); (try k_lt2 l2); (try k_sweep); k_enter)))
structure Due (c : Int) : Prop where
  intro ::
theorem due_of {x y c : Int} (_ : 0 ≤ x → y = c) : Due c := ⟨⟩
def DueEnd (X : Int) (s : Shared) (v : Value) (s' : Shared) : Prop := (∃ t, v = .int X t) ∧ ∃ tk, s' = { s with toks := tk }
theorem cut_due {M : Model} {A : Around} {c : Sem Value} {X : Int} {Q E : Value → Shared → Prop} {s : Shared} (_ : Due X) (h1 : wpAny M A c (DueEnd X s) E s) (h2 : ∀ t tk, Q (.int X t) { s with toks := tk }) : wpAny M A c Q E s :=
  wpAny_mono h1 (fun _ _ ⟨⟨t, e⟩, tk, e2⟩ => e ▸ e2 ▸ h2 t tk) fun _ _ e => e
theorem due_end {X z : Int} {t : Tok} {tk : Nat} {s : Shared} (h : z = X) : DueEnd X s (.int z t) { s with toks := tk } := ⟨⟨t, by rw [h]⟩, tk, rfl⟩
def OneEnd (s : Shared) (v : Value) (s' : Shared) : Prop := (∃ x t, (x = 1 ∨ x = -1) ∧ v = .int x t) ∧ ∃ tk, s' = { s with toks := tk }
theorem cut_one {M : Model} {A : Around} {c : Sem Value} {Q E : Value → Shared → Prop} {s : Shared} (h1 : wpAny M A c (OneEnd s) E s) (h2 : ∀ x t tk, -1 ≤ x → x ≤ 1 → Q (.int x t) { s with toks := tk }) : wpAny M A c Q E s :=
  wpAny_mono h1 (fun _ _ ⟨⟨x, t, hx, e⟩, tk, e2⟩ => e ▸ e2 ▸ h2 x t tk (by omega) (by omega)) fun _ _ e => e
theorem one_end {z : Int} {t : Tok} {tk : Nat} {s : Shared} (h : z = 1 ∨ z = -1) : OneEnd s (.int z t) { s with toks := tk } := ⟨⟨z, t, h, rfl⟩, tk, rfl⟩
local macro_rules | `(tactic| walk_at "eval IfExp") => `(tactic| (k_here; (with_reducible show wpAny _ _ (eval (PySem.Expr.IfExp _ (PySem.Expr.Name _ _) (PySem.Expr.UnaryOp _ (PySem.Expr.Name _ _) _) _) _) _ _ _); refine' cut_due ?d9 ?z1 (fun t9 tk9 => ?_); (case d9 => assumption); (case z1 => ((with_reducible refine IfExp_ ?_); k_steps; (all_goals (refine' due_end ?_; omega))))))
theorem one_mul9 {v x : Int} (h1 : v < 20001) (h0 : 0 ≤ v) (a : -1 ≤ x) (b : x ≤ 1) : -20000 ≤ v * x ∧ v * x ≤ 20000 := by
  have : x = -1 ∨ x = 0 ∨ x = 1 := by omega
  rcases this with rfl | rfl | rfl <;> omega
local macro_rules | `(tactic| walk_at "eval IfExp") => `(tactic| (k_here; (with_reducible show wpAny _ _ (eval (PySem.Expr.IfExp _ (PySem.Expr.Constant (PySem.Const.int _) _ _) _ _) _) _ _ _); refine' cut_one ?z1 (fun x9 t9 tk9 hx8 hx9 => ?_); (case z1 => ((with_reducible refine IfExp_ ?_); k_steps; (all_goals (refine' one_end ?_; first | exact Or.inl rfl | exact Or.inr rfl)))); (have M9 := one_mul9 ‹(_ : Int) < 20001› ‹(0 : Int) ≤ _› hx8 hx9); obtain ⟨M8, M9⟩ := M9))
theorem pair_same {x : Int} : decide ([x + x, x * 2] = (List.replicate (Int.toNat 2) [2 * x]).flatten) = true := by
  rw [decide_eq_true_eq]
  show [x + x, x * 2] = [2 * x, 2 * x]
  rw [show x + x = 2 * x by omega, show x * 2 = 2 * x by omega]
local macro_rules | `(tactic| walk_at "ite") => `(tactic| (with_reducible refine ite_pos pair_same ?_))
local macro_rules | `(tactic| walk_at "subscriptTail Call") => `(tactic| (k_here; (with_reducible show wpAny _ _ (subscriptTail (PySem.Expr.Call _ _ _ _) (PySem.Expr.Constant _ _ _) (Value.ref _) (Value.int _ _)) _ _ _); first | ((with_reducible refine' two_item0 ?k1 ?k2 ?_); (case k1 => k_asm); (case k2 => k_dflt k_mem)) | ((with_reducible refine' two_item1 ?k1 ?k2 ?_); (case k1 => k_asm); (case k2 => k_dflt k_mem))))
local macro_rules | `(tactic| kc_close) => `(tactic| (refine' true_end ?f ?g ?o ?e; (case f => assumption); (case g => assumption); (case o => exact rfl); (case e => first | exact rfl | decide | exact decide_eq_true (by omega)); walk_say "CLOSE true"))
local macro_rules | `(tactic| walk_at "FinA") => `(tactic| ((unfold LCg.FinA); intro D' h' tk' F' N' o1'; (simp only [LCg.Off1, and_true] at o1'); (simp only [List.nil_append, List.cons_append] at N'); (refine' mid_step N' ?q9 ?_); (case q9 => ((simp only [AllNe, and_true]); omega)); clear N'; intro KO9 N'; (repeat (with_reducible rename _ ∧ _ => hz9; clear hz9)); (repeat (with_reducible rename AllLt _ _ => hz9; clear hz9)); (repeat (with_reducible rename _ = some (Value.int _ _) => hz9; clear hz9)); (dsimp only at KO9); (have PF := part_factsG ‹(_ : Int) < 101› ‹(0 : Int) ≤ _› ‹(-20000 : Int) ≤ _› ‹(_ : Int) ≤ 20000›); (have CF := conv_facts ‹(-20000 : Int) ≤ _› ‹(_ : Int) ≤ 20000›); (obtain ⟨PF1, PF2, PF3, PF4, PF5, PF6, PF7⟩ := PF); (have D9 := due_of PF1); (obtain ⟨CF1, CF2, CF3, CF4⟩ := CF); (try dsimp only)))
local macro_rules | `(tactic| walk_at "exec Return some") => `(tactic| (k_here; exfalso; omega))
theorem shares_step {M : Model} {A : Around} {x : Int} {tx : Tok} {v : Value} {Q E : Value → Shared → Prop} {s : Shared} (hb : -20000 ≤ x ∧ x ≤ 20000) (h : -20000 ≤ x → x ≤ 20000 → wpAny M A (call (.ref 415) [.int x tx, v]) Q E s) : wpAny M A (call (.ref 415) [.int x tx, v]) Q E s := h hb.1 hb.2
theorem part_bnd {x y : Int} (h0 : -20000 ≤ x) (h1 : x ≤ 20000) (h2 : 0 ≤ y) (h3 : y ≤ 100) : -20000 ≤ cutz (x * y) 100 ∧ cutz (x * y) 100 ≤ 20000 := by
  have a1 : x * y ≤ 20000 * y := Int.mul_le_mul_of_nonneg_right h1 h2
  have a2 : -20000 * y ≤ x * y := Int.mul_le_mul_of_nonneg_right h0 h2
  generalize x * y = n at *
  unfold cutz
  split <;> omega
theorem conv1 {x : Int} (h0 : -20000 ≤ x) (h1 : x ≤ 20000) : -800 ≤ cutz (x * 1 * 4) (100 * 1) ∧ cutz (x * 1 * 4) (100 * 1) ≤ 800 := by
  unfold cutz
  split <;> omega
theorem conv2 {c : Int} (h : -800 ≤ c ∧ c ≤ 800) : -20000 ≤ cutz (c * 1 * 100) (4 * 1) ∧ cutz (c * 1 * 100) (4 * 1) ≤ 20000 := by
  unfold cutz
  split <;> omega
local macro_rules | `(tactic| walk_at "call ref") => `(tactic| (k_here; (with_reducible show wpAny _ _ (call (Value.ref 415) _) _ _ _); k_dflt (refine' shares_step ?hb (fun b1 b2 => ?_); (case hb => exact And.intro (by assumption) (by assumption)); refine' use (shares_calls ?p1 ?p2 ?p3 ?p4) ?k1 ?k2 ?k3 ?k4 ?k5 ?kK ?kd ?ku ?_; tb_start; (case p1 => assumption); (case p2 => assumption); (case p3 => omega); (case p4 => omega); (intro r9 tl9 h9 tk9 F9 N9 hl9 ho9; obtain ⟨e9, e8⟩ := ho9; subst e9; subst e8; clear hl9; (try simp only [List.nil_append] at N9); (try dsimp only); (try k_sweep); (try k_fold)))))
local macro_rules | `(tactic| walk_at "call ref") => `(tactic| (k_here; (with_reducible show wpAny _ _ (call (Value.ref 263) _) _ _ _); k_dflt (refine' use (timesP_calls ?a1 ?a2 ?a3 ?a4 ?b1 ?b2 ?b3 ?b4 ?p1 ?p2 ?p3 ?p4 ?p5 ?p6) ?k1 ?k2 ?k3 ?k4 ?k5 ?kK ?kd ?ku ?_; tb_start; (case a1 => k_mem); (case a2 => k_mem); (case a4 => assumption); (case a3 => k_mem); (case b1 => k_mem); (case b2 => k_mem); (case b4 => assumption); (case b3 => k_mem); (case p1 => assumption); (case p2 => assumption); (case p3 => omega); (case p4 => omega); (case p5 => exact (part_bnd (by assumption) (by assumption) (by omega) (by omega)).1); (case p6 => exact (part_bnd (by assumption) (by assumption) (by omega) (by omega)).2); tb_rel)))
local macro_rules | `(tactic| walk_at "call ref") => `(tactic| (k_here; (with_reducible show wpAny _ _ (call (Value.ref 130) _) _ _ _); k_dflt (refine' use (conv_calls ?s1 ?s2 ?s3 ?s4 ?a1 ?a2 ?a3 ?a4 ?b1 ?b2 ?b3 ?b4 ?p1 ?p2 ?p3 ?p4 ?p5 ?p6) ?k1 ?k2 ?k3 ?k4 ?k5 ?kK ?kd ?ku ?_; tb_start; (case s1 => k_mem); (case s2 => k_mem); (case s3 => exact rfl); (case s4 => exact rfl); (case a1 => k_mem); (case a2 => k_mem); (case a4 => assumption); (case a3 => k_mem); (case b1 => k_mem); (case b2 => k_mem); (case b4 => assumption); (case b3 => k_mem); (case p1 => decide); (case p2 => decide); (case p3 => decide); (case p4 => decide); (case p5 => first | exact (conv1 (by assumption) (by assumption)).1 | exact (conv2 (conv1 (by assumption) (by assumption))).1); (case p6 => first | exact (conv1 (by assumption) (by assumption)).2 | exact (conv2 (conv1 (by assumption) (by assumption))).2); tb_rel)))
local macro_rules | `(tactic| walk_at "call ref") => `(tactic| (k_here; (with_reducible show wpAny _ _ (call (Value.ref 422) _) _ _ _); k_dflt (refine' dbl_split ?_ ?_ <;> intro q9 <;> first | (exfalso; omega) | (refine' useD (doubledNo_calls ?p1 ?p2 ?p3) ?k1 ?k2 ?k3 ?k4 ?k5 ?kK ?kd ?ku ?_; tb_start; (case p1 => omega); (case p2 => omega); (case p3 => assumption); (intro r9 tl9 h9 tk9 F9 N9 ho9; obtain ⟨l9, t9, t8, n9, e9, e8⟩ := ho9; subst e9; subst e8; (try simp only [List.cons_append, List.nil_append] at N9); (try dsimp only); (try k_sweep); (try k_fold))) | (intro q8; first | (exfalso; omega) | (refine' useD (doubledOk_calls ?p1 ?p2) ?k1 ?k2 ?k3 ?k4 ?k5 ?kK ?kd ?ku ?_; tb_start; (case p1 => assumption); (case p2 => assumption); (intro r9 tl9 h9 tk9 F9 N9 ho9; obtain ⟨l9, t9, t8, n9, e9, e8⟩ := ho9; subst e9; subst e8; (try simp only [List.cons_append, List.nil_append] at N9); (try dsimp only); (try k_sweep); (try k_fold)))))))
theorem law_holds : PySem.Challenge.rw_xw0004_01.Holds := Mine.hd (by
  k_fill
  intro w s₀ s₁ mg mb G Y fa o pm cd doc dV kV ho hd hcd hD hmg hg args vals as hpre hlay hrd hwl hlo
  have KX := kIn_of Y
  k_behind G ho hd hcd hD hmg hpre hlay hrd hwl hlo cd
  k_steps)
end Mine
end
theorem PySem.Challenge.cw_xw0004_01_holds : PySem.Challenge.rw_xw0004_01.Holds := by
  exact Mine.law_holds
