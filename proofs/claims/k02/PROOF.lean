import PyProof.Rows.All
import Wide.All
import OpenK.AllK
import Wide.FinOn
import PyProof.ReprRoads
import KE.KUnpackStar
import HandS.ForMost
import HandS.Exc
import HandS.TryOnly
import HandS.TryMany
import HandS.ExcOwn
import HandS.ExcInit
import HandS.ExcField
import HandS.ExcIs
import HandS.ExcCtx
import HandS.CallSlots
import HandS.Defaults
import HandS.Star
import HandS.WordsExc
import HandS.Flow
import HandS.Style
import HandS.Conv
import HandS.IsInst
import HandS.NoneIn
import HandS.Property
import HandS.ClsMeth
import KE.KExcInit
import HandS.HeadHook1
import HandS.Ends
import HandS.HeadEnd
import HandS.HeadHook2
import HandS.HeadNt
import HandS.Codes
import HandS.RaiseMore
import KE.KCallOwn
import KE.KExcIs
import HandS.Walk
import PyProof.NeKinds
import PyProof.ListStr
import PyProof.StrBlock2
import HandS.Set
import HandS.SetTxt0
import HandS.SetFor
import HandS.More
import PyProof.Rows.SetFrom
import HandS.OwnEq
import HandS.Head0
import HandS.Head1
import HandS.Head2
import PySem.Challenge.RW_lateyields_k02_programs_read_and_shown
import HandS.Small
set_option Elab.async false
set_option linter.all false
set_option maxRecDepth 100000
set_option maxHeartbeats 0
/-! Rules of our own over the hand layer: starred targets. -/
namespace LyR
open PySem PySem.Spec PyProof.Rows L2
section
variable {prog : Program} {w : World} {A : Around} {E : Value → Shared → Prop} {s : Shared}
/-- a list is taken apart, the last target starred: the heap grows by an iterator and the new list -/
theorem starItems {l : Addr} {items : Array Value} {i : Nat} {Q : List Value → Shared → Prop}
    (hh : A.handled = none) (hl : s.heap.IsList l items) (hi : i ≤ items.size) (hz : items.size ≤ sizeLine)
    (hq : ∀ (g : Heap) (tk : Nat), (∀ b o, s.heap.get? b = some o → g.get? b = some o) →
      Q (items.toList.take i ++ [.ref g.objs.size])
        { s with heap := g.push { cls := .type "list", data := .seq (items.toList.drop i).toArray }, toks := tk }) :
    wpAny (model prog w) A (unpackItems (.ref l) (i + 1) (some i)) Q E s := by
  have ll : l < s.heap.objs.size := by
    obtain ⟨o, e, _⟩ := hl
    exact Heap.lt_size e
  have ne : l ≠ s.heap.objs.size := Nat.ne_of_lt ll
  unfold unpackItems
  refine wpAny_bind ?_
  unfold notIterableAtAll
  refine wpAny_bind (wpAny_specialOf hl.typeIs slot_list_iter.lookup (wpAny_pure ?_))
  rw [if_neg (by simp)]
  refine wpAny_bind (wpAny_holding (wpAny_pyIter_list hl ?_))
  refine wpAny_bind (wpAny_holding (PySem.W.kun_draw ne i 0 _ _ ⟨_, Heap.get?_push_size _ rfl, rfl, rfl⟩ (hl.push _) (by omega) fun g1 it1 sb1 => ?_))
  rw [Nat.zero_add] at it1
  have lg : g1.IsList l items := (hl.push _).extBut sb1.extBut ne
  obtain ⟨o1, e1, _⟩ := id it1
  obtain ⟨o2, e2, _⟩ := id lg
  rw [List.drop_zero]
  have fl : (items.toList.take i).length = i := by
    rw [List.length_take, Array.length_toList]
    omega
  rw [if_neg (by rw [fl]; exact Nat.lt_irrefl _)]
  refine wpAny_bind (wpAny_holding (PySem.W.kun_collect (s := { s with heap := g1 }) (T := "list_iterator") (.inr (.inr (.inl rfl)))
    (Walks.list (A := A.in1) hh s.heap.objs.size l ne items) (fun _ _ st => st.1.typeIs) (k := i) hi ⟨it1, lg⟩ (Heap.lt_size e1) (Heap.lt_size e2) (fun g2 tk k2 => ?_) hz))
  have em : (items.toList.drop i).length - (i + 1 - 1 - i) = (items.toList.drop i).length := by omega
  show wpAny _ _ (if (items.toList.drop i).length < i + 1 - 1 - i then _ else _) _ _ _
  rw [if_neg (by omega)]
  show wpAny _ _ (newList ((items.toList.drop i).take ((items.toList.drop i).length - (i + 1 - 1 - i))) >>= fun d =>
    pure (items.toList.take i ++ [d] ++ (items.toList.drop i).drop ((items.toList.drop i).length - (i + 1 - 1 - i)))) _ _ _
  rw [em, List.take_length, List.drop_length]
  have keep : ∀ b o, s.heap.get? b = some o → g2.get? b = some o := fun b o e => by
    have hb : b ≠ s.heap.objs.size := Nat.ne_of_lt (Heap.lt_size e)
    exact k2 b o hb ((sb1.2 b hb).trans (Heap.get?_push_of_some _ e))
  refine wpAny_bind (wpAny_newList (wpAny_pure ?_) ?_)
  · rw [List.append_nil]
    exact hq g2 tk keep
  · rw [List.length_drop, Array.length_toList]
    omega
end
/-- a, .., *r = a list -/
def gStar (K : PySem.W.Frag) (i : Nat) (t : TGs) : TG := fun v σ H Q => ∃ a xs, v = .ref a ∧ SqL K H a xs ∧ i ≤ xs.length ∧
  ∀ D, H D = none → t (xs.take i ++ [.ref D]) σ (upd H D (.lst (xs.drop i))) Q
section
variable {X : Cx} {pos p : Pos}
theorem pgs_star {e : Expr} {es : List Expr} {t : TG} {u : TGs} (h1 : PG X e t) (h2 : PGs X es u)
    (hs : (assignEach (.Starred e p :: es) X.env).map (·.2) = assign e X.env :: (assignEach es X.env).map (·.2) := by rfl) :
    PGs X (.Starred e p :: es) (gCons t u) := by
  refine ⟨fun pins s σ H vs us Q I r h => ?_⟩
  obtain ⟨v, vr, e1, h⟩ := h
  subst e1
  cases r with
  | cons r1 r2 =>
    rw [hs]
    refine assignInOrder_cons (thn (h1.run pins s σ H _ _ _ I r1 h) fun _ s1 hh => ?_)
    obtain ⟨σ1, H1, I1, q1⟩ := hh
    exact h2.run pins s1 σ1 H1 _ _ Q I1 r2 q1
theorem pg_star {es : List Expr} {k i : Nat} {t : TGs} (hc : X.calm = true) (h : PGs X es t)
    (hn : (assignEach es X.env).length = i + 1 := by rfl) (hst : (assignEach es X.env).findIdx? (·.1) = some i := by rfl) :
    PG X (.Tuple es k pos) (gStar X.K i t) := by
  refine ⟨fun pins s σ H v u Q I r hw => ?_⟩
  obtain ⟨a, xs, e1, hq, hl, hw⟩ := hw
  subst e1
  cases r
  obtain ⟨its, rv, pl, hz⟩ := I.list hq
  have el := rv.length
  have isl : s.heap.IsList a its.toArray := by
    obtain ⟨o, m, q1, q2, _, q3⟩ := pl
    exact ⟨o, q1, q2, m, q3⟩
  rw [PyProof.Rows.assign_Tuple]
  refine wpAny_bind (wpAny_standAt ?_)
  unfold unpack
  rw [hn, hst]
  refine wpAny_bind (wpAny_holding (starItems (I.ok.hd hc) isl (by rw [List.size_toArray]; omega) (by rw [List.size_toArray]; omega) fun g tk kp => ?_))
  have I1 : Inv X pins σ H { s with heap := g, toks := tk } := I.kept kp
  have I2 := I1.laid (t' := tk) (a := g.objs.size) (o := .lst (xs.drop i)) (h' := g.push { cls := .type "list", data := .seq (its.drop i).toArray })
    (fun b o e => Heap.get?_push_of_some _ e) (Nat.le_refl _) ⟨by rw [List.length_drop]; omega, _, 0, rv.drop i, Heap.get?_push_size _ rfl⟩
  have rr : Vals [V.ref g.objs.size] [Value.ref g.objs.size] := .cons rfl .nil
  exact h.run pins _ σ _ _ _ Q I2 ((rv.take i).append rr) (hw _ (I1.hok.fresh (Nat.le_refl _)))
end
end LyR
/-! Own exception classes over ValueError (by way of LateError) and over KeyError, with an own init that calls the base's. -/
namespace LyX
open PySem PySem.Spec PyProof.Rows L2
/-- what is known of the mro behind an own exception class -/
structure MroB (bm : List Value) (newId : String) : Prop where
  base : ∃ B iB bmB, ExcBaseFacts B newId iB bmB ∧ bm.contains (.type B) = true
  noA : bm.contains (.type "AttributeError") = false
  noN : bm.contains (.type "NameError") = false
  obj : bm.contains (.type "object") = true
  pass : ∀ self : Value, refuseLoop self "__setattr__" bm = pure ()
/-- a built-in init of a class D that stands in the mro -/
structure IniB (D initId : String) : Prop where
  split : splitId initId = some (D, "__init__")
  kind : builtinKind initId = some .slot
  row : Manifest.signature? initId = some ⟨.positional, "*", D, .self, [⟨"args", .varPos, false⟩]⟩
  star : (D != "*") = true
  entry : entryFor table initId = some Builtin.«BaseException.__init__»
  plain : plainId initId = true
theorem ini_VE : IniB "ValueError" "ValueError.__init__" :=
  ⟨PySem.F.excBase_ValueError.initSplit, PySem.F.excBase_ValueError.initKind, PySem.F.excBase_ValueError.initRow, PySem.F.excBase_ValueError.noStar, PySem.F.excBase_ValueError.initEntry, PySem.F.excBase_ValueError.init.plain⟩
theorem ini_KE : IniB "KeyError" "KeyError.__init__" where
  split := by kernel_rfl
  kind := by kernel_rfl
  row := by kernel_rfl
  star := by decide +kernel
  entry := entryFor_alias (id' := "BaseException.__init__") (by rw [fastTable_eq_tree]; kernel_rfl) (by first | rfl | decide +kernel) (by decide +kernel) (by rw [fastTable_eq_tree]; kernel_rfl)
  plain := by decide +kernel
abbrev keTail : List Value := [.type "KeyError", .type "LookupError", .type "Exception", .type "BaseException", .type "object"]
abbrev vTail : List Value := [.type "ValueError", .type "Exception", .type "BaseException", .type "object"]
theorem mro_KE : MroB keTail "LookupError.__new__" :=
  ⟨⟨"LookupError", _, _, PySem.F.excBase_LookupError, by decide +kernel⟩, by decide +kernel, by decide +kernel, by decide +kernel, fun self => by kernel_rfl⟩
theorem mro_VE : MroB vTail "ValueError.__new__" :=
  ⟨⟨"ValueError", _, _, PySem.F.excBase_ValueError, by decide +kernel⟩, by decide +kernel, by decide +kernel, by decide +kernel, fun self => by kernel_rfl⟩
theorem MroB.ref {bm : List Value} {newId : String} {c : Addr} (h : MroB bm newId) : MroB (.ref c :: bm) newId := by
  obtain ⟨⟨B, iB, bmB, F, hB⟩, h1, h2, h3, h4⟩ := h
  refine ⟨⟨B, iB, bmB, F, ?_⟩, ?_, ?_, ?_, fun self => ?_⟩
  · rw [List.contains_cons, hB, Bool.or_true]
  · rw [List.contains_cons, h1]
    rfl
  · rw [List.contains_cons, h2]
    rfl
  · rw [List.contains_cons, h3, Bool.or_true]
  · rw [refuseLoop_ref]
    exact h4 self
section
variable {prog : Program} {w : World} {M : Model} {A : Around} {E : Value → Shared → Prop} {R : Result → Shared → Prop} {h : Heap} {g : Array GenState} {d : Drawn} {t : Nat} {os : OsState}
variable {nm q : Str} {C N : Addr} {bs bm : List Value} {hdct : Bool} {sn : List Str} {sub : List Value} {ab : Bool} {col : Option Bool} {dd : Option Addr} {k0 k1 k2 k3 k5 : Option Value} {newId : String}
theorem checkNew {B iB : String} {bmB : List Value} (F : ExcBaseFacts B newId iB bmB) (hB : (Value.ref C :: bm).contains (.type B) = true) {rest : List Value} {Q : Unit → Shared → Prop}
    (hC : h.get? C = some (excClassObj nm q C N bs bm hdct sn sub ab col dd k0 k1 k2 k3 k5 newId)) (hq : Q () ⟨h, g, d, t, os⟩) :
    wpAny M A (checkBuiltinCall newId ⟨.ref C :: rest, []⟩) Q E ⟨h, g, d, t, os⟩ := by
  have st := F.noStar
  simp only [checkBuiltinCall, F.newKind, F.newSplit, F.newRow]
  repeat (first
    | refine wpAny_loadPart_at hC ?_
    | (refine wpAny_isSubtype_exc hC ?_; rw [hB])
    | refine wpAny_staticBase_exc hC ?_
    | refine wpAny_madeBy_exc hC ?_
    | simp only [bne_self_eq_false, Bool.false_eq_true, if_false]
    | wp_step)
  exact hq
theorem newObjX (mb : MroB (.ref C :: bm) newId) {rest : List Value}
    (hC : h.get? C = some (excClassObj nm q C N bs bm hdct sn sub ab col dd k0 k1 k2 k3 k5 newId)) (hl : rest.length ≤ sizeLine)
    (hq : R (.ok (.ret (.ref (h.objs.size + 1)))) ⟨(h.push (PySem.W.kdv_tup rest)).push (PySem.HandSPX.excO C h.objs.size), g, d, t, os⟩) :
    codeAny (model prog w) A (.builtin newId ⟨.ref C :: rest, []⟩) R ⟨h, g, d, t, os⟩ := by
  obtain ⟨⟨B, iB, bmB, F, hB⟩, hA, hN, _, _⟩ := mb
  have en := F.ends
  refine codeAny_builtinAt F.entry ?_
  unfold Builtin.«BaseException.__new__»
  refine PySem.wpAt_bind ?_
  show PySem.wpAt _ _ _ (stack >>= _) _ _ _
  refine PySem.wpAt_bind (PySem.wpAt_stack fun p below => PySem.wpAt_of_wpAny ?_)
  wp_walk
  refine PySem.wpAt_of_wpAny ?_
  rw [F.owner]
  repeat (first
    | with_reducible refine wpAny_madeHere_exc F.canon hC ?_
    | with_reducible refine wpAny_loadPart_at hC ?_
    | (with_reducible refine wpAny_isSubtype_exc hC ?_; first | rw [hB] | rw [hA] | rw [hN])
    | wp_step)
  show R _ _
  rw [Heap.size_push]
  exact hq
theorem callX (mb : MroB (.ref C :: bm) newId) {rest : List Value} {fI : Addr}
    (hC : h.get? C = some (excClassObj nm q C N bs bm hdct sn sub ab col dd k0 k1 k2 k3 k5 newId))
    (hi : PySem.W.Looks (model prog w) h (typeLookup (.ref C) "__init__") (some (.ref fI)))
    (hb : ∀ self, PySem.W.Looks (model prog w) h (bindSpecial (.ref fI) self) (.ref fI, [self])) (hl : rest.length ≤ sizeLine)
    (hq : codeAny (model prog w) (A.under (.builtin "type.__call__" ⟨.ref C :: rest, []⟩)) (.call (.ref fI) ⟨.ref (h.objs.size + 1) :: rest, []⟩) (PySem.W.InitBack (h.objs.size + 1) R)
      ⟨(h.push (PySem.W.kdv_tup rest)).push (PySem.HandSPX.excO C h.objs.size), g, d, t, os⟩) :
    codeAny (model prog w) A (.call (.ref C) ⟨rest, []⟩) R ⟨h, g, d, t, os⟩ := by
  obtain ⟨⟨B, iB, bmB, F, hB⟩, _⟩ := id mb
  have f1 := tc_lookup
  have f2 := tc_bind (.ref C)
  have ty : (⟨h, g, d, t, os⟩ : Shared).TypeIs (.ref C) "type" := ⟨_, hC, rfl⟩
  refine codeAny_of_tree ?_
  show wpAny _ _ (callAny (.ref C) _) _ _ _
  repeat (any_goals (first | assumption | with_reducible refine wpAny_loadPart_at hC ?_ | wp_step))
  refine ⟨rfl, ?_⟩
  refine codeAny_call_builtin_at (Code.quiet_builtin _ (by decide +kernel)) entry_typeCall (wpAny_check_type_call_sub hC ?_)
  repeat (first | with_reducible refine wpAny_loadPart_at hC ?_ | with_reducible refine wpAny_madeBy_exc hC ?_ | wp_step)
  refine codeAny_call_builtin_code (Code.quiet_builtin _ F.quiet) (checkNew F hB hC ?_)
  refine newObjX mb hC hl ?_
  show wpAny _ _ _ _ _ _
  have kp : ∀ b o, h.get? b = some o → ((h.push (PySem.W.kdv_tup rest)).push (PySem.HandSPX.excO C h.objs.size)).get? b = some o :=
    fun b o e => Heap.get?_push_of_some _ (Heap.get?_push_of_some _ e)
  have hC1 := kp _ _ hC
  have at1 : ((h.push (PySem.W.kdv_tup rest)).push (PySem.HandSPX.excO C h.objs.size)).get? (h.objs.size + 1) = some (PySem.HandSPX.excO C h.objs.size) := by heap_get
  have own : (Value.ref C :: bm).contains (.ref C) = true := by simp
  have i1 := hi.keeps kp
  have b1 := (hb (.ref (h.objs.size + 1))).keeps kp
  unfold isInstance
  repeat (first
    | with_reducible refine wpAny_loadPart_at at1 ?_
    | (with_reducible refine wpAny_isSubtype_exc hC1 ?_; rw [own])
    | (show wpAny _ _ (isSubtype (Value.ref C) (Value.ref C)) _ _ _; refine wpAny_isSubtype_exc hC1 ?_; rw [own])
    | wp_step)
  show wpAny _ _ (typeLookup (.ref C) _) _ _ _
  refine i1.at ?_
  refine wpAny_holding (wpAny_bind (b1.at ?_))
  refine wpAny_bind (wpAny_call (codeAny_mono hq fun r s' z => ?_))
  cases r with
  | error e => exact z
  | ok fl =>
    cases fl with
    | ret v =>
      obtain ⟨rfl, z⟩ := z
      first
        | exact wpAny_pure (wpAny_pure z)
        | (wp_walk; exact z)
    | next => exact z.elim
    | brk => exact z.elim
    | cont => exact z.elim
/-- the base's init, called by its name: the args are laid anew, nothing else -/
theorem initX {D initId : String} (ib : IniB D initId) (hD : (Value.ref C :: bm).contains (.type D) = true) {e t0 : Addr} {rest : List Value}
    (hC : h.get? C = some (excClassObj nm q C N bs bm hdct sn sub ab col dd k0 k1 k2 k3 k5 newId)) (he : h.get? e = some (PySem.HandSPX.excO C t0)) (hl : rest.length ≤ sizeLine)
    (hq : ∀ h' t1, (∀ b o, b ≠ e → h.get? b = some o → h'.get? b = some o) → h'.get? e = some (PySem.HandSPX.excO C t1) → R (.ok (.ret .none)) ⟨h', g, d, t, os⟩) :
    codeAny (model prog w) A (.call (.builtin initId) ⟨.ref e :: rest, []⟩) R ⟨h, g, d, t, os⟩ := by
  have ck : ∀ {M : Model} {A : Around} {E : Value → Shared → Prop} {Q : Unit → Shared → Prop}, Q () ⟨h, g, d, t, os⟩ →
      wpAny M A (checkBuiltinCall initId ⟨.ref e :: rest, []⟩) Q E ⟨h, g, d, t, os⟩ := by
    intro M A E Q z
    have st := ib.star
    have hcl : (PySem.HandSPX.excO C t0).cls = .ref C := rfl
    simp only [checkBuiltinCall, ib.kind, ib.split, ib.row]
    repeat (first
      | (with_reducible refine wpAny_loadPart_at he ?_; rw [hcl])
      | with_reducible refine wpAny_loadPart_at hC ?_
      | (with_reducible refine wpAny_isSubtype_exc hC ?_; rw [hD])
      | wp_step)
    refine wpAny_onRaise ?_
    rw [show ∀ (a b : String) (n : Nat), Bind.check ⟨.positional, "*", D, .self, [⟨"args", .varPos, false⟩]⟩ a b n (List.map (fun x => x.fst) ({ pos := Value.ref e :: rest } : Args).kw) = pure () from
      fun a b n => check_star_args _ _ _ _ _ _]
    exact wpAny_pure z
  refine codeAny_call_builtin ib.plain ib.entry (ck ?_)
  wp_walk
  refine hq _ h.objs.size (fun b o hb ho => ?_) ?_
  · rw [Heap.get?_update_other _ _ (Ne.symm hb)]
    exact Heap.get?_push_of_some _ ho
  · rw [Heap.get?_update_self _ (Heap.get?_push_of_some _ he) rfl]
    rfl
end
section
open Builtin Builtin.ObjectAttr
variable {prog : Program} {w : World} {A : Around} {E : Value → Shared → Prop} {R : Result → Shared → Prop} {hp : Heap} {g : Array GenState} {d : Drawn} {t : Nat} {os : OsState}
/-- a first attribute of an exception -/
theorem setX {K : PySem.W.Frag} {name : Str} {tk : Tok} {v : Value} {x C : Addr} {fv : Array Value} {cd : ClassData} {newId : String}
    (X : K.In hp) (hx : hp.get? x = some { cls := .ref C, data := .fields fv }) (hcd : PySem.W.clsIn K C = some cd) (mb : MroB cd.mro newId) (hh : cd.hasDict = true) (ha : PySem.W.findIn K (.ref C) name = some none)
    (hq : ∀ h' tk' dx, (∀ b o, b ≠ x → hp.get? b = some o → h'.get? b = some o) → hp.objs.size ≤ dx → dx ≠ x → h'.get? x = some { cls := .ref C, dict := some dx, data := .fields fv } →
      h'.Ns1 dx (fun y => if y = name then some v else none) → R (.ok (.ret .none)) ⟨h', g, d, tk', os⟩) :
    codeAny (model prog w) A (.call (.builtin "object.__setattr__") ⟨[.ref x, .str name tk, v], []⟩) R ⟨hp, g, d, t, os⟩ := by
  have I : PySem.W.InstAt hp x { cls := .ref C, data := .fields fv } C none := ⟨hx, rfl, rfl, trivial⟩
  have SF := PySem.F.store_object
  have ne : cd.mro.isEmpty = false := by
    have z := mb.obj
    cases e : cd.mro with
    | nil =>
      rw [e] at z
      cases z
    | cons _ _ => rfl
  have nx : x ≠ hp.objs.size := Nat.ne_of_lt (Heap.lt_size hx)
  have sb : PySem.W.Looks (model prog w) hp (isInstance (.ref x) (.type "object")) true :=
    I.type.andThen (PySem.W.looks_mroIn X (by unfold PySem.W.mroIn; rw [hcd, Option.bind_some, if_neg (by rw [ne]; decide), mb.obj]))
  refine codeAny_call_builtin SF.slot.plain SF.entry (@PySem.W.check_slot (model prog w) _ _ ⟨hp, g, d, t, os⟩ "object.__setattr__" "object" "__setattr__" (.ref x) [.str name tk, v] [] _ SF.kind SF.split sb (SF.args (.ref x) (.str name tk) v) ?_)
  have lm : PySem.W.Looks (model prog w) hp (mroOf (.ref C)) cd.mro := (PySem.W.looks_clsIn X hcd).andThen .now
  have l3 : PySem.W.Looks (model prog w) hp (storeTaker? none) none := .now
  have lc : PySem.W.Looks (model prog w) hp (classData C) cd := PySem.W.looks_clsIn X hcd
  rw [PySem.W.osa_eq, refuse_eq]
  refine wpAny_bind (wpAny_bind (I.type.at (wpAny_bind (lm.at ?_))))
  rw [mb.pass]
  refine wpAny_pure (wpAny_bind (I.type.at (wpAny_bind ((PySem.W.looks_findIn X ha).at (wpAny_bind (l3.at ?_))))))
  show wpAny _ _ (storeInOwnDict (.ref x) (.ref C) (.str name tk) name v false) _ _ _
  obtain ⟨c1, c2, c3, c4, c5, c6, c7, c8, c9, c10, c11⟩ := cd
  dsimp only at hh
  subst hh
  unfold storeInOwnDict ownDictForStores
  repeat (first
    | with_reducible refine PySem.HandSPX.store_in_new ?_ ?_
    | with_reducible refine wpAny_loadPart_at hx ?_
    | with_reducible refine lc.at ?_
    | wp_step)
  · exact ⟨_, #[], _, (Heap.get?_update_ne _ _ _ _ nx.symm).trans (Heap.get?_push_at rfl rfl), rfl, fun e he => absurd he (by simp), fun _ => rfl⟩
  · intro h' tk' hn sm
    have x1 : (hp.push { cls := .type "dict", data := .dict #[] }).get? x = some { cls := .ref C, data := .fields fv } := Heap.get?_push_of_some _ hx
    refine hq h' tk' hp.objs.size (fun b o hb ho => ?_) (Nat.le_refl _) nx.symm ?_ hn
    · exact (sm.2 b (Nat.ne_of_lt (Heap.lt_size ho))).trans ((Heap.get?_update_ne _ _ _ _ hb).trans (Heap.get?_push_of_some _ ho))
    · exact (sm.2 x nx).trans (Heap.get?_update_self _ x1 rfl)
end
end LyX
/-! Own exceptions over the hand layer: made, their one attribute stored, the base's init called. -/
namespace LyX
open PySem PySem.Spec PyProof.Rows L2
/-- what the written part says of an own exception class whose mro has the built-in class D -/
structure OxC (K : PySem.W.Frag) (C : Addr) (D : String) : Prop where
  cls : ∃ nm q N bs bm sn sub ab col dd k0 k1 k2 k3 k5 newId, K.lookup C = some (excClassObj nm q C N bs bm true sn sub ab col dd k0 k1 k2 k3 k5 newId) ∧
    MroB (.ref C :: bm) newId ∧ (Value.ref C :: bm).contains (.type D) = true
  sa : PySem.W.findIn K (.ref C) "__setattr__" = some (some (.builtin "object.__setattr__"))
  exC : PySem.W.subIn K (.ref C) (.type "BaseException") = some true
  tyC : PySem.W.typeIn K (.ref C) = some (.type "type")
  kC : PySem.W.keepIn K (.ref C) = true
/-- .. as a look -/
def oxB (K : PySem.W.Frag) (C : Addr) (newId D : String) (tl : List Value) : Bool :=
  (match K.lookup C with
    | some ⟨.type "type", _, .cls cd, sl⟩ => (match cd.mro, sl.toList with
      | .ref C' :: bm, [_, _, _, _, some (.builtin n), _] => C' == C && (n == newId && (!cd.hasDel && (cd.hasDict && (PySem.W.excTail tl bm && (Value.ref C :: bm).contains (.type D)))))
      | _, _ => false)
    | _ => false) &&
  (He.eqO (PySem.W.findIn K (.ref C) "__setattr__") (some (some (.builtin "object.__setattr__"))) &&
    (decide (PySem.W.subIn K (.ref C) (.type "BaseException") = some true) && (decide (PySem.W.typeIn K (.ref C) = some (.type "type")) && PySem.W.keepIn K (.ref C))))
theorem mro_of_tail {tl : List Value} {newId : String} (h : MroB tl newId) : ∀ l : List Value, PySem.W.excTail tl l = true → MroB l newId := by
  intro l
  induction l with
  | nil =>
    intro e
    rcases PySem.W.excTail_cases [] e with ⟨c, r, q, _⟩ | q
    · cases q
    · rw [q]
      exact h
  | cons a r ih =>
    intro e
    rcases PySem.W.excTail_cases (a :: r) e with ⟨c, r2, q, h2⟩ | q
    · obtain ⟨rfl, rfl⟩ := List.cons.inj q
      exact (ih h2).ref
    · rw [q]
      exact h
theorem oxB_ok {K : PySem.W.Frag} {C : Addr} {newId D : String} {tl : List Value} (mb : MroB tl newId) (h : oxB K C newId D tl = true) : OxC K C D := by
  obtain ⟨h1, h⟩ := He.ba h
  obtain ⟨h2, h⟩ := He.ba h
  obtain ⟨h3, h⟩ := He.ba h
  obtain ⟨h4, h5⟩ := He.ba h
  refine ⟨?_, He.eqO_ok h2, of_decide_eq_true h3, of_decide_eq_true h4, h5⟩
  split at h1
  · rename_i dd cd sl ho
    split at h1
    · rename_i C' bm k0 k1 k2 k3 n k5 hm hs
      simp only [Bool.and_eq_true, beq_iff_eq, Bool.not_eq_true'] at h1
      obtain ⟨rfl, rfl, hdel, hdict, ht, hD⟩ := h1
      obtain ⟨nm, bs, mro, ns, qn, hd, sn, sub, ab, col, dl⟩ := cd
      dsimp only at hm hdel hdict
      subst hm hdel hdict
      have es : sl = #[k0, k1, k2, k3, some (.builtin n), k5] := by
        obtain ⟨l⟩ := sl
        simp only at hs
        rw [hs]
      subst es
      exact ⟨nm, qn, ns, bs, bm, sn, sub, ab, col, dd, k0, k1, k2, k3, k5, n, ho, (mro_of_tail mb _ ht).ref, hD⟩
    · cases h1
  · cases h1
section
variable {X : Cx} {pins : List (Addr × Obj)} {σ : L2.St} {H : Hp} {s : Shared} {a C dx : Addr} {f : Str} {y : V} {u : Value} {D : String} {E : Value → Shared → Prop} {A : Around}
theorem clsX {K : PySem.W.Frag} {C : Addr} {D : String} (T : OxC K C D) : ∃ cd newId, PySem.W.clsIn K C = some cd ∧ MroB cd.mro newId ∧ cd.hasDict = true := by
  obtain ⟨nm, q, N, bs, bm, sn, sub, ab, col, dd, k0, k1, k2, k3, k5, newId, hC, mb, _⟩ := T.cls
  exact ⟨_, newId, by unfold PySem.W.clsIn; rw [hC], mb, rfl⟩
theorem ostX {Q : Unit → Shared → Prop} (T : OxC X.K C D) (I : Inv X pins σ H s) (e : H a = some (exo a C none)) (hno : PySem.W.findIn X.K (.ref C) f = some none) (ry : RelV y u)
    (h : ∀ dx s', H dx = none → dx ≠ a → Inv X pins σ (upd (upd H dx (exd dx [(f, y)])) a (exo a C (some dx))) s' → Q () s') : wpAny (model X.prog X.w) A (setAttr (.ref a) f u) Q E s := by
  obtain ⟨cd, newId, hcd, mb, hd⟩ := clsX T
  obtain ⟨t1, ho⟩ := exo_at I.hok e
  obtain ⟨hp, g, d, t, os⟩ := s
  refine PySem.W.set_plain I.kIn (ox := { cls := .ref C, dict := none, data := .fields #[.ref t1, .none, .none, .none, .bool false, .none] }) (od := none) ⟨ho, rfl, rfl, trivial⟩ T.sa ?_
  refine setX I.kIn ho hcd mb hd hno (fun h' tk' dx k dn dne hx hn => ?_)
  have fr : H dx = none := I.hok.fresh dn
  have nd : ∀ {b : Addr} {o : Obj}, hp.get? b = some o → b ≠ dx := fun {b o} q => Nat.ne_of_lt (Nat.lt_of_lt_of_le (Heap.lt_size q) dn)
  have na : ∀ {b : Addr}, H b = none → b ≠ a := fun {b} n z => by
    rw [z, e] at n
    cases n
  have un : Un X.fs [] H (upd (upd H dx (exd dx [(f, y)])) a (exo a C (some dx))) hp h' := by
    refine ⟨fun b o q n _ _ => k b o (na n) q, fun b o q n _ _ => ⟨o.slots, k b o (na n) q⟩, fun b o q n _ => ?_, fun b o q _ => ?_, fun b xs q => ?_, fun b o v q => ?_, fun b ps q => ⟨#[], ?_⟩⟩
    · rw [upd_ne (na n), upd_ne (nd q)]
      exact n
    · by_cases hb : b = a
      · subst hb
        exact ⟨_, hx⟩
      · exact ⟨o, k b o hb q⟩
    · rw [upd_ne (at_ne e q exo_tup), upd_ne (ne_of_none q fr)]
      exact q
    · rw [upd_ne (at_ne e q exo_frz), upd_ne (ne_of_none q fr)]
      exact q
    · rw [upd_ne (at_ne e q exo_tbl), upd_ne (ne_of_none q fr), q]
      simp
  refine h dx _ fr dne (I.un (t' := tk') un fun b o q => ?_)
  by_cases hb : b = a
  · subst hb
    rw [upd_same] at q
    cases q
    exact exo_ok hx
  · rw [upd_ne hb] at q
    by_cases hd : b = dx
    · subst hd
      rw [upd_same] at q
      cases q
      exact exd_ok hn (relO_put (fs := []) ry fun g => True.intro)
    · rw [upd_ne hd] at q
      refine (I.hok b o q).stay (fun c v hc z => k c v ?_ z) (fun c hc => ?_) (fun c xs hc => ?_)
      · rcases hc with hc | hc
        · rw [hc]
          exact hb
        · exact at_ne e hc exo_own
      · rw [upd_ne (at_ne e hc exo_own), upd_ne (ne_of_none hc fr)]
        exact hc
      · rw [upd_ne (at_ne e hc exo_tup), upd_ne (ne_of_none hc fr)]
        exact hc
theorem oiniX {us : List Value} {initId : String} {Q : Value → Shared → Prop} (ib : IniB D initId) (T : OxC X.K C D) (I : Inv X pins σ H s) (e : H a = some (exo a C none)) (hl : us.length ≤ sizeLine) (h : ∀ s', Inv X pins σ H s' → Q .none s') :
    wpAny (model X.prog X.w) A (call (.builtin initId) (.ref a :: us)) Q E s := by
  obtain ⟨nm, q, N, bs, bm, sn, sub, ab, col, dd, k0, k1, k2, k3, k5, newId, hC, mb, hD⟩ := T.cls
  obtain ⟨t1, ho⟩ := exo_at I.hok e
  obtain ⟨hp, g, d, t, os⟩ := s
  refine wpAny_call (initX ib hD (I.kIn _ _ hC) ho hl fun h' t2 k hx => ?_)
  have J := I.write (t' := t) (x := a) (e := a) (o := exo a C none) (by rw [e]; exact True.intro) (.inl rfl) k ⟨_, hx⟩ (exo_ok hx)
  have eu : upd H a (exo a C none) = H := by
    funext b
    by_cases hb : b = a
    · rw [hb, upd_same, e]
    · rw [upd_ne hb]
  rw [eu] at J
  exact h _ J
end
/-- B.__init__(self, ..), B the built-in class D, or an own class that has its init of D -/
def tIni (K : PySem.W.Frag) (D : String) (ta : TA) : TE := fun σ H Q => ta σ H fun vs H1 => ∃ (a C : Addr) (ws : List V), vs = .ref a :: ws ∧ ws.length ≤ 1000 ∧ OxC K C D ∧ H1 a = some (exo a C none) ∧ Q .non H1
/-- self.f = e, the first attribute -/
def tSet1 (K : PySem.W.Frag) (D : String) (f : Str) (to te : TE) : TS := fun N σ H => te σ H fun y H1 => to σ H1 fun x H2 => ∃ a C : Addr, x = .ref a ∧ OxC K C D ∧ PySem.W.findIn K (.ref C) f = some none ∧
  H2 a = some (exo a C none) ∧ ∀ dx, H2 dx = none → dx ≠ a → N.nx σ (upd (upd H2 dx (exd dx [(f, y)])) a (exo a C (some dx)))
section
variable {X : Cx} {o e : Expr} {es : List Expr} {to te : TE} {ta : TA} {f : Str} {p p' p1 p2 pos : Pos} {D initId : String}
/-- the built-in class's init -/
theorem pe_iniT {T : String} {pl : Sem Bool} (ib : IniB D initId) (x : Str) (hg : Gl X x) (hm : X.mg x = none) (hv : bootBuiltins x = some (.type T)) (ht : typeOf (.type T) = pure (.type "type")) (hs : Manifest.isStub T = false)
    (vV : PySem.W.findCls X.K (.type T) (.type "type") "__init__" = some (.val (.builtin initId))) (hh : PySem.W.handedIn (.builtin initId) = true) (ha : PA X (e :: es) ta)
    (hc : eval (.Call (.Attribute (.Name x p1) "__init__" p2) (e :: es) [] pos) X.env = (do
      let ov ← eval (.Name x p1) X.env
      standAt p2.atName
      let (f, first) ← holding [ov] (getMethod ov "__init__" pl)
      callWith pos f first (backTo pos (starEach (e :: es) X.env)) (backToKw pos (keywordEach [] X.env))) := by rfl)
    (hn : x ≠ "__name__" := by decide) (hdb : (x == ("__debug__" : Str)) = false := by decide)
    (he : starEach (e :: es) X.env = (false, eval e X.env) :: starEach es X.env := by rfl) (hpl : (backTo pos (starEach es X.env)).any (·.1) = false := by rfl) :
    PE X (.Call (.Attribute (.Name x p1) "__init__" p2) (e :: es) [] pos) (tIni X.K D ta) := by
  refine ⟨fun pins s σ H Q I h => ?_⟩
  refine PySem.W.methodCall_KW (ld_blt I hg hm hv ?_ hn hdb) hc
  obtain ⟨m, fr⟩ := I.fr
  refine PySem.W.method_type fr I.ok.mod.kin ht hs vV hh ?_
  show wpAny _ _ (callWith pos (Value.builtin initId) [] (backTo pos (starEach (e :: es) X.env)) []) _ _ _
  refine PyProof.Rows.callWith_method1 (thn (ha.run pos pins _ σ H _ (I.tok _) h) fun us s1 hu => ?_) he hpl
  obtain ⟨vs, H1, I1, r1, a, C, ws, ev, hl, T1, ea, q⟩ := hu
  subst ev
  cases r1 with
  | @cons _ u0 _ ur ra rr =>
    obtain rfl : u0 = Value.ref a := ra
    have hlen : ur.length ≤ sizeLine := by
      rw [← Paired.length rr, sizeLine_eq]
      omega
    exact oiniX ib T1 I1 ea hlen fun s' J => ⟨.non, H1, J, rfl, q⟩
/-- an own class's init that it has of the built-in one -/
theorem pe_iniC {B : Addr} {mc : Value} {pl : Sem Bool} (ib : IniB D initId) (x : Str) (hg : Gl X x) (hm : X.mg x = some (.ref B)) (cr : ClX.CRead X.K B mc)
    (vV : PySem.W.findCls X.K (.ref B) mc "__init__" = some (.val (.builtin initId))) (hh : PySem.W.handedIn (.builtin initId) = true) (ha : PA X (e :: es) ta)
    (hc : eval (.Call (.Attribute (.Name x p1) "__init__" p2) (e :: es) [] pos) X.env = (do
      let ov ← eval (.Name x p1) X.env
      standAt p2.atName
      let (f, first) ← holding [ov] (getMethod ov "__init__" pl)
      callWith pos f first (backTo pos (starEach (e :: es) X.env)) (backToKw pos (keywordEach [] X.env))) := by rfl)
    (hdb : (x == ("__debug__" : Str)) = false := by decide)
    (he : starEach (e :: es) X.env = (false, eval e X.env) :: starEach es X.env := by rfl) (hpl : (backTo pos (starEach es X.env)).any (·.1) = false := by rfl) :
    PE X (.Call (.Attribute (.Name x p1) "__init__" p2) (e :: es) [] pos) (tIni X.K D ta) := by
  refine ⟨fun pins s σ H Q I h => ?_⟩
  refine PySem.W.methodCall_KW (ld_glob I hg hm ?_ hdb) hc
  refine PySem.W.method_cls I.kIn cr.ga (PySem.W.cls_value I.kIn cr.rd vV hh ?_)
  show wpAny _ _ (callWith pos (Value.builtin initId) [] (backTo pos (starEach (e :: es) X.env)) []) _ _ _
  refine PyProof.Rows.callWith_method1 (thn (ha.run pos pins _ σ H _ (I.tok _) h) fun us s1 hu => ?_) he hpl
  obtain ⟨vs, H1, I1, r1, a, C, ws, ev, hl, T1, ea, q⟩ := hu
  subst ev
  cases r1 with
  | @cons _ u0 _ ur ra rr =>
    obtain rfl : u0 = Value.ref a := ra
    have hlen : ur.length ≤ sizeLine := by
      rw [← Paired.length rr, sizeLine_eq]
      omega
    exact oiniX ib T1 I1 ea hlen fun s' J => ⟨.non, H1, J, rfl, q⟩
theorem ps_set1 (D : String) (ho : PE X o to) (he : PE X e te) (hs : swapsWith e (some (.Attribute o f p')) pos.line X.env = pure false := by rfl) : PS X (.Assign [.Attribute o f p'] e pos) (tSet1 X.K D f to te) := by
  refine ⟨fun pins s σ H N I h => ?_⟩
  refine plainObj_wpAny_Assign_Attribute (thn (he.run pins s σ H _ I h) fun v s1 z1 => ?_) hs
  obtain ⟨y, H1, I1, r1, q1⟩ := z1
  refine thn (ho.run pins s1 σ H1 _ I1 q1) fun u s2 z2 => ?_
  obtain ⟨x, H2, I2, r2, a, C, ex, T, hno, ea, q⟩ := z2
  subst ex
  obtain rfl : u = Value.ref a := r2
  exact ostX T I2 ea hno r1 fun dx s' n ne J => ⟨σ, _, J, q dx n ne⟩
/-- C(e, ..) where C's own init keeps sp -/
def tMkX (C : Addr) (sp : Sp) (ta : TA) : L2.St → Hp → XK → Prop := fun σ H Q => ta σ H fun vs H1 => vs.length ≤ 1000 ∧ ∀ a, H1 a = none → sp (.ref a :: vs) (upd H1 a (exo a C none))
  (fun v H2 => v = .non ∧ ∃ (d : Addr) (fs : List (Str × V)), H2 a = some (exo a C (some d)) ∧ H2 d = some (exd d fs) ∧ H1 d = none ∧ Q (.ref C) (some d) (upd (del H2 a) d (.xd fs))) (fun _ _ _ => False)
theorem pmk_ox {CX : CXT} {x : Str} {C fI : Addr} {k : Nat} {fd : FuncData} {ps : List Str} {sp : Sp} (T : OxC X.K C D) (iC : PySem.W.findIn X.K (.ref C) "__init__" = some (some (.ref fI))) (tI : PySem.W.typeIn X.K (.ref fI) = some (.type "function"))
    (F1 : FnOk X.prog X.w X.K X.mg X.base CX k fI fd ps sp) (hr : Room (k + 1) X.A) (hb : Binds X.K fd ps []) (hx : Passes CX X (fun _ _ _ => False)) (hg : Gl X x) (hm : X.mg x = some (.ref C)) (ha : PA X (e :: es) ta)
    (hdb : (x == ("__debug__" : Str)) = false := by decide) (he : starEach (e :: es) X.env = (false, eval e X.env) :: starEach es X.env := by rfl) (hpl : (backTo pos (starEach es X.env)).any (·.1) = false := by rfl) :
    PMk X (.Call (.Name x p) (e :: es) [] pos) (tMkX C sp ta) := by
  intro pins s σ H Q I h
  obtain ⟨nm, q, N, bs, bm, sn, sub, ab, col, dd, k0, k1, k2, k3, k5, newId, hC, mb, hD⟩ := T.cls
  refine wpAny_Call_Name_kw (ld_glob I hg hm ?_ hdb)
  refine PySem.W.callWith_K (h₀ := X.base) I.ok.mod.kin T.kC (thn (ha.run pos pins s σ H _ I h) fun us s1 hu => ?_) he hpl
  obtain ⟨vs, H1, I1, r1, hz, q1⟩ := hu
  refine ⟨I1.kIn, ?_⟩
  show wpAny _ _ (call (.ref C) us) _ _ _
  obtain ⟨hp, g, dr, tk, os⟩ := s1
  have sz : hp.objs.size ≤ hp.objs.size + 1 := Nat.le_succ _
  have hq := q1 (hp.objs.size + 1) (I1.hok.fresh sz)
  have kk : ∀ b o, hp.get? b = some o → ((hp.push (PySem.W.kdv_tup us)).push (PySem.HandSPX.excO C hp.objs.size)).get? b = some o :=
    fun b o e => Heap.get?_push_of_some _ (Heap.get?_push_of_some _ e)
  have at1 : ((hp.push (PySem.W.kdv_tup us)).push (PySem.HandSPX.excO C hp.objs.size)).get? (hp.objs.size + 1) = some (PySem.HandSPX.excO C hp.objs.size) := by heap_get
  have I2 : Inv X pins σ (upd H1 (hp.objs.size + 1) (exo (hp.objs.size + 1) C none)) ⟨(hp.push (PySem.W.kdv_tup us)).push (PySem.HandSPX.excO C hp.objs.size), g, dr, tk, os⟩ :=
    I1.laid (t' := tk) (a := hp.objs.size + 1) (o := exo (hp.objs.size + 1) C none) (h' := (hp.push (PySem.W.kdv_tup us)).push (PySem.HandSPX.excO C hp.objs.size)) kk sz (exo_ok at1)
  have r2 : Vals (V.ref (hp.objs.size + 1) :: vs) (Value.ref (hp.objs.size + 1) :: us) := .cons rfl r1
  have hl : (Value.ref (hp.objs.size + 1) :: us).length = ps.length := by
    have e := r2.length
    rw [F1.len _ _ _ _ hq] at e
    exact e.symm
  have hus : us.length ≤ sizeLine := by
    rw [← Paired.length r1, sizeLine_eq]
    omega
  have hb2 := hb _ (Value.ref (hp.objs.size + 1) :: us) I2.kIn (by rw [List.append_nil]; exact hl)
  rw [List.append_nil] at hb2
  refine wpAny_call (callX mb (I1.kIn _ _ hC) (PySem.W.looks_findIn I1.kIn iC) (fun self => PySem.W.bind_fn I1.kIn self tI) hus
    (codeAny_mono (F1.run _ X.stack _ _ ⟨Value.ref (hp.objs.size + 1) :: us, []⟩ (Value.ref (hp.objs.size + 1) :: us) _ _ (fun _ _ _ => False) (hr.make C us []) (I2.env0.make C us []) hb2 r2 hq) fun r s' hq' => ?_))
  cases r with
  | error er => exact hx pins σ _ _ er s' I2 hq'
  | ok fl =>
    cases fl with
    | ret u =>
      obtain ⟨v, H2, os2, bare2, un2, hok2, rv, ev, d, fs, ea, ed, hd1, q2⟩ := hq'
      subst ev
      obtain ⟨h2, g2, d2, t2, os'⟩ := s'
      exact ⟨rv, mk_end (raises_own T.exC T.tyC) I1 sz kk un2 hok2 os2 bare2 ea ed hd1 q2⟩
    | next => exact False.elim hq'
    | brk => exact False.elim hq'
    | cont => exact False.elim hq'
/-- what is never reached -/
theorem pe_no : PE X e (fun _ _ _ => False) := ⟨fun _ _ _ _ _ _ h => h.elim⟩
end
end LyX
/-! repr of data, where no repr runs around; defs that ask for it; a law's end over such a def. -/
namespace LyG
open PySem PySem.Spec PyProof.Rows L2
def rRepr (K : PySem.W.Frag) : List V → Hp → VK → Prop := fun xs H Q => ∃ (a : Addr) (d : PyData), xs = [.ref a] ∧ Dp K H (.ref a) d ∧ d.showable = true ∧ d.hasDict = false ∧ d.depth ≤ 40 ∧ d.shown.length ≤ sizeLine ∧ Q (.str d.shown) H
theorem call_repr {X : Cx} (hg : X.A.guards = some []) (hu : X.A.units + 64 < cLine) : CallR X (.builtin "repr") (rRepr X.K) := by
  intro pins s σ H xs us Q I r h
  obtain ⟨a, d, rfl, hd, sh, nd, dp, sz, q⟩ := h
  cases r with
  | @cons _ u _ ur ra rr =>
    cases rr
    obtain ⟨as, r1⟩ := Dp.reads I d _ _ hd ra
    obtain rfl : u = Value.ref a := ra
    refine repr_of_reads' r1 sh (fun z => ?_) hg (by omega) (fun _ _ z => z) (fun h' u tk kp => ?_) sz
    · rw [nd] at z
      cases z
    · exact ⟨.str d.shown, H, I.kept (t' := tk) kp, ⟨u, rfl⟩, q⟩
/-- a def's promise that leans on it that no repr runs around -/
structure FnG (P : Program) (w : World) (K : PySem.W.Frag) (mg : Str → Option Value) (base : Heap) (CX : CXT) (k : Nat) (f : Addr) (fd : FuncData) (ps : List Str) (sp : Sp) : Prop where
  len : ∀ vs H Q E, sp vs H Q E → vs.length = ps.length
  run : ∀ (A : Around) (outer : List Env) (s : Shared) (H : Hp) (args : Args) (us : List Value) (vs : List V) (Q : VK) (E : XK), A.guards = some [] → Room k A → Env0 P w K mg base A outer s H → BindsTo s fd args (ps.zip us) → Vals vs us → sp vs H Q E →
    codeAny (model P w) A (.call (.ref f) args) (CR CX outer P w H s Q E) s
section
variable {P : Program} {w : World} {K : PySem.W.Frag} {mg : Str → Option Value} {base : Heap} {CX : CXT} {k : Nat} {f : Addr} {fd : FuncData} {x qual : Str} {params : Arguments} {body : List Stmt} {scope : Scope} {dvs : List V} {kws : List (Str × V)} {N ps : List Str} {sp : Sp}
theorem fn_g {name : Str} {dV kV doc pm cdv ct oc : Value} {an od : Option Addr} {osl : Array (Option Value)}
    (lk : K.lookup f = some ⟨oc, od, .func (PySem.W.fnOf name qual params body scope dV kV doc pm an cdv ct), osl⟩) (hcd : PySem.W.codeIn K cdv qual = true) (S : FnScope N ps scope)
    (len : ∀ vs H Q E, sp vs H Q E → vs.length = ps.length)
    (hbody : ∀ (A : Around) (outer : List Env) (s : Shared) (H : Hp) (vs : List V) (Q : VK) (E : XK), A.guards = some [] → Room k (A.deeper (envOfC qual scope s.heap.objs.size f cdv)) → sp vs H Q E →
      ∃ t, PSs (cxOf CX P w K mg base N qual scope f cdv A outer s H E) body t ∧ t { nx := fun _ H' => Q .non H', rt := Q } (start N vs) H) :
    FnG P w K mg base CX (k + 1) f (PySem.W.fnOf name qual params body scope dV kV doc pm an cdv ct) ps sp := by
  refine ⟨len, fun A outer s H args us vs Q E hg hr e0 hb r hsp => ?_⟩
  have KX : K.In s.heap := e0.mod.kin.keeps fun b o e => (e0.bs b o e).1
  have lim : s.heap.NoLimit := e0.mod.nolimit.keeps fun b o e => (e0.bs b o e).1
  have kinds : ∀ y ∈ ps.zip us, scope.names.lookup y.1 = some .local ∨ (scope.names.lookup y.1 = some .cell ∧ ((cellsFrom (s.heap.objs.size + 1) scope.names []).lookup y.1).isSome = true) := fun y hy => by
    rcases S.par y.1 (List.of_mem_zip hy).1 with z | z
    · exact .inl z
    · exact .inr ⟨z, PySem.W.cellsFrom_some _ _ _ (.inl z)⟩
  refine codeAny_call_function hr.depth (KX _ _ lk) rfl S.co S.gen rfl (PySem.W.codeRec_of KX hcd) (hb _ _ _ _ ?_)
  refine wpAny_newFunctionEnv_cells S.kind kinds fun env he s1 xx => ?_
  subst he
  refine ⟨lim.keeps xx.toInCall.keep, codeAny_func ?_⟩
  obtain ⟨t, ht, hq⟩ := hbody A outer s H vs Q E hg (hr.deeper _) hsp
  have I := inv_start (CX := CX) (E := E) S hr.hd e0 (len _ _ _ _ hsp) r xx
  refine wpAny_mono (ht.run [] s1 (start N vs) H _ I hq) (fun fl s' hs => ?_) fun e s' hs => hs
  cases fl with
  | ret u =>
    obtain ⟨v, σ', H', J, rv, q⟩ := hs
    exact ⟨v, H', J.os, J.bare, J.base, J.hok, rv, q⟩
  | next =>
    obtain ⟨σ', H', J, q⟩ := hs
    exact ⟨V.non, H', J.os, J.bare, J.base, J.hok, rfl, q⟩
  | brk =>
    obtain ⟨_, _, _, q⟩ := hs
    exact False.elim q
  | cont =>
    obtain ⟨_, _, _, q⟩ := hs
    exact False.elim q
theorem okG (F : FunD K x qual params body scope dvs kws f fd) (S : FnScope N ps scope) (len : ∀ vs H Q E, sp vs H Q E → vs.length = ps.length)
    (hbody : ∀ (cdv : Value) (A : Around) (outer : List Env) (s : Shared) (H : Hp) (vs : List V) (Q : VK) (E : XK), A.guards = some [] → Room k (A.deeper (envOfC qual scope s.heap.objs.size f cdv)) → sp vs H Q E →
      ∃ t, PSs (cxOf CX P w K mg base N qual scope f cdv A outer s H E) body t ∧ t { nx := fun _ H' => Q .non H', rt := Q } (start N vs) H) : FnG P w K mg base CX (k + 1) f fd ps sp := by
  obtain ⟨oc, od, dV, kV, doc, pm, an, cdv, ct, osl, rfl, lk, hcd, _, _⟩ := F.ex
  exact fn_g lk hcd S len fun A outer s H vs Q E => hbody cdv A outer s H vs Q E
end
/-- the script as it lies at the law's entry: one of the written part's, or locked -/
theorem entryHp {P : Program} {w : World} {K : PySem.W.Frag} {h : Heap} {a : Addr} {vs : List Value} {ns : List Int} (KX : K.In h) (ha : h.get? a = some { cls := .type "list", data := .seq vs.toArray }) (hi : IntsAre vs ns) (hl : ns.length ≤ sizeLine) :
    ∃ H : Hp, Only H ∧ SqL K H a (ns.map V.int) ∧ HOk P w H h ∧ (∀ b, H b ≠ none → b = a) ∧ (H a ≠ none → K.lookup a = none) := by
  have rv := vals_ints hi
  have lv := hi.length
  cases hk : K.lookup a with
  | some o =>
    have e := KX a o hk
    rw [ha] at e
    cases e
    refine ⟨fun _ => none, fun _ => .inl rfl, .inr ⟨_, vs.toArray, _, hk, rfl, rfl, rfl, ?_, ?_⟩, fun b u z => ?_, fun b z => absurd rfl z, fun z => absurd rfl z⟩
    · rw [List.size_toArray, lv]
      exact hl
    · simpa using rv
    · have z2 : (none : Option HO) = some u := z
      cases z2
  | none =>
    have new : ObjOk P w (upd (fun _ => none) a (.frz { cls := .type "list", data := .seq vs.toArray } (.lst (ns.map V.int)))) h a (.frz { cls := .type "list", data := .seq vs.toArray } (.lst (ns.map V.int))) :=
      ⟨ha, by rw [List.length_map]; exact hl, vs, _, rv, ha⟩
    refine ⟨upd (fun _ => none) a (.frz { cls := .type "list", data := .seq vs.toArray } (.lst (ns.map V.int))), fun b => ?_, .inl (.inr ⟨_, upd_same⟩), fun b u z => ?_, fun b z => ?_, fun _ => rfl⟩
    · by_cases hb : b = a
      · subst hb
        exact .inr ⟨_, _, upd_same⟩
      · exact .inl (upd_ne hb)
    · by_cases hb : b = a
      · subst hb
        rw [upd_same] at z
        cases z
        exact new
      · rw [upd_ne hb] at z
        cases z
    · by_cases hb : b = a
      · exact hb
      · rw [upd_ne hb] at z
        exact absurd rfl z
theorem lawG {P : Program} {w : World} {K : PySem.W.Frag} {mg mb : Str → Option Value} {CX : CXT} {k : Nat} {fa a : Addr} {fd : FuncData} {x : Str} {sp : Sp} {s1 : Shared} {vs : List Value} {ns : List Int}
    (KX : K.In s1.heap) (hns : s1.heap.Ns mainGlobals mg) (hb : s1.heap.Ns builtinsNs mb) (hbb : ∀ x : Str, x ≠ "__name__" → mb x = bootBuiltins x) (hlim : s1.heap.NoLimit) (hg : s1.gens = #[])
    (ha : s1.heap.get? a = some { cls := .type "list", data := .seq vs.toArray }) (hi : IntsAre vs ns) (hl : ns.length ≤ sizeLine) (hr : Room k callerA)
    (F : ∀ base : Heap, K.In base → base.Ns mainGlobals mg → FnG P w K mg base CX k fa fd [x] sp) (hbind : ∀ (s : Shared) (u : Value), BindsTo s fd ⟨[u], []⟩ [(x, u)])
    (hsp : ∀ H : Hp, Only H → SqL K H a (ns.map V.int) → sp [.ref a] H (fun v _ => v = .bl true) fun _ _ _ => False)
    (hCX : ∀ H e s', CX [] H s1 (fun _ _ _ => False) e s' → False) :
    codeAny (model P w) callerA (.call (.ref fa) ⟨[.ref a], []⟩) (fun r s' => r = .ok (.ret (.bool true)) ∧ OldK s1.heap s'.heap ∧ s'.os = s1.os ∧ AllBare s'.gens) s1 := by
  obtain ⟨H, hO, hS, hok, hA, hK⟩ := entryHp (P := P) (w := w) KX ha hi hl
  have only : ∀ {b : Addr} {u : HO}, H b = some u → b = a := fun {b u} q => hA b (by rw [q]; simp)
  have dictFree : ∀ {b : Addr} {o : Obj} {es : Array DictEntry} {ep : Nat}, s1.heap.get? b = some o → o.data = .dict es ep → H b = none := fun {b o es ep} e dd => by
    cases q : H b with
    | none => rfl
    | some u =>
      obtain rfl := only q
      rw [ha] at e
      cases e
      cases dd
  have ns2 : ∀ {b : Addr} {m : Str → Option Value}, s1.heap.Ns b m → (hidT s1.heap H).Ns b m := fun {b m} z => by
    obtain ⟨o, es, ep, e, dd, r⟩ := z
    exact ⟨o, es, ep, hidT_get e (dictFree e dd), dd, r⟩
  have kb : K.In (hidT s1.heap H) := fun b o e => hidT_get (KX b o e) (by
    cases q : H b with
    | none => rfl
    | some u =>
      obtain rfl := only q
      rw [hK (by rw [q]; simp)] at e
      cases e)
  obtain ⟨mc, l1, l2⟩ := hlim
  have hM : Mod K mg (hidT s1.heap H) := ⟨kb, ns2 hns, ⟨mb, ns2 hb, hbb⟩, ⟨mc, ns2 l1, l2⟩⟩
  have e0 : Env0 P w K mg (hidT s1.heap H) callerA [] s1 H := ⟨rfl, hM, fun b o e => of_hidT e, Nat.le_of_eq (hidT_size _ _), trivial, (fun b hb => nomatch hb), hok, AllBare.of_eq hg⟩
  refine codeAny_mono ((F _ kb (ns2 hns)).run callerA [] s1 H ⟨[.ref a], []⟩ [.ref a] [.ref a] _ _ rfl hr e0 (hbind s1 (.ref a)) (.cons rfl .nil) (hsp H hO hS)) fun r s' hq => ?_
  cases r with
  | error e => exact (hCX H e s' hq).elim
  | ok fl =>
    cases fl with
    | next => exact False.elim hq
    | brk => exact False.elim hq
    | cont => exact False.elim hq
    | ret u =>
      obtain ⟨v, H2, os, bare, un, hok2, r2, q⟩ := hq
      have q2 : v = .bl true := q
      subst q2
      obtain rfl : u = Value.bool true := r2
      refine ⟨rfl, OldK.of_keep fun b o e => ?_, os, bare⟩
      cases q : H b with
      | none => exact un.keep b o e q (fun z => nomatch z) (by simp)
      | some u =>
        rcases hO b with z | ⟨ob, xs, z⟩
        · rw [q] at z
          cases z
        · have z2 := un.frzs b ob _ z
          obtain ⟨e1, _⟩ := hok b _ z
          obtain ⟨e2, _⟩ := hok2 b _ z2
          rw [e] at e1
          cases e1
          exact e2
/-- a law, by a def that asks for guards -/
theorem walkG {l : PySem.W.OpenLaw} {n k : Nat} {q : Program} {loose : List Str} {XP : (Str → Option Value) → Heap → Prop} {YP : World → Heap → Prop} {d : DefRec} {CX : World → CXT} {x : Str}
    (hn : l.most = some n) (hn2 : n ≤ sizeLine) (hdf : d.params.defaults = []) (hr : Room k callerA)
    (F : ∀ (w : World) (mg : Str → Option Value) (fa : Addr) (h : Heap), YP w h → h.Ns mainGlobals mg → mg d.name = some (.ref fa) →
      ∃ (K : PySem.W.Frag) (fd : FuncData) (sp : Sp), K.In h ∧ (∀ (s : Shared) (u : Value), BindsTo s fd ⟨[u], []⟩ [(x, u)]) ∧
        (∀ (H : Hp) (a : Addr) (ns : List Int), ns.length ≤ n → Only H → SqL K H a (ns.map V.int) → sp [.ref a] H (fun v _ => v = .bl true) fun _ _ _ => False) ∧
        ∀ base : Heap, K.In base → base.Ns mainGlobals mg → FnG l.prog w K mg base (CX w) k fa fd [x] sp)
    (hCX : ∀ (w : World) (H : Hp) (s : Shared) (e : Value) (s' : Shared), CX w [] H s (fun _ _ _ => False) e s' → False) :
    PySem.W.WalkO q loose XP YP l.row.toRowW d [] (fun f vs => PySem.call f vs) := by
  refine Att.attach_call hn hdf fun w s0 s1 mg mb fa o pm cd doc a vs ns G Y ho hd hcd hmg hobj hints hlen hg => ?_
  obtain ⟨K, fd, sp, KX, hb, hsp, hF⟩ := F w mg fa _ Y G.T.g hmg
  exact lawG KX G.T.g G.T.b G.T.builtins G.T.nolimit hg hobj hints (Nat.le_trans hlen hn2) hr hF hb (fun H hO hS => hsp H a ns hlen hO hS) fun H e s' => hCX w H s1 e s'
end LyG
/-! try with several clauses, each with a name. -/
namespace LyT
open PySem PySem.Spec PyProof.Rows L2
/-- a clause: the class it names, the slot of its name, what its suite reads -/
abbrev Cls1 := Value × Nat × (Addr → Value → Option Addr → TS)
/-- the ends of a suite whose name goes behind it -/
def goneE (i : Nat) (D : Ends) : Ends := { nx := fun σ' H' => D.nx (σ'.set i none) H', rt := D.rt, bk := fun σ' H' => D.bk (σ'.set i none) H', ct := fun σ' H' => D.ct (σ'.set i none) H' }
/-- what the clauses, from the first on, wish of an exception -/
def wEach (K : PySem.W.Frag) (Wout : WX) (D : Ends) : List Cls1 → WX
  | [] => Wout
  | (c, i, ts) :: r => fun cls d σ H => ∃ b, PySem.W.exmOne K cls c = some b ∧ (b = true → ∀ a, H a = none → ts a cls d (goneE i D) (σ.set i (some (.ref a))) H) ∧ (b = false → wEach K Wout D r cls d σ H)
inductive Hds (X : Cx) : List ExceptHandler → List Cls1 → Prop
  | nil : Hds X [] []
  | cons {x n : Str} {c : Value} {i : Nat} {ts : Addr → Value → Option Addr → TS} {b1 : Stmt} {suite : List Stmt} {np pos : Pos} {hds : List ExceptHandler} {l : List Cls1}
      (hc : Names X x c) (hi : X.N[i]? = some n) (hn : X.env.kindOf n = some .local)
      (hsu : ∀ (a : Addr) (oe : Obj) (cls : Value) (d : Option Addr) (pn : List (Addr × Obj)), Zc cls d oe → (∃ vs, oe.data = .fields vs) → PSs (X.suite a ((a, oe) :: pn)) (b1 :: suite) (ts a cls d))
      (r : Hds X hds l) : Hds X (.ExceptHandler (some (.Name x np)) (some n) (b1 :: suite) pos :: hds) ((c, i, ts) :: l)
section
variable {X : Cx} {body : List Stmt} {h1 : ExceptHandler} {hds : List ExceptHandler} {l : List Cls1} {pos : Pos} {tb : WX → TS} {Wout : WX}
/-- the exception has landed in the frame of the try -/
structure Landed (X : Cx) (pins : List (Addr × Obj)) (σ : L2.St) (H : Hp) (a : Addr) (cls : Value) (d : Option Addr) (B : Heap) (sI s : Shared) : Prop where
  inv : Inv X pins σ H sI
  nb : ∀ b o, sI.heap.get? b = some o → b ∉ frs X.stack → B.get? b = some o
  up : sI.heap.UpToSlots s.heap
  fly : PySem.HandSPX.FlyingZ B (X.env :: X.outer) a (Zc cls d) s.heap
  na : H a = none
  os : s.os = sI.os
  ag : AllBare s.gens
theorem Landed.here {pins : List (Addr × Obj)} {σ : L2.St} {H : Hp} {a : Addr} {cls : Value} {d : Option Addr} {B : Heap} {sI s : Shared} (L : Landed X pins σ H a cls d B sI s) : Inv X pins σ H s := L.inv.landed L.nb L.fly.1 L.up L.os L.ag
theorem Landed.apart {pins : List (Addr × Obj)} {σ : L2.St} {H : Hp} {a : Addr} {cls : Value} {d : Option Addr} {B : Heap} {sI s : Shared} (hf : X.env.frame = some X.env.locals) (L : Landed X pins σ H a cls d B sI s) : a ≠ X.env.locals ∧ a ∉ X.fs := by
  obtain ⟨oe, vs, he, _, hd⟩ := L.fly.there
  have nfr : a ∉ frs (X.env :: X.outer) := fun hm => by
    obtain ⟨_, o2, e2, nf⟩ := L.fly.2.2.1.mem hm
    rw [he] at e2
    cases e2
    exact nf _ hd
  refine ⟨fun z => nfr (List.mem_filterMap.mpr ⟨X.env, List.mem_cons_self, ?_⟩), fun hm => ?_⟩
  · rw [hf, z]
  · obtain ⟨e, me, q⟩ := List.mem_filterMap.mp hm
    exact nfr (List.mem_filterMap.mpr ⟨e, List.mem_cons_of_mem _ me, q⟩)
theorem clauses (hs : X.stack = X.env :: X.outer) (hf : X.env.frame = some X.env.locals) (hN : X.N.Nodup) (tk : Takes X Wout) {D : Ends} {pins : List (Addr × Obj)} {σ : L2.St} {H : Hp} {a : Addr} {cls : Value} {d : Option Addr} {B : Heap} {sI s : Shared}
    (L : Landed X pins σ H a cls d B sI s) (hk : Hds X hds l) : wEach X.K Wout D l cls d σ H → wpAny (model X.prog X.w) X.A (handleBy (.ref a) X.env hds) (SP X pins D) X.xe s := by
  have ok := L.inv.ok
  obtain ⟨nL, nF⟩ := L.apart hf
  obtain ⟨oe3, vs3, he3, hz3, hd3⟩ := L.fly.there
  have S3 := L.here.suite he3 hd3 L.na nL nF
  induction hk with
  | nil =>
    intro w
    refine wpAny_handleBy_nil ?_
    obtain ⟨_, _, _, oe, vs, T, oT, _, he, hz, hd, f1, _⟩ := id L.fly
    unfold PySem.passOn
    refine wpAny_bind (wpAny_field he hd f1 ?_)
    rw [if_neg (by simp)]
    have go : wpAny (model X.prog X.w) X.A (setFlight (.ref a) X.env.frame) (fun _ s4 => wpAny (model X.prog X.w) X.A (throw (.ref a) : Sem Flow) (SP X pins D) X.xe s4) X.xe s := by
      rw [hf]
      refine PySem.HandSPX.setFlight_upZ L.fly fun h4 fl4 up4 => wpAny_throw (tk _ _ ?_)
      exact ⟨a, B, sI, pins, σ, H, cls, d, rfl, L.inv, L.nb, L.up.trans up4, .inr (.inr (by rw [hs]; exact fl4)), L.na, L.os, L.ag, w⟩
    first
      | exact wpAny_bind (wpAny_pure (wpAny_bind go))
      | exact wpAny_bind go
  | @cons x n c i ts b1 suite np pos hds2 l2 hc hi hn hsu r ih =>
    intro w
    obtain ⟨b, hb1, yes, no⟩ := w
    refine wpAny_handleBy_cons (codeAny_handlers_test ?_) (by intro q; cases q)
    have LT : PySem.W.Looks (model X.prog X.w) s.heap (typeOf (.ref a)) cls := fun A Q E s k q => wpAny_typeOf_ref (k _ _ he3) (by rw [hz3.1]; exact q)
    have LM := PySem.W.exm_one (M := model X.prog X.w) L.here.kIn LT hb1
    have named : ∀ {Q : Value → Shared → Prop} {E : Value → Shared → Prop}, Q c s → wpAny (model X.prog X.w) (X.A.mark (some (.ref a))) (eval (.Name x np) X.env) Q E s := fun {Q E} q => by
      obtain ⟨hg, hdbg, hm | ⟨hm, hv, hnn⟩⟩ := hc
      · exact ld_glob (X := X.suite a ((a, oe3) :: (X.pn ++ pins))) S3 hg hm q hdbg
      · exact ld_blt (X := X.suite a ((a, oe3) :: (X.pn ++ pins))) S3 hg hm hv q hnn hdbg
    refine named (LM.here ?_)
    cases b with
    | false =>
      show wpAny _ X.A (handleBy (.ref a) X.env hds2) _ _ _
      exact ih (no rfl)
    | true =>
      refine codeAny_handlers_suite_as ?_
      refine PySem.HandSPX.lands_againZ L.fly fun h4 fl4 up4 => ?_
      have J4 : Inv X pins σ H { s with heap := h4 } := L.inv.landed L.nb fl4.1 (L.up.trans up4) L.os L.ag
      obtain ⟨oe4, vs4, he4, hz4, hd4⟩ := fl4.there
      have S4 := J4.suite he4 hd4 L.na nL nF
      have hloc : Loc X.env.scope n := .inl hn
      refine store_ok (X := X.suite a ((a, oe4) :: (X.pn ++ pins))) (v := .ref a) S4 hN hi hloc rfl (fun s5 S5 => ?_) (.inr hn)
      refine wpAny_mono ((hsu a oe4 cls d (X.pn ++ pins) hz4 ⟨_, hd4⟩).run [] s5 _ H _ S5 (yes rfl a L.na)) (fun f s6 hsp => ?_) (fun _ _ z => False.elim z)
      have fin : ∀ {σ6 : L2.St} {H6 : Hp} {Q : Shared → Prop}, Inv (X.suite a ((a, oe4) :: (X.pn ++ pins))) [] σ6 H6 s6 → (∀ s7, Inv X pins (σ6.set i none) H6 s7 → Q s7) →
          wpAny (model X.prog X.w) X.A (do bindName X.env n .none; unbindBehindTheSuite X.env n pos) (fun _ s7 => Q s7) X.xe s6 := fun {σ6 H6 Q} S6 hq => gone_ok (S6.unsuite ok) hN hi hn hq
      cases f with
      | next =>
        obtain ⟨σ6, H6, S6, q6⟩ := hsp
        exact fin S6 fun s7 J7 => ⟨_, _, J7, q6⟩
      | brk =>
        obtain ⟨σ6, H6, S6, q6⟩ := hsp
        exact fin S6 fun s7 J7 => ⟨_, _, J7, q6⟩
      | cont =>
        obtain ⟨σ6, H6, S6, q6⟩ := hsp
        exact fin S6 fun s7 J7 => ⟨_, _, J7, q6⟩
      | ret u =>
        obtain ⟨v6, σ6, H6, S6, r6, q6⟩ := hsp
        exact fin S6 fun s7 J7 => ⟨_, _, _, J7, r6, q6⟩
theorem ps_try_each (hs : X.stack = X.env :: X.outer) (hf : X.env.frame = some X.env.locals) (hN : X.N.Nodup) (tk : Takes X Wout)
    (hb : ∀ (W : WX) (pn : List (Addr × Obj)) (xe : Value → Shared → Prop), Takes (X.tr pn xe) W → PassesOwn (model X.prog X.w) X.A X.env xe → PSs (X.tr pn xe) body (tb W))
    (hh : Hds X (h1 :: hds) l) : PS X (.Try body (h1 :: hds) [] [] pos) (fun D σ H => tb (wEach X.K Wout D l) D σ H) := by
  refine ⟨fun pins s σ H D I h => ?_⟩
  have ok := I.ok
  have hfr : X.A.frames = some (X.env :: X.outer) := by rw [ok.frames, hs]
  refine wpAny_Try_except ?_
  refine wpAny_mono ((hb (wEach X.K Wout D l) (X.pn ++ pins) (fun e s₁ => wpAny (model X.prog X.w) X.A (noteFrame e X.env) (fun _ s₂ => wpAny (model X.prog X.w) X.A (setFlight e none)
    (fun _ s₃ => wpAny (model X.prog X.w) X.A (handleBy e X.env (h1 :: hds)) (SP X pins D) X.xe s₃) X.xe s₂) X.xe s₁) (fun u s' xx => ?_) PassesOwn.looking).run [] s σ H D (I.toTry _) h) (fun f s1 hsp => ?_) (fun e s1 he => he)
  · obtain ⟨a, B, sI, pins', σ', H', cls, d, rfl, J', nb, up, sky, na, os, ag, w⟩ := xx
    have J : Inv X pins σ' H' sI := J'.ofTry ok
    have sky2 : Sky B (X.env :: X.outer) a (Zc cls d) X.env.locals s'.heap := by
      rw [← hs]
      exact sky
    show wpAny (model X.prog X.w) X.A (noteFrame (.ref a) X.env) _ _ _
    refine Sky.land Zc.steady hfr hf sky2 fun h3 fl3 up3 => ?_
    exact clauses hs hf hN tk (s := { s' with heap := h3 }) ⟨J, nb, up.trans up3, fl3, na, os, ag⟩ hh w
  · cases f with
    | next =>
      obtain ⟨σ', H', J', q⟩ := hsp
      exact wpAny_execs_nil ⟨σ', H', J'.ofTry ok, q⟩
    | brk =>
      obtain ⟨σ', H', J', q⟩ := hsp
      exact ⟨σ', H', J'.ofTry ok, q⟩
    | cont =>
      obtain ⟨σ', H', J', q⟩ := hsp
      exact ⟨σ', H', J'.ofTry ok, q⟩
    | ret u =>
      obtain ⟨v, σ', H', J', r, q⟩ := hsp
      exact ⟨v, σ', H', J'.ofTry ok, r, q⟩
end
end LyT
/-! Defs, methods, makers by their promises; isinstance of a caught error with a dict; str(o) by an own method; static methods; the head's Hook. -/
namespace LyC
open PySem PySem.Spec PyProof.Rows L2
section
variable (CX : CXT) (P : Program) (w : World) (K : PySem.W.Frag) (mg : Str → Option Value) (base : Heap)
/-- a def of the module, called by its name -/
structure Cl (k : Nat) (x : Str) (sp : Sp) (dvs : List V) : Prop where
  ex : ∃ (f : Addr) (fd : FuncData) (ps : List Str) (ds : List Value), FnOk P w K mg base CX k f fd ps sp ∧ mg x = some (.ref f) ∧ PySem.W.keepIn K (.ref f) = true ∧ Binds K fd ps ds ∧ Vals dvs ds
/-- a method of the class at C -/
structure Me (k : Nat) (C : Addr) (m : Str) (sp : Sp) (dvs : List V) : Prop where
  ex : ∃ (f : Addr) (fd : FuncData) (ps : List Str) (ds : List Value), Cls K C ∧ Meth K C m f ∧ FnOk P w K mg base CX k f fd ps sp ∧ Binds K fd ps ds ∧ Vals dvs ds
/-- a class made by its name -/
structure Ma (k : Nat) (x : Str) (C : Addr) (sp : Sp) (dvs : List V) : Prop where
  ex : ∃ (f : Addr) (fd : FuncData) (ps : List Str) (ds : List Value), Mk K C f ∧ FnOk P w K mg base CX k f fd ps sp ∧ mg x = some (.ref C) ∧ Binds K fd ps ds ∧ Vals dvs ds
/-- a static method -/
structure Sm (k : Nat) (x : Str) (C : Addr) (m : Str) (sp : Sp) (dvs : List V) : Prop where
  ex : ∃ (p f : Addr) (fd : FuncData) (ps : List Str) (ds : List Value) (rest : List Value) (mc : Value), mg x = some (.ref C) ∧ ClX.CRead K C mc ∧
    PySem.W.findCls K (.ref C) mc m = some (.get (.builtin "staticmethod.__get__") (.ref p) .none (.ref C)) ∧ PySem.W.recIn K p "staticmethod" = some (.ref f :: rest) ∧ PySem.W.keepIn K (.ref f) = true ∧
    FnOk P w K mg base CX k f fd ps sp ∧ Binds K fd ps ds ∧ Vals dvs ds
end
/-- what is raised, wished for at the slots -/
abbrev atSl (W : WX) : L2.St → XK := fun σ cls d H => W cls d σ H
section
variable {X : Cx} {k j : Nat} {C : Addr} {x m : Str} {sp : Sp} {dvs : List V} {p pos apos : Pos} {e o : Expr} {es : List Expr} {ta : TE} {t : TA} {W : WX}
theorem pe_f (c : Cl CX0 X.prog X.w X.K X.mg X.base k x sp dvs) (hr : Room j X.A) (ha : PA X (e :: es) t) (hk : k ≤ j := by decide) (hg : Gl X x := by rfl)
    (hdb : (x == ("__debug__" : Str)) = false := by decide) (he : starEach (e :: es) X.env = (false, eval e X.env) :: starEach es X.env := by rfl) (hpl : (backTo pos (starEach es X.env)).any (·.1) = false := by rfl) :
    PE X (.Call (.Name x p) (e :: es) [] pos) (tCall sp dvs E0 t) := by
  obtain ⟨f, fd, ps, ds, F, hm, kp, b, d⟩ := c.ex
  exact pe_call F (hr.mono hk) hg hm kp b d pass0 ha hdb he hpl
theorem pe_f0 (c : Cl CX0 X.prog X.w X.K X.mg X.base k x sp dvs) (hr : Room j X.A) (hk : k ≤ j := by decide) (hg : Gl X x := by rfl)
    (hdb : (x == ("__debug__" : Str)) = false := by decide) : PE X (.Call (.Name x p) [] [] pos) (tCall sp dvs E0 tNil) := by
  obtain ⟨f, fd, ps, ds, F, hm, kp, b, d⟩ := c.ex
  exact pe_call0 F (hr.mono hk) hg hm kp b d pass0 hdb
theorem pe_fX (c : Cl (L2.CX X.prog X.w) X.prog X.w X.K X.mg X.base k x sp dvs) (hr : Room j X.A) (tk : Takes X W) (ha : PA X (e :: es) t) (hk : k ≤ j := by decide) (hg : Gl X x := by rfl)
    (hdb : (x == ("__debug__" : Str)) = false := by decide) (he : starEach (e :: es) X.env = (false, eval e X.env) :: starEach es X.env := by rfl) (hpl : (backTo pos (starEach es X.env)).any (·.1) = false := by rfl) :
    PE X (.Call (.Name x p) (e :: es) [] pos) (tCallSD sp dvs (atSl W) t) := by
  obtain ⟨f, fd, ps, ds, F, hm, kp, b, d⟩ := c.ex
  exact pe_callSD F (hr.mono hk) hg hm kp b d (fun σ => passAt tk σ) ha hdb he hpl
theorem pe_m {pl : Sem Bool} (c : Me CX0 X.prog X.w X.K X.mg X.base k C m sp dvs) (hr : Room j X.A) (he : PE X o ta) (ha : PA X (e :: es) t) (hk : k ≤ j := by decide)
    (hst : starEach (e :: es) X.env = (false, eval e X.env) :: starEach es X.env := by rfl) (hpl : (backTo pos (starEach es X.env)).any (·.1) = false := by rfl)
    (ht : eval (.Call (.Attribute o m apos) (e :: es) [] pos) X.env = (do
      let ov ← eval o X.env
      standAt apos.atName
      let (f, first) ← holding [ov] (getMethod ov m pl)
      callWith pos f first (backTo pos (starEach (e :: es) X.env)) (backToKw pos (keywordEach [] X.env))) := by rfl) :
    PE X (.Call (.Attribute o m apos) (e :: es) [] pos) (tMeth C m sp dvs E0 ta t) := by
  obtain ⟨f, fd, ps, ds, hc, hm, F, b, d⟩ := c.ex
  exact pe_meth (pl := pl) he hc hm F (hr.mono hk) b d pass0 ha hst hpl ht
theorem pe_mz {pl : Sem Bool} (c : Me CX0 X.prog X.w X.K X.mg X.base k C m sp dvs) (hr : Room j X.A) (he : PE X o ta) (hk : k ≤ j := by decide)
    (ht : eval (.Call (.Attribute o m apos) [] [] pos) X.env = (do
      let ov ← eval o X.env
      standAt apos.atName
      let (f, first) ← holding [ov] (getMethod ov m pl)
      callWith pos f first (backTo pos (starEach [] X.env)) (backToKw pos (keywordEach [] X.env))) := by rfl) :
    PE X (.Call (.Attribute o m apos) [] [] pos) (tMeth C m sp dvs E0 ta tNil) := by
  obtain ⟨f, fd, ps, ds, hc, hm, F, b, d⟩ := c.ex
  exact pe_meth0 (pl := pl) he hc hm F (hr.mono hk) b d pass0 ht
theorem pe_k (c : Ma CX0 X.prog X.w X.K X.mg X.base k x C sp dvs) (hr : Room j X.A) (ha : PA X (e :: es) t) (hk : k + 1 ≤ j := by decide) (hg : Gl X x := by rfl)
    (hdb : (x == ("__debug__" : Str)) = false := by decide) (he : starEach (e :: es) X.env = (false, eval e X.env) :: starEach es X.env := by rfl) (hpl : (backTo pos (starEach es X.env)).any (·.1) = false := by rfl) :
    PE X (.Call (.Name x p) (e :: es) [] pos) (tMake C sp dvs E0 t) := by
  obtain ⟨f, fd, ps, ds, M, F, hm, b, d⟩ := c.ex
  exact pe_make M F (hr.mono hk) hg hm b d pass0 ha hdb he hpl
theorem pe_kz (c : Ma CX0 X.prog X.w X.K X.mg X.base k x C sp dvs) (hr : Room j X.A) (hk : k + 1 ≤ j := by decide) (hg : Gl X x := by rfl)
    (hdb : (x == ("__debug__" : Str)) = false := by decide) : PE X (.Call (.Name x p) [] [] pos) (tMake C sp dvs E0 tNil) := by
  obtain ⟨f, fd, ps, ds, M, F, hm, b, d⟩ := c.ex
  exact pe_make0 M F (hr.mono hk) hg hm b d pass0 hdb
/-- C.m(e, ..), m a static method that may raise -/
theorem pe_sX {pl : Sem Bool} (c : Sm (L2.CX X.prog X.w) X.prog X.w X.K X.mg X.base k x C m sp dvs) (hr : Room j X.A) (tk : Takes X W) (ha : PA X (e :: es) t) (hk : k ≤ j := by decide) (hg : Gl X x := by rfl)
    (hdb : (x == ("__debug__" : Str)) = false := by decide)
    (hst : starEach (e :: es) X.env = (false, eval e X.env) :: starEach es X.env := by rfl) (hpl : (backTo pos (starEach es X.env)).any (·.1) = false := by rfl)
    (ht : eval (.Call (.Attribute (.Name x p) m apos) (e :: es) [] pos) X.env = (do
      let ov ← eval (.Name x p) X.env
      standAt apos.atName
      let (f, first) ← holding [ov] (getMethod ov m pl)
      callWith pos f first (backTo pos (starEach (e :: es) X.env)) (backToKw pos (keywordEach [] X.env))) := by rfl) :
    PE X (.Call (.Attribute (.Name x p) m apos) (e :: es) [] pos) (tCallSD sp dvs (atSl W) t) := by
  obtain ⟨q, f, fd, ps, ds, rest, mc, hm, cr, fc, rc, kp, F, b, d⟩ := c.ex
  refine ⟨fun pins s σ H Q I h => ?_⟩
  refine PySem.W.methodCall_KW (pl := pl) (ld_glob I hg hm ?_ hdb) ht
  refine PySem.W.method_cls I.kIn cr.ga ?_
  refine PySem.W.cls_bind I.kIn cr.rd fc (wpAny_call (PySem.W.sm_get (s := { s with toks := s.toks + 1 }) I.kIn rc (PySem.W.handed_on rfl ?_)))
  show wpAny _ _ (callWith pos (Value.ref f) [] (backTo pos (starEach (e :: es) X.env)) []) _ _ _
  refine PySem.W.callWith_K (h₀ := X.base) I.ok.mod.kin kp (thn (ha.run pos pins _ σ H _ (I.tok _) h) fun us s1 z => ?_) hst hpl
  obtain ⟨vs, H1, I1, r, q1⟩ := z
  refine ⟨I1.kIn, ?_⟩
  exact run_fnSD F (hr.mono hk) b d (passAt tk σ) I1 r q1
end
/-! ### isinstance of a caught error -/
def rIsX (K : PySem.W.Frag) (D a : Addr) (d : Option Addr) : List V → Hp → VK → Prop := fun xs H Q => ∃ (c : V) (cv : Value) (b : Bool), xs = [.ref a, c] ∧ ClsV c cv ∧ PySem.W.kitOne K (.ref D) cv = some b ∧ (∀ dd, d = some dd → ∃ fs, H dd = some (.xd fs)) ∧ Q (.bl b) H
theorem call_isX {X : Cx} {a D : Addr} {d : Option Addr} {cls : Value} {oe : Obj} {pn : List (Addr × Obj)} (C : ExcC X.K D) (hc : cls = .ref D) (hz : Zc cls d oe) (hf : ∃ vs, oe.data = .fields vs) :
    CallR (X.suite a ((a, oe) :: pn)) (.builtin "isinstance") (rIsX X.K D a d) := by
  intro pins s σ H xs us Q I r h
  obtain ⟨c, cv, b, rfl, kc, e, hd, q⟩ := h
  subst hc
  obtain ⟨u1, u2, rfl, r1, r2⟩ := vals2 r
  have e2 := kc.eq r2
  subst e2
  obtain rfl : u1 = Value.ref a := r1
  obtain ⟨hget, _⟩ := I.pin (a, oe) (List.mem_append.mpr (.inl List.mem_cons_self))
  obtain ⟨vs, hv⟩ := hf
  have J : ∃ od, PySem.W.InstAt s.heap a oe D od := by
    cases d with
    | none => exact ⟨none, hget, hz.1, by unfold PySem.W.notCls; rw [hv] <;> rfl, by rw [hz.2]; trivial⟩
    | some dd =>
      obtain ⟨fs, ed⟩ := hd dd rfl
      have hx : ObjOk X.prog X.w H s.heap dd (.xd fs) := I.hok dd _ ed
      obtain ⟨mA, hns, hr⟩ := hx
      obtain ⟨od, ho, hl⟩ := lookIn_ns hns
      exact ⟨some od, hget, hz.1, by unfold PySem.W.notCls; rw [hv] <;> rfl, by rw [hz.2]; exact ho⟩
  obtain ⟨od, J⟩ := J
  have hcl : (PySem.W.clsIn X.K D).isSome = true := by
    have z := C.hd
    unfold PySem.W.hasDictIn at z
    cases e3 : PySem.W.clsIn X.K D with
    | none =>
      rw [e3] at z
      cases z
    | some cd => rfl
  exact PySem.W.kia_one (PySem.W.kitx_exc hcl C.hg C.hk C.hs C.ha C.hn C.ht C.hm) I.kIn J e (fun z => nomatch z) fun tk => ⟨.bl b, H, I.kept (t' := tk) fun _ _ z => z, rfl, q⟩
/-! ### str(o), by the class's own method -/
/-- an own str method that gives a text -/
def rStrO (C : Addr) (sp : Sp) : List V → Hp → VK → Prop := fun xs H Q => ∃ a dx fs, xs = [.ref a] ∧ H a = some (.ins C dx fs) ∧ sp [.ref a] H (fun v H' => ∃ z, v = .str z ∧ Q v H') (fun _ _ _ => False)
theorem call_strO {X : Cx} {C f : Addr} {k j : Nat} {fd : FuncData} {ps : List Str} {sp : Sp} (hs : PySem.W.findIn X.K (.ref C) "__str__" = some (some (.ref f))) (hf : PySem.W.isFn X.K (.ref f) = true)
    (F : FnOk X.prog X.w X.K X.mg X.base CX0 k f fd ps sp) (hb : Binds X.K fd ps []) (hr : Room (k + 2) X.A) : CallR X (.type "str") (rStrO C sp) := by
  intro pins s σ H xs us Q I r h
  obtain ⟨a, dx, fs, rfl, ha, h⟩ := h
  cases r with
  | @cons _ u _ ur ra rr =>
    cases rr
    obtain rfl : u = Value.ref a := ra
    obtain ⟨mA, O, _⟩ := ins_get I.hok ha
    obtain ⟨od, J, _⟩ := O.look
    refine PySem.W.kso_call (by have := hr.un; show X.A.units + 1 + 1 < cLine; omega) I.kIn J hs hf ?_
    have hl : ([Value.ref a] ++ []).length = ps.length := by
      have := F.len _ _ _ _ h
      rw [List.append_nil]
      exact this
    have b1 := hb s [.ref a] I.kIn hl
    rw [List.append_nil] at b1
    have e0 : Env0 X.prog X.w X.K X.mg X.base X.A.in1.in1 X.stack s H := ⟨I.env0.frames, I.env0.mod, I.env0.bs, I.env0.bsz, I.env0.funs, I.env0.frf, I.env0.hok, I.env0.bare⟩
    refine wpAny_call (codeAny_mono (F.run X.A.in1.in1 X.stack s H ⟨[.ref a], []⟩ [.ref a] [.ref a] _ _ hr.in1.in1 e0 b1 (.cons rfl .nil) h) fun r s' hq => ?_)
    cases r with
    | error e => exact hq.elim
    | ok fl =>
      cases fl with
      | ret u =>
        obtain ⟨v, H', J2, rv, z, ev, q⟩ := I.after hq
        subst ev
        obtain ⟨t, rfl⟩ := (show ∃ t, u = Value.str z t from rv)
        exact ⟨.str z, H', J2, ⟨t, rfl⟩, q⟩
      | next => exact False.elim hq
      | brk => exact False.elim hq
      | cont => exact False.elim hq
/-! ### the head's Hook: defs found by a path of one's own, one Bool -/
structure DefP where
  at_ : PySem.W.Frag → Addr
  name : Str
  qual : Str
  params : Arguments
  body : List Stmt
  scope : Scope
  dfl : List He.Dv := []
  kwd : List (Str × He.Dv) := []
def fnA (K : PySem.W.Frag) (a : Addr) : He.FnW := match K.lookup a with
  | some ⟨_, _, .func fd, _⟩ => some (fd.name, fd.qualname, fd.params, fd.body, fd.scope, fd.globals, fd.closure, fd.builtins)
  | _ => none
def DefP.val (d : DefP) : He.FnW := some (d.name, d.qual, d.params, .stmts d.body, d.scope, mainGlobals, [], builtinsNs)
def DefP.dvs (K : PySem.W.Frag) (d : DefP) : List V := d.dfl.map (He.Dv.v K)
def DefP.kws (K : PySem.W.Frag) (d : DefP) : List (Str × V) := d.kwd.map fun q => (q.1, q.2.v K)
def DefP.ok (K : PySem.W.Frag) (d : DefP) : Bool := PySem.W.keepIn K (.ref (d.at_ K)) && (match K.lookup (d.at_ K) with
  | some ⟨_, _, .func fd, _⟩ => PySem.W.codeIn K fd.code d.qual && (He.dflB K fd.defaults (d.dvs K) && He.kwdB K fd.kwdefaults (d.kws K))
  | _ => false)
theorem DefP.funD {K : PySem.W.Frag} {d : DefP} (e : fnA K (d.at_ K) = d.val) (c : d.ok K = true) : ∃ fd, FunD K d.name d.qual d.params d.body d.scope (d.dvs K) (d.kws K) (d.at_ K) fd := by
  obtain ⟨kp, c2⟩ := He.ba c
  unfold fnA at e
  cases q : K.lookup (d.at_ K) with
  | none =>
    rw [q] at c2
    cases c2
  | some o =>
    obtain ⟨oc, od, dt, osl⟩ := o
    rw [q] at c2 e
    cases dt with
    | func fd =>
      obtain ⟨n1, n2, n3, n4, n5, n6, n7, n8, n9, n10, n11, n12, n13, n14, n15⟩ := fd
      have e2 : (some (n1, n2, n3, n4, n5, n6, n7, n15) : He.FnW) = some (d.name, d.qual, d.params, .stmts d.body, d.scope, mainGlobals, [], builtinsNs) := e
      simp only [Option.some.injEq, Prod.mk.injEq] at e2
      obtain ⟨a1, a2, a3, a4, a5, a6, a7, a8⟩ := e2
      subst a1 a2 a3 a4 a5 a6 a7 a8
      have c3 : (PySem.W.codeIn K n13 d.qual && (He.dflB K n8 (d.dvs K) && He.kwdB K n9 (d.kws K))) = true := c2
      obtain ⟨k1, k2⟩ := He.ba c3
      obtain ⟨k3, k4⟩ := He.ba k2
      exact ⟨_, ⟨oc, od, n8, n9, n10, n11, n12, n13, n14, osl, rfl, q, k1, He.dflB_ok k3, He.kwdB_ok k4⟩, kp⟩
    | _ => cases c2
abbrev AlL : Type := Bool × List He.FnW
def obsL (fn : List DefP) (ex : PySem.W.Frag → Bool) (K : PySem.W.Frag) : AlL := (ex K && fn.all fun d => d.ok K, fn.map fun d => fnA K (d.at_ K))
def valL (fn : List DefP) : AlL := (true, fn.map DefP.val)
def SaysL (fn : List DefP) (ex : PySem.W.Frag → Bool) (K : PySem.W.Frag) : Prop := obsL fn ex K = valL fn
def asL (g : Addr → Option Obj) (n : Nat) : List Addr := cStatics :: He.asD g n
def obsLG (n : Nat) (fn : List DefP) (ex : PySem.W.Frag → Bool) (g : Addr → Option Obj) : AlL := obsL fn ex (He.frG g (asL g n))
def hookL (n : Nat) (fn : List DefP) (ex : PySem.W.Frag → Bool) : PySem.W.Hook where
  α := AlL
  obs := fun s => obsLG n fn ex s.heap.get?
  val := fun _ => valL fn
  says := fun _ h => ∃ K : PySem.W.Frag, K.In h ∧ SaysL fn ex K
  of := fun _ _ e => ⟨_, He.frG_in, e⟩
  keeps := fun _ _ _ ⟨K, hK, c⟩ k => ⟨K, PySem.W.Frag.In.keeps hK k, c⟩
theorem obsLG_eq {n : Nat} {fn : List DefP} {ex : PySem.W.Frag → Bool} {g : Addr → Option Obj} {s : Shared} (h : ∀ a, g a = s.heap.get? a) : obsLG n fn ex g = (hookL n fn ex).obs s := by
  have e : g = s.heap.get? := funext h
  rw [e] <;> rfl
section
variable {fn : List DefP} {ex : PySem.W.Frag → Bool} {K : PySem.W.Frag}
theorem SaysL.more (c : SaysL fn ex K) : ex K = true := (He.ba (show (ex K && fn.all fun d => d.ok K) = true from congrArg (fun z : AlL => z.1) c)).1
theorem SaysL.def_ (c : SaysL fn ex K) (i : Nat) {d : DefP} (h : fn[i]? = some d := by rfl) : ∃ fd, FunD K d.name d.qual d.params d.body d.scope (d.dvs K) (d.kws K) (d.at_ K) fd := by
  have c2 := (He.ba (show (ex K && fn.all fun d => d.ok K) = true from congrArg (fun z : AlL => z.1) c)).2
  have e : fn.map (fun d => fnA K (d.at_ K)) = fn.map DefP.val := congrArg (fun z : AlL => z.2) c
  have e2 : (fn.map fun d => fnA K (d.at_ K))[i]? = (fn.map DefP.val)[i]? := by rw [e]
  rw [List.getElem?_map, List.getElem?_map, h] at e2
  exact DefP.funD (Option.some.inj e2) (List.all_eq_true.mp c2 d (List.mem_of_getElem? h))
end
/-! ### looks at classes -/
def excB (K : PySem.W.Frag) (D : Addr) : Bool := He.eqO (PySem.W.findIn K (.ref D) "__getattribute__") (some (some (.builtin "BaseException.__getattribute__"))) && (He.eqO (PySem.W.findIn K (.ref D) "__getattr__") (some none) &&
  (decide (PySem.W.subIn K (.ref D) (.type "BaseException") = some true) && (PySem.W.hasDictIn K D && (He.eqO (PySem.W.findIn K (.ref D) "__class__") (some (some (.builtin "object.__class__"))) &&
  (He.eqO (PySem.W.specialIn K (.builtin "object.__class__") "__get__") (some (some (.builtin "getset_descriptor.__get__"))) && (decide (PySem.W.takesIn K (.builtin "object.__class__") = some true) && decide (PySem.W.mroIn K D (.type "object") = some true)))))))
theorem excB_ok {K : PySem.W.Frag} {D : Addr} (h : excB K D = true) : ExcC K D := by
  obtain ⟨h1, h⟩ := He.ba h
  obtain ⟨h2, h⟩ := He.ba h
  obtain ⟨h3, h⟩ := He.ba h
  obtain ⟨h4, h⟩ := He.ba h
  obtain ⟨h5, h⟩ := He.ba h
  obtain ⟨h6, h⟩ := He.ba h
  obtain ⟨h7, h8⟩ := He.ba h
  exact ⟨He.eqO_ok h1, He.eqO_ok h2, of_decide_eq_true h3, h4, He.eqO_ok h5, He.eqO_ok h6, of_decide_eq_true h7, of_decide_eq_true h8⟩
def insB (K : PySem.W.Frag) (C : Addr) : Bool := (PySem.W.plainGet K C Str.empty && (PySem.W.hasDictIn K C && (PySem.W.plainOver K C && He.eqO (PySem.W.findIn K (.ref C) "__setattr__") (some (some (.builtin "object.__setattr__")))))) &&
  (He.eqO (PySem.W.findIn K (.ref C) "__class__") (some (some (.builtin "object.__class__"))) && (He.eqO (PySem.W.specialIn K (.builtin "object.__class__") "__get__") (some (some (.builtin "getset_descriptor.__get__"))) &&
  (decide (PySem.W.takesIn K (.builtin "object.__class__") = some true) && (decide (PySem.W.mroIn K C (.type "object") = some true) && decide (PySem.W.kitOne K (.ref C) (.ref C) = some true)))))
theorem insB_ok {K : PySem.W.Frag} {C : Addr} (h : insB K C = true) : C8.InsC K C := by
  obtain ⟨h1, h⟩ := He.ba h
  obtain ⟨c1, h1⟩ := He.ba h1
  obtain ⟨c2, h1⟩ := He.ba h1
  obtain ⟨c3, c4⟩ := He.ba h1
  obtain ⟨h2, h⟩ := He.ba h
  obtain ⟨h3, h⟩ := He.ba h
  obtain ⟨h4, h⟩ := He.ba h
  obtain ⟨h5, h6⟩ := He.ba h
  exact ⟨⟨c1, c2, c3, He.eqO_ok c4⟩, He.eqO_ok h2, He.eqO_ok h3, of_decide_eq_true h4, of_decide_eq_true h5, of_decide_eq_true h6⟩
def creadB (K : PySem.W.Frag) (C : Addr) : Bool := PySem.W.readsIn K C (.type "type") && He.eqO (PySem.W.specialIn K (.ref C) "__getattribute__") (some (some (.builtin "type.__getattribute__")))
theorem creadB_ok {K : PySem.W.Frag} {C : Addr} (h : creadB K C = true) : ClX.CRead K C (.type "type") := ⟨(He.ba h).1, He.eqO_ok (He.ba h).2⟩
def valB (K : PySem.W.Frag) (c : Value) (m : Str) (id : String) : Bool := match PySem.W.findCls K c (.type "type") m with
  | some (.val (.builtin i)) => decide (i = id)
  | _ => false
theorem valB_ok {K : PySem.W.Frag} {c : Value} {m : Str} {id : String} (h : valB K c m id = true) : PySem.W.findCls K c (.type "type") m = some (.val (.builtin id)) := by
  unfold valB at h
  split at h
  · rename_i i e
    rw [e, of_decide_eq_true h]
  · cases h
end LyC
/-! Helpers: comprehensions whose list alone is new; heaps. -/
namespace LyC
open PySem PySem.Spec PyProof.Rows L2
theorem Same.upd {H H1 : Hp} {p : Addr} {o : HO} (s : Same H H1) (n : H p = none) : Same H (L2.upd H1 p o) := fun b u e => by
  rw [upd_ne (ne_of_none e n)]
  exact s b u e
theorem same_new {H : Hp} {p : Addr} {o : HO} (n : H p = none) : Same H (L2.upd H p o) := Same.upd (Same.refl H) n
theorem Same.sqT {K : PySem.W.Frag} {H H' : Hp} {a : Addr} {xs : List V} (e : Same H H') (h : SqT K H a xs) : SqT K H' a xs := by
  rcases h with (h | ⟨o, h⟩) | h
  · exact .inl (.inl (e _ _ h))
  · exact .inl (.inr ⟨o, e _ _ h⟩)
  · exact .inr h
theorem inV_strs (z : Str) : ∀ xs : List Str, inV (.str z) (xs.map V.str) = decide (z ∈ xs)
  | [] => rfl
  | x :: xs => by
    have ih := inV_strs z xs
    unfold inV at ih ⊢
    rw [List.map_cons, List.any_cons, ih]
    by_cases c : z = x
    · subst c
      simp [eqV]
    · have c2 : ¬ x = z := fun q => c q.symm
      simp [eqV, c, c2]
theorem flat_strs (xs : List Str) : (xs.map V.str).all flatV = true := by
  rw [List.all_map]
  exact List.all_eq_true.mpr fun _ _ => rfl
/-- a built-in class's name as a value -/
theorem pe_ty {X : Cx} {x : Str} {pos : Pos} (n : String) (hg : Gl X x) (hm : X.mg x = none) (hv : bootBuiltins x = some (.type n)) (hn : x ≠ "__name__" := by decide) (hd : (x == ("__debug__" : Str)) = false := by decide) : PE X (.Name x pos) (tC (.ty n)) :=
  pe_bltn hg hm hv rfl hn hd
section
variable {X : Cx} {x z : Str} {pos : Pos} {i : Int} {a : Addr}
/-- constants of the module -/
theorem pe_gS (h : ∃ t, X.mg x = some (.str z t)) (hg : Gl X x := by rfl) (hd : (x == ("__debug__" : Str)) = false := by decide) : PE X (.Name x pos) (tC (.str z)) := by
  obtain ⟨t, h⟩ := h
  exact pe_glob hg h ⟨t, rfl⟩ hd
theorem pe_gI (h : ∃ t, X.mg x = some (.int i t)) (hg : Gl X x := by rfl) (hd : (x == ("__debug__" : Str)) = false := by decide) : PE X (.Name x pos) (tC (.int i)) := by
  obtain ⟨t, h⟩ := h
  exact pe_glob hg h ⟨t, rfl⟩ hd
theorem pe_gR (h : X.mg x = some (.ref a)) (hg : Gl X x := by rfl) (hd : (x == ("__debug__" : Str)) = false := by decide) : PE X (.Name x pos) (tC (.ref a)) := pe_glob hg h rfl hd
end
/-- a comprehension's word: D holds acc i behind i turns, all that was tracked ahead of it stays -/
def LcP (H1 : Hp) (D : Addr) (acc : Nat → List V) (i : Nat) (H : Hp) : Prop := Same H1 H ∧ H D = some (.lst (acc i))
section
variable {H1 H : Hp} {D : Addr} {acc : Nat → List V} {i : Nat} {y : V}
theorem lcp0 (hD : H1 D = none) (h0 : acc 0 = []) : LcP H1 D acc 0 (upd H1 D (.lst [])) := by
  refine ⟨same_new hD, ?_⟩
  rw [upd_same, h0]
theorem lcp_next (hD : H1 D = none) (s : Same H1 H) (d : H D = some (.lst (acc i))) (hl : (acc i).length < sizeLine) (e : acc (i + 1) = acc i ++ [y]) :
    ∃ ac, H D = some (.lst ac) ∧ ac.length < sizeLine ∧ LcP H1 D acc (i + 1) (upd H D (.lst (ac ++ [y]))) :=
  ⟨acc i, d, hl, Same.upd s hD, by rw [upd_same, e]⟩
theorem lcp_skip (s : Same H1 H) (d : H D = some (.lst (acc i))) (e : acc (i + 1) = acc i) : LcP H1 D acc (i + 1) H := ⟨s, by rw [e]; exact d⟩
end
/-- the first i of a list, mapped -/
def mapTo {α : Type} (f : α → V) (xs : List α) (i : Nat) : List V := (xs.take i).map f
theorem mapTo_zero {α : Type} (f : α → V) (xs : List α) : mapTo f xs 0 = [] := rfl
theorem mapTo_next {α : Type} {f : α → V} {xs : List α} {i : Nat} {x : α} (h : xs[i]? = some x) : mapTo f xs (i + 1) = mapTo f xs i ++ [f x] := by
  unfold mapTo
  rw [List.take_add_one, h, List.map_append]
  rfl
theorem mapTo_all {α : Type} (f : α → V) (xs : List α) : mapTo f xs xs.length = xs.map f := by
  unfold mapTo
  rw [List.take_length]
theorem mapTo_len {α : Type} (f : α → V) (xs : List α) (i : Nat) : (mapTo f xs i).length ≤ xs.length := by
  unfold mapTo
  rw [List.length_map, List.length_take]
  omega
/-- the first i of a list, those that pass, mapped -/
def filTo {α : Type} (p : α → Bool) (f : α → V) (xs : List α) (i : Nat) : List V := ((xs.take i).filter p).map f
theorem filTo_next {α : Type} {p : α → Bool} {f : α → V} {xs : List α} {i : Nat} {x : α} (h : xs[i]? = some x) : filTo p f xs (i + 1) = if p x = true then filTo p f xs i ++ [f x] else filTo p f xs i := by
  unfold filTo
  rw [List.take_add_one, h]
  by_cases c : p x = true
  · rw [if_pos c]
    simp [List.filter_append, c]
  · rw [if_neg c]
    simp [List.filter_append, c]
theorem filTo_all {α : Type} (p : α → Bool) (f : α → V) (xs : List α) : filTo p f xs xs.length = (xs.filter p).map f := by
  unfold filTo
  rw [List.take_length]
theorem filTo_len {α : Type} (p : α → Bool) (f : α → V) (xs : List α) (i : Nat) : (filTo p f xs i).length ≤ xs.length := by
  unfold filTo
  rw [List.length_map]
  exact Nat.le_trans (List.length_filter_le _ _) (by rw [List.length_take]; omega)
/-! ### flat values: no lists, dicts, tuples -/
theorem flat_isi {K : PySem.W.Frag} {H : Hp} {v : V} {c : String} (h : flatV v = true) (hc : c = "list" ∨ c = "dict" ∨ c = "tuple") : ∃ t, TyX K H v t ∧ PySem.W.kitOne K t (.type c) = some false := by
  cases v with
  | non => exact ⟨_, .base .non, by rcases hc with rfl | rfl | rfl <;> exact kit_ty (by decide +kernel)⟩
  | bl b => exact ⟨_, .base (.bl b), by rcases hc with rfl | rfl | rfl <;> exact kit_ty (by decide +kernel)⟩
  | int i => exact ⟨_, .base (.int i), by rcases hc with rfl | rfl | rfl <;> exact kit_ty (by decide +kernel)⟩
  | str x => exact ⟨_, .base (.str x), by rcases hc with rfl | rfl | rfl <;> exact kit_ty (by decide +kernel)⟩
  | _ => cases h
/-- a flat value is its own copy -/
def spOwn : Sp := fun vs H Q _ => ∃ (v : V) (d : Int), vs = [v, .int d] ∧ flatV v = true ∧ 0 < d ∧ Q v H
/-- an own exception's init, of a flat value -/
def spXI (C : Addr) (f : Str) : Sp := fun vs H Q _ => ∃ (a : Addr) (v : V), vs = [.ref a, v] ∧ flatV v = true ∧ H a = some (exo a C none) ∧ ∀ dx, H dx = none → dx ≠ a → Q .non (upd (upd H dx (exd dx [(f, v)])) a (exo a C (some dx)))
theorem mkx_go {C : Addr} {f : Str} {v : V} {H : Hp} {Q : XK} (hv : flatV v = true) (hq : ∀ d, H d = none → Q (.ref C) (some d) (upd H d (.xd [(f, v)]))) :
    [v].length ≤ 1000 ∧ ∀ a, H a = none → spXI C f (.ref a :: [v]) (upd H a (exo a C none))
      (fun u H2 => u = .non ∧ ∃ (d : Addr) (fs : List (Str × V)), H2 a = some (exo a C (some d)) ∧ H2 d = some (exd d fs) ∧ H d = none ∧ Q (.ref C) (some d) (upd (del H2 a) d (.xd fs))) (fun _ _ _ => False) := by
  refine ⟨by show 1 ≤ 1000; decide, fun a ha => ⟨a, v, rfl, hv, upd_same, fun dx n ne => ⟨rfl, dx, [(f, v)], upd_same, ?_, ?_, ?_⟩⟩⟩
  · rw [upd_ne ne, upd_same]
  · rw [upd_ne ne] at n
    exact n
  · have n2 : H dx = none := by
      rw [upd_ne ne] at n
      exact n
    have e : upd (del (upd (upd (upd H a (exo a C none)) dx (exd dx [(f, v)])) a (exo a C (some dx))) a) dx (.xd [(f, v)]) = upd H dx (.xd [(f, v)]) := by
      funext b
      by_cases hb : b = dx
      · subst hb
        rw [upd_same, upd_same]
      · rw [upd_ne hb, upd_ne hb]
        by_cases ha2 : b = a
        · subst ha2
          rw [del_same, ha]
        · rw [del_ne ha2, upd_ne ha2, upd_ne hb, upd_ne ha2]
    rw [e]
    exact hq dx n2
/-- an own exception class, made by its name -/
structure Ex (P : Program) (w : World) (K : PySem.W.Frag) (mg : Str → Option Value) (base : Heap) (k : Nat) (x : Str) (C : Addr) (D : String) (sp : Sp) : Prop where
  ox : LyX.OxC K C D
  ex : ∃ (fI : Addr) (fd : FuncData) (ps : List Str), PySem.W.findIn K (.ref C) "__init__" = some (some (.ref fI)) ∧ PySem.W.typeIn K (.ref fI) = some (.type "function") ∧ FnOk P w K mg base CX0 k fI fd ps sp ∧ Binds K fd ps [] ∧ mg x = some (.ref C)
theorem pass00 {X : Cx} : Passes CX0 X (fun _ _ _ => False) := fun _ _ _ _ _ _ _ h => h.elim
theorem ps_rz {X : Cx} {W : WX} {k j : Nat} {x : Str} {C : Addr} {D : String} {sp : Sp} {e : Expr} {es : List Expr} {ta : TA} {p p2 pos : Pos} (c : Ex X.prog X.w X.K X.mg X.base k x C D sp) (hr : Room j X.A) (tk : Takes X W) (ha : PA X (e :: es) ta) (hk : k + 1 ≤ j := by decide) (hc : X.calm = true := by rfl) (hg : Gl X x := by rfl)
    (hdb : (x == ("__debug__" : Str)) = false := by decide) (he : starEach (e :: es) X.env = (false, eval e X.env) :: starEach es X.env := by rfl) (hpl : (backTo p2 (starEach es X.env)).any (·.1) = false := by rfl) :
    PS X (.Raise (some (.Call (.Name x p) (e :: es) [] p2)) none pos) (fun _ σ H => LyX.tMkX C sp ta σ H fun cls d H' => W cls d σ H') := by
  obtain ⟨fI, fd, ps, h1, h2, F, b, hm⟩ := c.ex
  exact ps_raise hc tk (LyX.pmk_ox c.ox h1 h2 F (hr.mono hk) b pass00 hg hm ha hdb he hpl)
end LyC
/-! A list of anything against the empty list. -/
namespace LyC
open PySem PySem.Spec PyProof.Rows L2
def rEqNil (K : PySem.W.Frag) : R2 := fun x y H Q => ∃ a b xs, x = .ref a ∧ y = .ref b ∧ SqL K H a xs ∧ SqL K H b [] ∧ Q (.bl xs.isEmpty) H
def rNeNil (K : PySem.W.Frag) : R2 := fun x y H Q => ∃ a b xs, x = .ref a ∧ y = .ref b ∧ SqL K H a xs ∧ SqL K H b [] ∧ Q (.bl (!xs.isEmpty)) H
section
variable {X : Cx}
theorem isL {pins : List (Addr × Obj)} {σ : L2.St} {H : Hp} {s : Shared} {a : Addr} {xs : List V} (I : Inv X pins σ H s) (h : SqL X.K H a xs) : ∃ its : List Value, Vals xs its ∧ s.heap.IsList a its.toArray := by
  obtain ⟨its, r, ⟨o, m, q1, q2, _, q3⟩, _⟩ := I.list h
  exact ⟨its, r, o, q1, q2, m, q3⟩
theorem op_eqNil (hu : X.A.units < cLine) : OpR X (compareOp .Eq) (rEqNil X.K) := by
  intro pins s σ H x y v u Q I rx ry h
  obtain ⟨a, b, xs, rfl, rfl, ha, hb, q⟩ := h
  obtain rfl : v = Value.ref a := rx
  obtain rfl : u = Value.ref b := ry
  obtain ⟨ia, ra, la⟩ := isL I ha
  obtain ⟨ib, rb, lb⟩ := isL I hb
  cases rb
  cases ra with
  | nil => exact SeqAt.eq_listAt (e := fun _ => true) la lb rfl hu (fun j h1 _ => absurd h1 (Nat.not_lt_zero _)) ⟨.bl true, H, I, rfl, q⟩
  | cons r t => exact SeqAt.eq_list_lengthsAt la lb (by simp) hu ⟨.bl false, H, I, rfl, q⟩
theorem op_neNil (hu : X.A.units < cLine) : OpR X (compareOp .NotEq) (rNeNil X.K) := by
  intro pins s σ H x y v u Q I rx ry h
  obtain ⟨a, b, xs, rfl, rfl, ha, hb, q⟩ := h
  obtain rfl : v = Value.ref a := rx
  obtain rfl : u = Value.ref b := ry
  obtain ⟨ia, ra, la⟩ := isL I ha
  obtain ⟨ib, rb, lb⟩ := isL I hb
  cases rb
  cases ra with
  | nil => exact SeqAt.RcNeAt.lists (e := fun _ => true) la lb rfl hu (fun j h1 _ => absurd h1 (Nat.not_lt_zero _)) _ _ _ _ ⟨.bl false, H, I, rfl, q⟩
  | cons r t => exact SeqAt.RcNeAt.lists_lengths la lb (by simp) hu _ _ _ _ ⟨.bl true, H, I, rfl, q⟩
end
/-- def f(a, b, c, *v): what it binds -/
theorem bind_star3 {B : List Value → Sem (List (Str × Value))} {p1 p2 p3 pv : Str} (h0 : ∀ a b c, B [a, b, c] = (newTuple [] >>= fun t => pure [(p1, a), (p2, b), (p3, c), (pv, t)]))
    (h1 : ∀ a b c r rs, B (a :: b :: c :: r :: rs) = (newTuple (r :: rs) >>= fun t => pure [(p1, a), (p2, b), (p3, c), (pv, t)])) :
    ∀ us rest : List Value, us.length = [p1, p2, p3].length → B (us ++ rest) = (newTuple rest >>= fun t => pure ([p1, p2, p3].zip us ++ [(pv, t)]))
  | [a, b, c], [], _ => h0 a b c
  | [a, b, c], r :: rs, _ => h1 a b c r rs
theorem few_put {f : Str} {v : V} : ∀ {fs : List (Str × V)} {n : Nat}, fs.length ≤ n → (putF f v fs).length ≤ n + 1
  | [], n, _ => by
    show 1 ≤ n + 1
    omega
  | (g, u) :: fs, n, h => by
    have h2 : fs.length + 1 ≤ n := h
    show (if g = f then (g, v) :: fs else (g, u) :: putF f v fs).length ≤ n + 1
    by_cases c : g = f
    · rw [if_pos c]
      show fs.length + 1 ≤ n + 1
      omega
    · rw [if_neg c]
      have ih := few_put (f := f) (v := v) (fs := fs) (n := fs.length) (Nat.le_refl _)
      show (putF f v fs).length + 1 ≤ n + 1
      omega
theorem few {fs : List (Str × V)} {n : Nat} (h : fs.length ≤ n) (hn : n < 1000 := by decide) : fs.length < 1000 := Nat.lt_of_le_of_lt h hn
/-! ### tuples of flat values, item by item -/
def eqVs : List V → List V → Bool
  | [], [] => true
  | x :: xs, y :: ys => eqV x y && eqVs xs ys
  | _, _ => false
theorem eqVs_range : ∀ xs ys : List V, ((List.range (min xs.length ys.length)).all (fun j => eqV (xs.getD j .non) (ys.getD j .non)) && xs.length == ys.length) = eqVs xs ys
  | [], [] => rfl
  | [], _ :: _ => rfl
  | _ :: _, [] => rfl
  | x :: xs, y :: ys => by
    have ih := eqVs_range xs ys
    show _ = (eqV x y && eqVs xs ys)
    rw [← ih, List.length_cons, List.length_cons, show min (xs.length + 1) (ys.length + 1) = min xs.length ys.length + 1 by omega, List.range_succ_eq_map, List.all_cons, List.all_map]
    have e : (xs.length + 1 == ys.length + 1) = (xs.length == ys.length) := by simp
    rw [e, Bool.and_assoc]
    rfl
theorem eqVs_strs : ∀ as bs : List Str, eqVs (as.map V.str) (bs.map V.str) = decide (as = bs)
  | [], [] => rfl
  | [], _ :: _ => rfl
  | _ :: _, [] => rfl
  | a :: as, b :: bs => by
    show ((a == b) && eqVs (as.map V.str) (bs.map V.str)) = _
    rw [eqVs_strs as bs]
    by_cases h : a = b
    · subst h
      simp
    · simp [h]
theorem vals_getD : ∀ {xs : List V} {us : List Value}, Vals xs us → ∀ (j : Nat) (h : j < us.length), RelV (xs.getD j .non) us[j]
  | _, _, .nil, j, h => absurd h (Nat.not_lt_zero _)
  | _, _, .cons r _, 0, _ => r
  | _, _, .cons _ t, j + 1, h => vals_getD t j (Nat.lt_of_succ_lt_succ h)
theorem flat_getD : ∀ {xs : List V}, xs.all flatV = true → ∀ j, flatV (xs.getD j .non) = true
  | [], _, _ => rfl
  | _ :: _, h, 0 => (Bool.and_eq_true _ _ ▸ (List.all_cons ▸ h)).1
  | _ :: xs, h, j + 1 => flat_getD (xs := xs) (Bool.and_eq_true _ _ ▸ (List.all_cons ▸ h)).2 j
def rEqT (K : PySem.W.Frag) : R2 := fun x y H Q => ∃ a b xs ys, x = .ref a ∧ y = .ref b ∧ SqT K H a xs ∧ SqT K H b ys ∧ xs.all flatV = true ∧ ys.all flatV = true ∧ Q (.bl (eqVs xs ys)) H
section
variable {X : Cx}
theorem rc_tup {A : Around} {pins : List (Addr × Obj)} {σ : L2.St} {H : Hp} {s : Shared} {a b : Addr} {xs ys : List V} (hu : A.units < cLine) (I : Inv X pins σ H s) (ha : SqT X.K H a xs) (hb : SqT X.K H b ys) (fx : xs.all flatV = true) (fy : ys.all flatV = true) :
    SeqAt.RcAt A s (.ref a) (.ref b) (eqVs xs ys) := by
  obtain ⟨ia, ra, la, _⟩ := I.tuple ha
  obtain ⟨ib, rb, lb, _⟩ := I.tuple hb
  have := SeqAt.RcAt.tuples (A := A) (e := fun j => eqV (xs.getD j .non) (ys.getD j .non)) la lb hu (fun j h1 h2 => by
    simp only [List.getElem_toArray]
    exact eqAt_V (vals_getD ra j (by simpa using h1)) (vals_getD rb j (by simpa using h2)) (flat_getD fx j) (flat_getD fy j))
  rw [List.size_toArray, List.size_toArray, ← ra.length, ← rb.length, eqVs_range] at this
  exact this
theorem op_eqT (hu : X.A.units < cLine) : OpR X (compareOp .Eq) (rEqT X.K) := by
  intro pins s σ H x y v u Q I rx ry h
  obtain ⟨a, b, xs, ys, rfl, rfl, ha, hb, fx, fy, q⟩ := h
  obtain rfl : v = Value.ref a := rx
  obtain rfl : u = Value.ref b := ry
  exact rc_tup hu I ha hb fx fy _ _ _ _ ⟨.bl _, H, I, rfl, q⟩
/-- a tuple of texts in a list of such tuples -/
def rInTs (K : PySem.W.Frag) : R2 := fun x y H Q => ∃ a p qs t ts, x = .ref a ∧ y = .ref p ∧ SqL K H p (qs.map V.ref) ∧ SqT K H a (t.map V.str) ∧ Paired (fun q (z : List Str) => SqT K H q (z.map V.str)) qs ts ∧ Q (.bl (decide (t ∈ ts))) H
theorem strs_inj : ∀ {a b : List Str}, a.map V.str = b.map V.str → a = b
  | [], [], _ => rfl
  | a :: as, b :: bs, h => by
    injection h with h1 h2
    rw [V.str.inj h1, strs_inj h2]
theorem flat_strm (xs : List Str) : (xs.map V.str).all flatV = true := by
  induction xs with
  | nil => rfl
  | cons x xs ih => exact ih
open Classical in
theorem op_inTs (hu : X.A.units + 1 < cLine) : OpR X (compareOp .In) (rInTs X.K) := by
  intro pins s σ H x y v u Q I rx ry h
  obtain ⟨a, p, qs, t, ts, rfl, rfl, hp, ha, hq, q⟩ := h
  obtain rfl : v = Value.ref a := rx
  obtain rfl : u = Value.ref p := ry
  obtain ⟨its, r, pl, _⟩ := I.list hp
  let e : Value → Bool := fun v => decide (∃ b, v = .ref b ∧ SqT X.K H b (t.map V.str))
  have el : ∀ {qs : List Addr} {ts : List (List Str)} {its : List Value}, Paired (fun q (z : List Str) => SqT X.K H q (z.map V.str)) qs ts → Vals (qs.map V.ref) its → (∀ v ∈ its, SeqAt.EqAt X.A.in1 s v (.ref a) (e v)) ∧ its.any e = decide (t ∈ ts) := by
    intro qs ts its hq
    induction hq generalizing its with
    | nil =>
      intro r
      cases r
      exact ⟨fun _ h => (nomatch h), rfl⟩
    | @cons b z qs ts hb _ ih =>
      intro r
      cases r with
      | @cons _ v _ its r1 r2 =>
        obtain ⟨i1, i2⟩ := ih r2
        obtain rfl : v = Value.ref b := r1
        have ee : e (.ref b) = decide (z = t) := by
          by_cases c : z = t
          · subst c
            rw [decide_eq_true (p := z = z) rfl]
            exact decide_eq_true ⟨b, rfl, hb⟩
          · rw [decide_eq_false c]
            refine decide_eq_false ?_
            rintro ⟨b', h1, h2⟩
            cases h1
            exact c (strs_inj (I.tuple_inj hb h2))
        refine ⟨fun v hv => ?_, ?_⟩
        · rcases List.mem_cons.mp hv with rfl | hv
          · rw [ee]
            by_cases c : b = a
            · subst c
              rw [decide_eq_true (strs_inj (I.tuple_inj hb ha))]
              exact SeqAt.EqAt.same _
            · rw [← eqVs_strs]
              exact SeqAt.EqAt.of_refs c (rc_tup (by show X.A.units + 1 < cLine; exact hu) I hb ha (flat_strm _) (flat_strm _))
          · exact i1 v hv
        · rw [List.any_cons, i2, ee]
          by_cases c : z = t
          · subst c
            simp
          · have c2 : ¬ t = z := fun h => c h.symm
            simp [c, c2]
  obtain ⟨e1, e2⟩ := el hq r
  refine SeqAt.in_listAt e pl.isList (fun w hw => e1 w (by simpa using hw)) ⟨.bl _, H, I, rfl, ?_⟩
  rw [show its.toArray.any e = its.any e by simp, e2]
  exact q
end
theorem vals_by : ∀ {xs : List V} {us : List Value}, xs.length = us.length → (∀ (j : Nat) (x : V) (u : Value), xs[j]? = some x → us[j]? = some u → RelV x u) → Vals xs us
  | [], [], _, _ => .nil
  | x :: xs, u :: us, h, r => .cons (r 0 x u rfl rfl) (vals_by (Nat.succ.inj h) fun j y v h1 h2 => r (j + 1) y v h1 h2)
/-- list(text) -/
theorem call_listS {X : Cx} (hc : X.calm = true) : CallR X (.type "list") (fun xs H Q => ∃ z : Str, xs = [.str z] ∧ z.length ≤ sizeLine ∧ ∀ l, H l = none → Q (.ref l) (upd H l (.lst (z.cps.toList.map fun c => V.str ⟨#[c]⟩)))) := by
  intro pins s σ H xs us Q I r h
  obtain ⟨z, rfl, hz, q⟩ := h
  obtain ⟨u, rfl, t, rfl⟩ := vals1 r
  refine call_list_str (I.ok.hd hc) z t (fun h' tk acc c kp e it => ?_) hz
  have rv : Vals (z.cps.toList.map fun c => V.str ⟨#[c]⟩) acc.toList := by
    refine vals_by ?_ fun j x u h1 h2 => ?_
    · rw [List.length_map, Array.length_toList, Array.length_toList, it.1]
    · rw [Array.getElem?_toList] at h2
      obtain ⟨c, t2, h3, rfl⟩ := it.2 j u h2
      rw [List.getElem?_map, Array.getElem?_toList, h3] at h1
      cases h1
      exact ⟨t2, rfl⟩
  refine ⟨.ref s.heap.objs.size, _, I.laid (t' := tk) kp (Nat.le_refl _) (show ObjOk X.prog X.w _ h' _ (.lst (z.cps.toList.map fun c => V.str ⟨#[c]⟩)) from ⟨?_, acc.toList, c, rv, by rw [Array.toArray_toList]; exact e⟩), rfl, q _ (I.hok.fresh (Nat.le_refl _))⟩
  rw [List.length_map, Array.length_toList]
  exact hz
/-- isinstance of a caught error, its class asked of the reading -/
theorem call_isX2 {X : Cx} {a D : Addr} {d : Option Addr} {cls : Value} {oe : Obj} {pn : List (Addr × Obj)} (C : ExcC X.K D) (hz : Zc cls d oe) (hf : ∃ vs, oe.data = .fields vs) :
    CallR (X.suite a ((a, oe) :: pn)) (.builtin "isinstance") (fun xs H Q => cls = .ref D ∧ rIsX X.K D a d xs H Q) := by
  intro pins s σ H xs us Q I r h
  exact call_isX C h.1 hz hf pins s σ H xs us Q I r h.2
end LyC
/-! A text times an int. -/
namespace LyS
open PySem PySem.Spec PyProof.Rows L2
def rRepS : R2 := fun x y H Q => ∃ (z : Str) (k : Int), x = .str z ∧ y = .int k ∧ -1000 ≤ k ∧ k ≤ 1000 ∧ z.length ≤ 1000 ∧ Q (.str (Txt.mul z k)) H
theorem mulOk {z : Str} {k : Int} (h1 : -1000 ≤ k) (h2 : k ≤ 1000) (hz : z.length ≤ 1000) : MulOk z k := by
  have e : (2 : Int) ^ 63 = 9223372036854775808 := by decide
  refine ⟨?_, fun c _ => ?_, fun c _ => ?_⟩
  · rw [decide_eq_false (by rw [e]; omega), decide_eq_false (by rw [e]; omega)]
    rfl
  · rw [e]
    have h3 : (1000 : Int) ≤ (9223372036854775808 - 1) / k := (Int.le_ediv_iff_mul_le (by omega)).mpr (by omega)
    omega
  · have h3 : z.length * k.toNat ≤ 1000 * 1000 := Nat.mul_le_mul hz (by omega)
    show decide _ = false
    refine decide_eq_false ?_
    rw [sizeLine_eq]
    omega
theorem op_repS {X : Cx} : OpR X (binaryOp .Mult) rRepS := by
  intro pins s σ H x y v u Q I rx ry h
  obtain ⟨z, k, rfl, rfl, h1, h2, hz, q⟩ := h
  obtain ⟨t, rfl⟩ := rx
  obtain ⟨t2, rfl⟩ := ry
  exact SB.mul (mulOk h1 h2 hz) fun t' n => ⟨.str _, H, I.tok n, ⟨t', rfl⟩, q⟩
end LyS
/-! Sets of texts: made of a list, walked, sorted. -/
namespace LyS
open PySem PySem.Spec PyProof.Rows L2 PySem.Froz
def keyS (e : Int × Value) : Str := match e.2 with | .str z _ => z | _ => Str.empty
def isS (e : Int × Value) : Prop := ∃ z u, e.2 = Value.str z u
/-- the payload of a set of the texts l, and that it can be walked -/
structure Pay (P : Program) (w : World) (D : SD) (l : List Str) : Prop where
  tx : TxOk P w D l
  nd : l.Nodup
  few : l.length < 1000
  st : ∀ e ∈ D.1.toList, isS e
  pm : (D.1.toList.map keyS).Perm l
  ris : Ris D.2.2.place.toList
  led : w.params.followText "set-order" = true ∨ D.2.2.led = true
theorem Pay.empty {P : Program} {w : World} : Pay P w (#[], 0, SetTable.fresh 0 0 (!w.params.followText "set-order")) [] where
  tx := TxOk.nil rfl
  nd := List.nodup_nil
  few := by decide
  st := fun e he => by simp at he
  pm := .refl _
  ris := List.Pairwise.nil
  led := by
    cases h : w.params.followText "set-order" with
    | true => exact .inl rfl
    | false => exact .inr rfl
theorem tailT_perm (ep : Nat) (es : Array (Int × Value)) (t : SetTable) (b : Bool) : (tailTx ep es t b).1.toList.Perm es.toList := by
  unfold tailTx
  by_cases c : (!b && t.tooFull) = true
  · rw [if_pos c]
    exact relayAll_perm _ _ _
  · rw [if_neg c]
theorem tailT_ris (ep : Nat) (es : Array (Int × Value)) (t : SetTable) (b : Bool) (r : Ris t.place.toList) : Ris (tailTx ep es t b).2.2.place.toList ∧ (tailTx ep es t b).2.2.led = t.led := by
  unfold tailTx
  by_cases c : (!b && t.tooFull) = true
  · rw [if_pos c]
    exact ⟨relayAll_ris _ _ _, relayAll_led _ _ _⟩
  · rw [if_neg c]
    exact ⟨r, rfl⟩
theorem layT_perm (h : Int) (v : Value) (D : SD) : (addTx h v D).1.toList.Perm (D.1.push (h, v)).toList :=
  (tailT_perm _ _ _ _).trans (layNew_perm D.2.2 D.1 h v)
theorem plain_place (t : SetTable) : (if t.plain = true then { t with plain := false } else t).place = t.place ∧ (if t.plain = true then { t with plain := false } else t).led = t.led := by
  split <;> exact ⟨rfl, rfl⟩
theorem layT_ris (h : Int) (v : Value) (D : SD) (r : Ris D.2.2.place.toList) : Ris (addTx h v D).2.2.place.toList ∧ (addTx h v D).2.2.led = D.2.2.led := by
  have r1 := layNew_ris D.2.2 D.1 h v r
  have r2 := layNew_led D.2.2 D.1 h v
  obtain ⟨q1, q2⟩ := plain_place (layNew D.2.2 D.1 h v).2.1
  rw [← q1] at r1
  rw [← q2] at r2
  obtain ⟨z1, z2⟩ := tailT_ris D.2.1 (layNew D.2.2 D.1 h v).1 _ (layNew D.2.2 D.1 h v).2.2.1 r1
  exact ⟨z1, z2.trans r2⟩
theorem Pay.add {P : Program} {w : World} {D : SD} {l : List Str} (F : Pay P w D l) {k : Str} (hk : k ∉ l) (hl : l.length + 1 < 1000) (u : Tok) : Pay P w (addTx (hashStr w k) (.str k u) D) (k :: l) := by
  have p := layT_perm (hashStr w k) (.str k u) D
  obtain ⟨r1, r2⟩ := layT_ris (hashStr w k) (.str k u) D F.ris
  rw [Array.toList_push] at p
  refine ⟨add_ok u F.tx, List.nodup_cons.mpr ⟨hk, F.nd⟩, hl, fun e he => ?_, ?_, r1, F.led.imp id fun z => r2.trans z⟩
  · rcases List.mem_append.mp (p.mem_iff.mp he) with z | z
    · exact F.st e z
    · rw [List.mem_singleton.mp z]
      exact ⟨k, u, rfl⟩
  · refine (p.map keyS).trans ?_
    rw [List.map_append]
    refine List.perm_append_comm.trans ?_
    exact F.pm.cons k
section
variable {P : Program} {w : World} {A : Around} {E : Value → Shared → Prop} {s : Shared}
theorem few_scan {n : Nat} (h : n < 1000) : n < scanBound := by
  unfold scanBound
  omega
/-- a text that is there is added: nothing happens -/
theorem add_old {a : Addr} {T : String} {D : SD} {l : List Str} {k : Str} {u : Tok} {Q : Bool → Shared → Prop} (ho : s.heap.get? a = some (sObj T D)) (F : TxOk P w D l) (hk : k ∈ l) (hb : l.length < scanBound)
    (h : Q false s) : wpAny (model P w) A (setAddHashed a (.str k u) (hashStr w k)) Q E s := by
  obtain ⟨es, ep, t⟩ := D
  have sz : es.size = l.length := F.sz
  have found : ∃ j, List.findIdx? (fun e => (strKind P w).is k e.2) es.toList = some j := by
    obtain ⟨e, he, q⟩ := (F.mem k).mp hk
    cases r : List.findIdx? (fun e => (strKind P w).is k e.2) es.toList with
    | some j => exact ⟨j, rfl⟩
    | none =>
      have z := List.findIdx?_eq_none_iff.mp r e he
      rw [q] at z
      cases z
  obtain ⟨j, hj⟩ := found
  unfold setAddHashed setAddHashedIn
  refine wpAny_holding (wpAny_bind (wpAny_setState_of ho (show (sObj T (es, ep, t)).data = .set es ep t from rfl) F.fit ?_))
  dsimp only
  rw [byScan_of (x := Value.str k u) rfl (show es.size < scanBound by omega) F.el]
  simp only [↓reduceIte]
  unfold setAddByScan
  refine wpAny_bind (wpAny_bind (wpAny_rule (wpAny_bind (wpAny_setScan_of (knd := strKind P w) (is_str k u) ho (show (sObj T (es, ep, t)).data = .set es ep t from rfl) F.fit F.el ?_))))
  rw [hj]
  exact wpAny_pure (wpAny_pure h)
/-- the texts l at a -/
def SetS (P : Program) (w : World) (h : Heap) (a : Addr) (l : List Str) : Prop := ∃ D, h.get? a = some (sObj "set" D) ∧ Pay P w D l
def putS (l : List Str) (k : Str) : List Str := if k ∈ l then l else k :: l
theorem putS_mem (l : List Str) (k x : Str) : x ∈ putS l k ↔ x = k ∨ x ∈ l := by
  unfold putS
  split
  · rename_i h
    exact ⟨.inr, fun z => z.elim (fun e => e ▸ h) id⟩
  · exact List.mem_cons
theorem putS_len (l : List Str) (k : Str) : (putS l k).length ≤ l.length + 1 := by
  unfold putS
  split
  · exact Nat.le_succ _
  · exact Nat.le_refl _
/-- a text is added, its hash known -/
theorem setS_add {a : Addr} {l : List Str} {k : Str} {u : Tok} {Q : Bool → Shared → Prop} (R : SetS P w s.heap a l) (hl : l.length + 1 < 1000)
    (h : ∀ b h', Heap.SameBut a s.heap h' → SetS P w h' a (putS l k) → Q b { s with heap := h' }) : wpAny (model P w) A (setAddHashed a (.str k u) (hashStr w k)) Q E s := by
  obtain ⟨D, ho, F⟩ := R
  by_cases c : k ∈ l
  · refine add_old ho F.tx c (few_scan F.few) ?_
    refine h false s.heap (Heap.SameBut.refl a s.heap) ⟨D, ho, ?_⟩
    unfold putS
    rw [if_pos c]
    exact F
  · refine add_x ho F.tx c (few_scan hl) ?_
    refine h true _ (Heap.SameBut.update _ a _) ⟨_, get_upd _ ho rfl, ?_⟩
    unfold putS
    rw [if_neg c]
    exact F.add c hl u
end
/-- the texts met, the last one first -/
def metS (xs : List Str) : List Str := xs.foldl putS []
theorem metS_next (xs : List Str) (x : Str) : metS (xs ++ [x]) = putS (metS xs) x := by
  unfold metS
  rw [List.foldl_append]
  rfl
theorem metS_mem (xs : List Str) : ∀ x, x ∈ metS xs ↔ x ∈ xs := by
  have : ∀ (xs acc : List Str) (x : Str), x ∈ xs.foldl putS acc ↔ x ∈ xs ∨ x ∈ acc := by
    intro xs
    induction xs with
    | nil => exact fun acc x => ⟨.inr, fun z => z.elim (fun h => nomatch h) id⟩
    | cons y ys ih =>
      intro acc x
      rw [List.foldl_cons, ih, putS_mem, List.mem_cons]
      constructor
      · rintro (z | z | z)
        · exact .inl (.inr z)
        · exact .inl (.inl z)
        · exact .inr z
      · rintro ((z | z) | z)
        · exact .inr (.inl z)
        · exact .inl z
        · exact .inr (.inr z)
  intro x
  rw [metS, this]
  exact ⟨fun z => z.elim id (fun h => nomatch h), .inl⟩
theorem metS_len (xs : List Str) : (metS xs).length ≤ xs.length := by
  have : ∀ (xs acc : List Str), (xs.foldl putS acc).length ≤ xs.length + acc.length := by
    intro xs
    induction xs with
    | nil => intro acc; exact Nat.le_of_eq (Nat.zero_add _).symm
    | cons y ys ih =>
      intro acc
      rw [List.foldl_cons, List.length_cons]
      have h1 := ih (putS acc y)
      have h2 := putS_len acc y
      omega
  have := this xs []
  rw [List.length_nil] at this
  exact this
section
variable {P : Program} {w : World} {A : Around}
/-- set.update's loop over texts -/
theorem loopS {R : Result → Shared → Prop} {I : Addr} {fp wr : List Addr} {G : Array GenState → Array GenState → Prop} {n : Nat} {Pv : Nat → Value → Prop} {St : Nat → Shared → Prop} (W : WalksS P w A.in1 I fp wr G n Pv St) (a : Addr) (ha : a ∉ fp)
    (xs : List Str) (hn : xs.length = n) (hv : ∀ i v, Pv i v → ∃ x u, xs[i]? = some x ∧ v = Value.str x u) (hx : xs.length + 1 < 1000) :
    ∀ (m i : Nat) (s : Shared), n - i = m → i ≤ n → St i s → SetS P w s.heap a (metS (xs.take i)) →
      (∀ s', Moved (a :: wr) G s s' → SetS P w s'.heap a (metS xs) → R (.ok (.ret .none)) s') → codeAny (model P w) A (.builtin "set.update.loop" ⟨[.ref a, .ref I], []⟩) R s := by
  have haw : a ∉ wr := fun z => ha (W.sub _ z)
  have sub : ∀ b ∈ wr, b ∈ a :: wr := fun b z => List.mem_cons_of_mem _ z
  have keepS : ∀ {s s' : Shared} {l : List Str}, Moved wr G s s' → SetS P w s.heap a l → SetS P w s'.heap a l := fun mv z => by
    obtain ⟨D, h1, h2⟩ := z
    exact ⟨D, mv.heap a _ haw h1, h2⟩
  intro m
  induction m with
  | zero =>
    intro i s e hi st hS k
    obtain rfl : i = n := by omega
    refine codeAny_builtin PyProof.Rows.F.entry_set_update_loop ?_
    rw [Around.under_plainId PyProof.Rows.F.plain_set_update_loop _]
    refine wpAny_bind (m := pyNext (.ref I)) (W.done s _ _ st fun s' mv => ?_)
    have hS' := keepS mv hS
    rw [List.take_of_length_le (Nat.le_of_eq hn)] at hS'
    exact wpAny_pure (k s' (mv.mono sub) hS')
  | succ m ih =>
    intro i s e hi st hS k
    have lt : i < n := by omega
    refine codeAny_builtin PyProof.Rows.F.entry_set_update_loop ?_
    rw [Around.under_plainId PyProof.Rows.F.plain_set_update_loop _]
    refine wpAny_bind (m := pyNext (.ref I)) (W.item i s _ _ lt st fun v s' hp st' mv => ?_)
    obtain ⟨x, u, hxi, rfl⟩ := hv i v hp
    have hS' := keepS mv hS
    have et : xs.take (i + 1) = xs.take i ++ [x] := by
      rw [List.take_add_one, hxi]
      rfl
    have hl : (metS (xs.take i)).length + 1 < 1000 := by
      have := metS_len (xs.take i)
      rw [List.length_take] at this
      omega
    show wpAny _ A.in1 (holding [Value.str x u] (setAdd a (.str x u)) >>= _) _ _ s'
    refine wpAny_bind (wpAny_holding ?_)
    unfold setAdd
    refine wpAny_holding (wpAny_bind ((strKind P w).pyHash (is_str x u) ?_))
    refine setS_add (s := { s' with toks := s'.toks + 1 }) hS' hl fun b h' sb hS2 => ?_
    rw [← metS_next, ← et] at hS2
    refine wpAny_pure ⟨plainId_quiet PyProof.Rows.F.plain_set_update_loop _, ih (i + 1) _ (by omega) lt (W.frame _ s' _ _ st' (Nat.le_succ _) fun b hb o eo => ?_) hS2 fun s'' mv2 hS3 => ?_⟩
    · rw [sb.2 b (fun z : b = a => ha (z ▸ hb))]
      exact eo
    · refine k s'' (Moved.trans W.gtrans ((mv.mono sub).then_heap (Nat.le_succ _) fun b o hb eo => ?_) mv2) hS3
      rw [sb.2 b (fun z : b = a => hb (z ▸ List.mem_cons_self))]
      exact eo
/-- a fresh set object -/
abbrev newS (w : World) : Obj := sObj "set" (#[], 0, SetTable.fresh 0 0 (!w.params.followText "set-order"))
/-- the set's init over a list of texts, the set being the heap's last object -/
theorem initS {s : Shared} {l : Addr} {its : Array Value} {xs : List Str} {h0 : Heap} {R : Result → Shared → Prop} (hh : A.handled = none) (hl : h0.IsList l its) (hs : s.heap = h0.push (newS w)) (hi : ∀ (i : Nat) (v : Value), its[i]? = some v → ∃ x u, xs[i]? = some x ∧ v = Value.str x u) (hn : xs.length = its.size) (hx : xs.length + 1 < 1000)
    (k : ∀ (h' : Heap) (tk : Nat), SetS P w h' h0.objs.size (metS xs) → (∀ b o, h0.get? b = some o → h'.get? b = some o) → R (.ok (.ret .none)) { s with heap := h', toks := tk }) :
    codeAny (model P w) A (.call (.builtin "set.__init__") ⟨[.ref h0.objs.size, .ref l], []⟩) R s := by
  have at_ : s.heap.get? h0.objs.size = some (newS w) := by
    rw [hs]
    exact Heap.get?_push_size _ rfl
  have hl1 : s.heap.IsList l its := by
    rw [hs]
    exact hl.push _
  refine codeAny_call_builtin F.called_set.init.plain F.entry_set_init (check_set_init_1 ⟨_, at_, rfl⟩ ?_)
  obtain ⟨ol, q1, q2, nl, q3⟩ := id hl
  have ll : l < h0.objs.size := Heap.lt_size q1
  have sz : s.heap.objs.size = h0.objs.size + 1 := by
    rw [hs, Heap.size_push]
  have hT : s.TypeIs (.ref l) "list" := hl1.typeIs
  have n1 := F.sub_list_set
  have n2 := F.sub_list_frozenset
  have n3 : (Value.type "list" == Value.type "dict") = false := by decide
  unfold Builtin.«set.__init__» noKeywords Builtin.Frozenset.updateFrom
  generalize hPI : pyIter = PI
  wp_walk
  subst hPI
  refine wpAny_pyIter_list hl1 (wpAny_bind (wpAny_runValue ?_))
  have ne : l ≠ s.heap.objs.size := by
    rw [sz]
    exact Nat.ne_of_lt (Nat.lt_succ_of_lt ll)
  have out : h0.objs.size ∉ [s.heap.objs.size, l] := fun z => by
    simp only [List.mem_cons, List.not_mem_nil, or_false] at z
    rcases z with z | z
    · rw [sz] at z
      exact absurd z (Nat.ne_of_lt (Nat.lt_succ_self _))
    · exact absurd z.symm (Nat.ne_of_lt ll)
  refine loopS (Pv := fun i v => its[i]? = some v) ((Walks.list (by simp [hh]) s.heap.objs.size l ne its).toS) h0.objs.size out xs hn hi hx (its.size - 0) 0 _ rfl (Nat.zero_le _) ⟨⟨_, Heap.get?_push_size _ rfl, rfl, rfl⟩, hl1.push _⟩ ⟨_, Heap.get?_push_of_some _ at_, Pay.empty⟩ fun s' mv hS => ?_
  obtain ⟨h', g', d', tk', os'⟩ := s'
  obtain rfl : g' = s.gens := mv.gens
  obtain rfl : d' = s.drawn := mv.drawn
  obtain rfl : os' = s.os := mv.os
  refine wpAny_pure (wpAny_pure (k h' tk' hS fun b o e => ?_))
  have lb := Heap.lt_size e
  refine mv.heap b o (fun z => ?_) (Heap.get?_push_of_some _ ?_)
  · simp only [List.mem_cons, List.not_mem_nil, or_false] at z
    rcases z with z | z
    · exact absurd z (Nat.ne_of_lt lb)
    · have z2 : b = s.heap.objs.size := z
      rw [sz] at z2
      exact absurd z2 (Nat.ne_of_lt (Nat.lt_succ_of_lt lb))
  · show s.heap.get? b = some o
    rw [hs]
    exact Heap.get?_push_of_some _ e
/-- set(xs), xs a list of texts -/
theorem call_setL {E : Value → Shared → Prop} {s : Shared} {l : Addr} {its : Array Value} {xs : List Str} {Q : Value → Shared → Prop} (hh : A.handled = none) (hl : s.heap.IsList l its) (hi : ∀ (i : Nat) (v : Value), its[i]? = some v → ∃ x u, xs[i]? = some x ∧ v = Value.str x u) (hn : xs.length = its.size) (hx : xs.length + 1 < 1000)
    (h : ∀ (h' : Heap) (tk : Nat), SetS P w h' s.heap.objs.size (metS xs) → (∀ b o, s.heap.get? b = some o → h'.get? b = some o) → Q (.ref s.heap.objs.size) { s with heap := h', toks := tk }) :
    wpAny (model P w) A (call (.type "set") [.ref l]) Q E s := by
  obtain ⟨c, tl, m1⟩ := F.called_set.mro
  have m2 := F.called_set.made
  have m3 := F.called_set.sub
  have m4 := F.called_set.notType
  have m5 := F.called_set.canCreate
  have m6 := F.typeCall_set_1 (.ref l)
  have m7 := F.called_set.init.lookup
  have m8 := F.called_set.init.bind (.ref s.heap.objs.size)
  refine wpAny_call (codeAny_of_tree (show wpAny _ _ (callAny (.type "set") _) _ _ _ from wpAny_pure ⟨Code.quiet_builtin _ (by decide +kernel), codeAny_builtin F.entry_type_call ?_⟩))
  rw [Around.under_plain (weight_type_call_type "set" [.ref l] []) rfl]
  repeat (any_goals (first | assumption | wp_step))
  refine codeAny_mono (code_set_led1 (.ref l) (E := E) (Q₁ := fun u s1 => u = .ref s.heap.objs.size ∧ s1 = { s with heap := s.heap.push (newS w) }) ⟨rfl, rfl⟩) fun r s1 hr => ?_
  cases r with
  | error e => exact hr
  | ok fl =>
    cases fl with
    | next => exact False.elim hr
    | brk => exact False.elim hr
    | cont => exact False.elim hr
    | ret u =>
      obtain ⟨rfl, rfl⟩ := hr
      have ty : Shared.TypeIs { s with heap := s.heap.push (newS w) } (.ref s.heap.objs.size) "set" := ⟨_, Heap.get?_push_size _ rfl, rfl⟩
      repeat (any_goals (first | assumption | wp_step))
      refine codeAny_mono (initS (s := { s with heap := s.heap.push (newS w) }) (h0 := s.heap) (R := wants (fun v s2 => v = .none ∧ ∃ h' tk, s2 = { s with heap := h', toks := tk } ∧ SetS P w h' s.heap.objs.size (metS xs) ∧ ∀ b o, s.heap.get? b = some o → h'.get? b = some o) E) (by simp [hh]) hl rfl hi hn hx fun h' tk z1 z2 => ⟨rfl, h', tk, rfl, z1, z2⟩) fun r2 s2 hr2 => ?_
      cases r2 with
      | error e => exact hr2
      | ok fl2 =>
        cases fl2 with
        | next => exact False.elim hr2
        | brk => exact False.elim hr2
        | cont => exact False.elim hr2
        | ret v =>
          obtain ⟨rfl, h', tk, rfl, z1, z2⟩ := hr2
          repeat (any_goals (first | assumption | wp_step))
          exact h h' tk z1 z2
end
/-! ### over the layer -/
def SetO (P : Program) (w : World) (a : Addr) (l : List Str) : HO := .ext fun h => SetS P w h a l
theorem setS_keep {P : Program} {w : World} {h h' : Heap} {a : Addr} {l : List Str} (R : SetS P w h a l) (k : ∀ o, h.get? a = some o → h'.get? a = some o) : SetS P w h' a l := by
  obtain ⟨D, h1, h2⟩ := R
  exact ⟨D, k _ h1, h2⟩
theorem setO_new {P : Program} {w : World} {H : Hp} {h : Heap} {a : Addr} {l : List Str} (R : SetS P w h a l) : ObjOk P w H h a (SetO P w a l) := by
  have ⟨D, h1, _⟩ := R
  exact ⟨R, ⟨_, h1⟩, fun _ _ p k => setS_keep p k⟩
/-- set(xs) -/
def rSetL (K : PySem.W.Frag) (P : Program) (w : World) : List V → Hp → VK → Prop := fun xs H Q => ∃ (a : Addr) (zs : List Str), xs = [.ref a] ∧ SqL K H a (zs.map V.str) ∧ zs.length + 1 < 1000 ∧ ∀ p, H p = none → Q (.ref p) (upd H p (SetO P w p (metS zs)))
theorem cr_setL {X : Cx} (hc : X.calm = true) : CallR X (.type "set") (rSetL X.K X.prog X.w) := by
  intro pins s σ H xs us Q I r h
  obtain ⟨a, zs, rfl, ha, hz, q⟩ := h
  obtain rfl := Vals.ref1 r
  obtain ⟨its, rv, pl, _⟩ := I.list ha
  have el := rv.length
  rw [List.length_map] at el
  refine call_setL (I.ok.hd hc) (its := its.toArray) (xs := zs) pl.isList (fun i v hv => ?_) (by rw [List.size_toArray]; exact el) hz fun h' tk R kp => ?_
  · have hv2 : its[i]? = some v := by simpa using hv
    have hi : i < its.length := (List.getElem?_eq_some_iff.mp hv2).1
    have e1 : (zs.map V.str)[i]? = some (V.str zs[i]) := by
      rw [List.getElem?_map, List.getElem?_eq_getElem (by omega)]
      rfl
    have := LyC.vals_getD rv i hi
    rw [List.getD_eq_getElem?_getD, e1] at this
    obtain ⟨u, hu⟩ := this
    refine ⟨zs[i], u, List.getElem?_eq_getElem (by omega), ?_⟩
    rw [← hu]
    exact ((List.getElem?_eq_some_iff.mp hv2).2).symm
  · exact ⟨.ref _, _, I.laid (t' := tk) kp (Nat.le_refl _) (setO_new R), rfl, q _ (I.hok.fresh (Nat.le_refl _))⟩
/-- the texts of a list of values -/
theorem strs_of : ∀ (vs : List Value), (∀ v ∈ vs, ∃ z u, v = Value.str z u) → ∃ zs, StrsAre vs zs ∧ zs = vs.map fun v => keyS (0, v)
  | [], _ => ⟨[], .nil, rfl⟩
  | v :: vs, h => by
    obtain ⟨z, u, rfl⟩ := h v List.mem_cons_self
    obtain ⟨zs, h1, h2⟩ := strs_of vs fun x hx => h x (List.mem_cons_of_mem _ hx)
    exact ⟨z :: zs, .cons _ _ h1, by rw [List.map_cons, ← h2]; rfl⟩
/-- sorted(a set of fewer than 64 texts) -/
def rSortS (P : Program) (w : World) : List V → Hp → VK → Prop := fun xs H Q => ∃ (a : Addr) (l : List Str), xs = [.ref a] ∧ H a = some (SetO P w a l) ∧ l.length < 64 ∧ ∀ ys p, ys.Perm l → sortedS ys = true → H p = none → Q (.ref p) (upd H p (.lst (ys.map V.str)))
theorem cr_sortS {X : Cx} (hc : X.calm = true) : CallR X (.builtin "sorted") (rSortS X.prog X.w) := by
  intro pins s σ H xs us Q I r h
  obtain ⟨a, l, rfl, ha, h64, q⟩ := h
  obtain rfl := Vals.ref1 r
  obtain ⟨D, hD, F⟩ : SetS X.prog X.w s.heap a l := (I.hok a _ ha).1
  obtain ⟨es, ep, t⟩ := D
  have sz : es.size = l.length := F.tx.sz
  refine Calls.call_function_entry kind_sorted plain_sorted entry_sorted (args_sorted1 _) ?_
  unfold Builtin.«sorted»
  refine wpAny_bind (m := checkCount "sorted" 1 1 _) (wpAny_pure (wpAny_bind (collect_set (es := es) (ep := ep) (t := t) (I.ok.hd hc) ⟨_, hD, rfl, rfl⟩ F.tx.fit (by rw [sz]; exact few_scan F.few) F.ris F.led fun s1 out kp bg gs os pm => ?_)))
  have allS : ∀ v ∈ out, ∃ z u, v = Value.str z u := fun v hv => by
    obtain ⟨e, he, rfl⟩ := List.mem_map.mp (pm.mem_iff.mp hv)
    exact F.st e he
  obtain ⟨zs, hS, ez⟩ := strs_of out allS
  have pz : zs.Perm l := by
    rw [ez]
    have p2 := pm.map fun v => keyS (0, v)
    rw [List.map_map] at p2
    exact p2.trans F.pm
  have ol : out.length = l.length := by rw [pm.length_eq, List.length_map, Array.length_toList, sz]
  have big : s.heap.objs.size ≤ s1.heap.objs.size := bg
  refine wpAny_bind (wpAny_newList ?_ (by rw [ol, sizeLine_eq]; omega))
  have hoL : (s1.heap.push (seqObj "list" out.toArray 0)).get? s1.heap.objs.size = some (seqObj "list" out.toArray 0) := Heap.get?_push_size _ rfl
  refine wpAny_bind (wpAny_holding (wpAny_call_entry slot_list_sort ⟨_, hoL, rfl⟩ entry_list_sort
    (list_sort_treeK strKind_oneLt (s := { s1 with heap := s1.heap.push (seqObj "list" out.toArray 0) }) hoL hS.keysOf (fun v₁ v₂ rest e => keyKind_strs (by rw [← e]; exact hS)) (by rw [ol]; exact h64) fun st hp hs => ⟨_, rfl, ?_⟩) (args_list_sort _)))
  obtain ⟨ys, g1, g2, g3⟩ := sorted_out_str hS hp hs
  obtain ⟨c, hc2⟩ := sortedHeap_at (vs := out) (out := (arrOf st).map (·.2)) hoL
  have hlen : (ys.map V.str).length ≤ sizeLine := by
    rw [List.length_map, g2.length_eq, pz.length_eq, sizeLine_eq]
    omega
  have hn : H s1.heap.objs.size = none := I.hok.fresh big
  have kk : ∀ b u, s.heap.get? b = some u → (sortedHeap (s1.heap.push (seqObj "list" out.toArray 0)) s1.heap.objs.size out ((arrOf st).map (·.2))).get? b = some u := fun b u e => by
    have e2 := kp b u e
    have lt := Heap.lt_size e2
    rw [sortedHeap_old (Nat.ne_of_lt lt) (by rw [size_push']; exact Nat.lt_succ_of_lt lt)]
    exact Heap.get?_push_of_some _ e2
  have J : Inv X pins σ (upd H s1.heap.objs.size (.lst (ys.map V.str))) { s with heap := sortedHeap (s1.heap.push (seqObj "list" out.toArray 0)) s1.heap.objs.size out ((arrOf st).map (·.2)), gens := s1.gens, drawn := s1.drawn, toks := s1.toks } :=
    I.call (ch := []) (Un.laid kk big hn) (I.hok.laid kk big ⟨hlen, ((arrOf st).map (·.2)).toList, c, vals_of_strs g1, by rw [Array.toArray_toList]; exact hc2⟩) (by rw [gs]; exact I.bare) (fun _ z => nomatch z)
  obtain ⟨h1, gn1, dr1, tk1, os1⟩ := s1
  obtain rfl : os1 = s.os := os
  exact wpAny_pure ⟨_, rfl, .ref _, _, J, rfl, q ys _ (g2.trans pz) g3 hn⟩
end LyS
/-! Own objects: ==, != by an own __eq__ of any answer; len(o) by an own __len__. -/
namespace LyO
open PySem PySem.Spec PyProof.Rows L2
section
variable {prog : Program} {w : World} {A : Around} {E : Value → Shared → Prop} {s : Shared} {K : PySem.W.Frag} {x C f L : Addr} {h₀ : Heap} {m : Str → Option Value} {ox : Obj} {od : Option Obj} {b tb : Value}
/-- the inherited != , by the own == -/
theorem obj_ne {Q : Value → Shared → Prop} (hu : A.units + 1 < cLine) (X : K.In s.heap) (I : PySem.W.InstAt s.heap x ox C od) (hs : PySem.W.findIn K (.ref C) "__eq__" = some (some (.ref f))) (hf : PySem.W.isFn K (.ref f) = true) (hm : PySem.W.mroIn K C (.type "object") = some true)
    (h : wpAny (model prog w) A.in1 (call (.ref f) [.ref x, b]) (fun v s' => ∃ r, v = .bool r ∧ Q (.bool (!r)) s') E s) : wpAny (model prog w) A (call (.builtin "object.__ne__") [.ref x, b]) Q E s := by
  have sl := PySem.F.cmp_object.ne
  have io : PySem.W.Looks (model prog w) s.heap (isInstance (.ref x) (.type "object")) true := I.type.andThen (PySem.W.looks_mroIn X hm)
  refine wpAny_call (codeAny_call_builtin sl.plain PySem.F.cmpEntry_ne (@PySem.W.check_slot (model prog w) _ _ s "object.__ne__" "object" "__ne__" (.ref x) [b] [] _ PySem.F.cmpKind_ne PySem.F.cmpSplit_ne io (PySem.F.cmpArgs_ne _ _) ?_))
  unfold Builtin.«object.__ne__»
  refine wpAny_bind (wpAny_pure ?_)
  refine wpAny_bind (wpAny_cRoomFor (by show A.units + 1 < cLine; exact hu) ?_)
  refine wpAny_bind (PySem.W.ifBound_K X I hs hf (wpAny_mono h (fun v s' z => ?_) fun _ _ e => e))
  obtain ⟨r, rfl, q⟩ := z
  exact wpAny_bind (wpAny_truthy_bool (wpAny_pure q))
theorem rc_ne {Q : Value → Shared → Prop} (hu : A.units + 1 < cLine) (X : K.In s.heap) (I : PySem.W.InstAt s.heap x ox C od) (hb : PySem.W.Looks (model prog w) s.heap (typeOf b) tb) (hn : PySem.W.notFirst K C tb = true) (hd : PySem.W.findIn K (.ref C) "__ne__" = some (some (.builtin "object.__ne__")))
    (hs : PySem.W.findIn K (.ref C) "__eq__" = some (some (.ref f))) (hf : PySem.W.isFn K (.ref f) = true) (hm : PySem.W.mroIn K C (.type "object") = some true)
    (h : wpAny (model prog w) A.in1 (call (.ref f) [.ref x, b]) (fun v s' => ∃ r, v = .bool r ∧ Q (.bool (!r)) s') E s) : wpAny (model prog w) A (richCompare .NotEq (.ref x) b) Q E s := by
  have sl := PySem.F.cmp_object.ne
  have cl := obj_ne (prog := prog) (A := A) (E := E) (b := b) (Q := fun v s' => (∃ r, v = .bool r) ∧ Q v s') hu X I hs hf hm (wpAny_mono h (fun v s' z => by
    obtain ⟨r, e, q⟩ := z
    exact ⟨r, e, ⟨_, rfl⟩, q⟩) fun _ _ e => e)
  have one : wpAny (model prog w) A (tryCompare (.ref x) (cmpInfo .NotEq).2.1 b) (fun r s' => ∃ v, r = some v ∧ Q v s') E s := by
    unfold tryCompare
    have bd : wpAny (model prog w) A (callSpecialIfBound? (.ref x) (cmpInfo .NotEq).2.1 [b]) (fun r s' => ∃ q, r = some (.bool q) ∧ Q (.bool q) s') E s := by
      have fin : wpAny (model prog w) A (call (.builtin "object.__ne__") ([.ref x] ++ [b]) >>= fun v => pure (some v)) (fun r s' => ∃ q, r = some (.bool q) ∧ Q (.bool q) s') E s :=
        wpAny_bind (wpAny_mono cl (fun v s' z => by
          obtain ⟨⟨r, rfl⟩, q⟩ := z
          exact wpAny_pure ⟨r, rfl, q⟩) fun _ _ e => e)
      simp only [callSpecialIfBound?, bindSpecialIfBound?]
      refine wpAny_holding (wpAny_bind (wpAny_bind (wpAny_bind (I.type.here ((PySem.W.looks_findIn X hd).here ?_)))))
      simp only [sl.bind]
      refine wpAny_bind (wpAny_askSetting (wpAny_ite ?_))
      split
      · exact wpAny_bind (wpAny_pure (wpAny_pure (by exact fin)))
      · exact wpAny_tryCatch (wpAny_bind (wpAny_pure (wpAny_pure (by exact fin))))
    refine wpAny_bind (wpAny_mono bd (fun r s' z => ?_) fun _ _ e => e)
    obtain ⟨q, rfl, hq⟩ := z
    exact wpAny_pure ⟨_, rfl, hq⟩
  have go : ∀ {k : Option Value → Sem Value}, (∀ v, k (some v) = pure v) → wpAny (model prog w) A (tryCompare (.ref x) (cmpInfo .NotEq).2.1 b >>= k) Q E s := fun {k} ek =>
    wpAny_bind (wpAny_mono one (fun r t z => by
      obtain ⟨v, rfl, hq⟩ := z
      rw [ek]
      exact wpAny_pure hq) fun _ _ e => e)
  unfold richCompare
  simp only [oneThing_ref]
  refine wpAny_holding (wpAny_bind (wpAny_cRoomFor (by omega) (wpAny_bind (I.type.here (wpAny_bind (hb.here ?_))))))
  by_cases q : tb = .ref C
  · subst q
    rw [if_neg (by simp)]
    refine wpAny_bind (wpAny_pure ?_)
    rw [if_neg (by simp)]
    exact go fun _ => rfl
  · have e : PySem.W.subIn K tb (.ref C) = some false := (Bool.or_eq_true_iff.mp hn).elim (fun z => absurd (beq_iff_eq.mp z) q) beq_iff_eq.mp
    split
    · refine wpAny_bind ((PySem.W.looks_subIn X e).here ?_)
      rw [if_neg (by simp)]
      exact go fun _ => rfl
    · refine wpAny_bind (wpAny_pure ?_)
      rw [if_neg (by simp)]
      exact go fun _ => rfl
end
/-- what stands on the other side -/
inductive Oth (K : PySem.W.Frag) (H : Hp) (C : Addr) : V → Value → Prop
  | str (z : Str) : Oth K H C (.str z) (.type "str")
  | tup {a : Addr} {xs : List V} : H a = some (.tup xs) → Oth K H C (.ref a) (.type "tuple")
  | ins {a dx : Addr} {fs : List (Str × V)} : H a = some (.ins C dx fs) → Oth K H C (.ref a) (.ref C)
section
variable {X : Cx} {n : Nat} {C f : Addr} {fd : FuncData} {ps : List Str} {sp : Sp}
theorem oth_looks {pins : List (Addr × Obj)} {σ : L2.St} {H : Hp} {s : Shared} {y : V} {u tb : Value} (I : Inv X pins σ H s) (ry : RelV y u) (o : Oth X.K H C y tb) : PySem.W.Looks (model X.prog X.w) s.heap (typeOf u) tb ∧ PySem.W.notFirst X.K C tb = true := by
  cases o with
  | str z =>
    obtain ⟨t, rfl⟩ := ry
    refine ⟨PySem.W.Looks.of_pure rfl, ?_⟩
    show (_ || ((fastBuiltinMro "str").map (·.contains (.ref C)) == some false)) = true
    rw [show fastBuiltinMro "str" = some [.type "str", .type "object"] by decide +kernel]
    rfl
  | @tup a xs h =>
    obtain rfl : u = Value.ref a := ry
    obtain ⟨its, _, ⟨o, ho, hc, _⟩, _⟩ := I.tuple (SqT.of h)
    refine ⟨by rw [← hc]; exact (PySem.W.Looks.ld ho).andThen .now, ?_⟩
    show (_ || ((fastBuiltinMro "tuple").map (·.contains (.ref C)) == some false)) = true
    rw [show fastBuiltinMro "tuple" = some [.type "tuple", .type "object"] by decide +kernel]
    rfl
  | @ins a dx fs h =>
    obtain rfl : u = Value.ref a := ry
    obtain ⟨mA, J, _⟩ := ins_get I.hok h
    obtain ⟨od, J, _⟩ := J.look
    exact ⟨J.type, by simp [PySem.W.notFirst]⟩
/-- the own == is run -/
theorem run_eq (F : FnOk X.prog X.w X.K X.mg X.base CX0 n f fd ps sp) (hb : Binds X.K fd ps []) {A : Around} (sb : Sub X n A) {pins : List (Addr × Obj)} {σ : L2.St} {H : Hp} {s : Shared} {x y : V} {u v : Value} {Q : VK} (I : Inv X pins σ H s) (rx : RelV x u) (ry : RelV y v)
    (h : sp [x, y] H Q fun _ _ _ => False) : wpAny (model X.prog X.w) A (call (.ref f) [u, v]) (fun r s' => ∃ z H', Inv X pins σ H' s' ∧ RelV z r ∧ Q z H') X.xe s := by
  have e0 : Env0 X.prog X.w X.K X.mg X.base A X.stack s H := by
    have e := I.env0
    exact ⟨by rw [sb.fr]; exact e.frames, e.mod, e.bs, e.bsz, e.funs, e.frf, e.hok, e.bare⟩
  have hl := F.len _ _ _ _ h
  refine wpAny_call (codeAny_mono (F.run A X.stack s H ⟨[u, v], []⟩ [u, v] [x, y] Q _ sb.room e0 (by
    have z := hb s [u, v] I.kIn (by simpa using hl)
    simpa using z) (.cons rx (.cons ry .nil)) h) fun r t hq => ?_)
  cases r with
  | error e => exact LyC.pass00 pins σ H s e t I hq
  | ok fl =>
    cases fl with
    | ret r =>
      obtain ⟨z, H', I', rz, q⟩ := I.after hq
      exact ⟨z, H', I', rz, q⟩
    | next => exact False.elim hq
    | brk => exact False.elim hq
    | cont => exact False.elim hq
structure EqC (K : PySem.W.Frag) (C f : Addr) : Prop where
  eq : PySem.W.findIn K (.ref C) "__eq__" = some (some (.ref f))
  fn : PySem.W.isFn K (.ref f) = true
  ne : PySem.W.findIn K (.ref C) "__ne__" = some (some (.builtin "object.__ne__"))
  ob : PySem.W.mroIn K C (.type "object") = some true
def rOwn (K : PySem.W.Frag) (C : Addr) (sp : Sp) (g : Bool → Bool) : R2 := fun x y H Q => ∃ (a dx : Addr) (fs : List (Str × V)) (tb : Value), x = .ref a ∧ H a = some (.ins C dx fs) ∧ Oth K H C y tb ∧ sp [.ref a, y] H (fun v H' => ∃ b, v = .bl b ∧ Q (.bl (g b)) H') fun _ _ _ => False
theorem op_ownEq (c : EqC X.K C f) (F : FnOk X.prog X.w X.K X.mg X.base CX0 n f fd ps sp) (hb : Binds X.K fd ps []) (hr : Room n X.A) : OpR X (compareOp .Eq) (rOwn X.K C sp id) := by
  intro pins s σ H x y v u Q I rx ry h
  obtain ⟨a, dx, fs, tb, rfl, ha, o, q⟩ := h
  obtain rfl : v = Value.ref a := rx
  obtain ⟨mA, J, _⟩ := ins_get I.hok ha
  obtain ⟨od, J, _⟩ := J.look
  obtain ⟨m, hF⟩ := I.fr
  obtain ⟨l1, l2⟩ := oth_looks I ry o
  refine PySem.W.cmp_K (op := .Eq) hr.units0 hF I.ok.mod.kin J l1 l2 c.eq c.fn (wpAny_mono (run_eq (x := .ref a) F hb ⟨hr, rfl⟩ I rfl ry q) (fun r t z => ?_) fun _ _ e => e)
  obtain ⟨w1, H1, I1, r1, b, rfl, hq⟩ := z
  obtain rfl : r = Value.bool b := r1
  exact ⟨.bl b, H1, I1, rfl, hq⟩
theorem op_ownNe (c : EqC X.K C f) (F : FnOk X.prog X.w X.K X.mg X.base CX0 n f fd ps sp) (hb : Binds X.K fd ps []) (hr : Room (n + 1) X.A) : OpR X (compareOp .NotEq) (rOwn X.K C sp not) := by
  intro pins s σ H x y v u Q I rx ry h
  obtain ⟨a, dx, fs, tb, rfl, ha, o, q⟩ := h
  obtain rfl : v = Value.ref a := rx
  obtain ⟨mA, J, _⟩ := ins_get I.hok ha
  obtain ⟨od, J, _⟩ := J.look
  obtain ⟨l1, l2⟩ := oth_looks I ry o
  have hu : X.A.units + 1 < cLine := by
    have := hr.units
    omega
  refine rc_ne hu I.kIn J l1 l2 c.ne c.eq c.fn c.ob (wpAny_mono (run_eq (x := .ref a) F hb (Sub.in1 (n := n) ⟨hr, rfl⟩) I rfl ry q) (fun r t z => ?_) fun _ _ e => e)
  obtain ⟨w1, H1, I1, r1, b, rfl, hq⟩ := z
  obtain rfl : r = Value.bool b := r1
  exact ⟨b, rfl, .bl (!b), H1, I1, rfl, hq⟩
/-- len(o) by an own __len__ -/
def rLenO (C : Addr) (sp : Sp) : List V → Hp → VK → Prop := fun xs H Q => ∃ (a dx : Addr) (fs : List (Str × V)), xs = [.ref a] ∧ H a = some (.ins C dx fs) ∧ sp [.ref a] H (fun v H' => ∃ i : Int, v = .int i ∧ 0 ≤ i ∧ i < 2 ^ 63 ∧ Q (.int i) H') fun _ _ _ => False
theorem call_lenO (hs : PySem.W.findIn X.K (.ref C) "__len__" = some (some (.ref f))) (hf : PySem.W.isFn X.K (.ref f) = true) (F : FnOk X.prog X.w X.K X.mg X.base CX0 n f fd ps sp) (hb : Binds X.K fd ps []) (hr : Room (n + 1) X.A) : CallR X (.builtin "len") (rLenO C sp) := by
  intro pins s σ H xs us Q I r h
  obtain ⟨a, dx, fs, rfl, ha, q⟩ := h
  obtain rfl := Vals.ref1 r
  obtain ⟨mA, J, _⟩ := ins_get I.hok ha
  obtain ⟨od, J, _⟩ := J.look
  obtain ⟨m, hF⟩ := I.fr
  have sb : Sub X n X.A.in1 := Sub.in1 (n := n) ⟨hr, rfl⟩
  have e0 : Env0 X.prog X.w X.K X.mg X.base X.A.in1 X.stack s H := by
    have e := I.env0
    exact ⟨by rw [sb.fr]; exact e.frames, e.mod, e.bs, e.bsz, e.funs, e.frf, e.hok, e.bare⟩
  have hl := F.len _ _ _ _ q
  refine PySem.W.len_K hF I.ok.mod.kin J hs hf (wpAny_call (codeAny_mono (F.run X.A.in1 X.stack s H ⟨[.ref a], []⟩ [.ref a] [.ref a] _ _ sb.room e0 (by
    have z := hb s [.ref a] I.kIn (by simpa using hl)
    simpa using z) (.cons rfl .nil) q) fun r t hq => ?_))
  cases r with
  | error e => exact LyC.pass00 pins σ H s e t I hq
  | ok fl =>
    cases fl with
    | ret r =>
      obtain ⟨z, H', I', rz, i, rfl, i0, i1, q2⟩ := I.after hq
      obtain ⟨tk, rfl⟩ := rz
      exact ⟨⟨i0, i1⟩, .int i, H', I'.tok _, ⟨_, rfl⟩, q2⟩
    | next => exact False.elim hq
    | brk => exact False.elim hq
    | cont => exact False.elim hq
end
end LyO
namespace LyC
open PySem PySem.Spec PyProof.Rows L2
section
variable {X : Cx} {k j : Nat} {C : Addr} {x m : Str} {sp : Sp} {dvs : List V} {p pos apos : Pos} {e : Expr} {es : List Expr} {t : TA}
theorem pass_no (σ : L2.St) : PassesAt (L2.CX X.prog X.w) X σ (WE (fun _ _ _ _ => False) σ) := fun _ _ _ e s' I c => by
  obtain ⟨_, _, _, _, _, _, _, _, _, _, _, _, h⟩ := c
  exact h.elim
/-- C.m(e, ..), m a static method that may raise, called where it doesn't -/
theorem pe_sN {pl : Sem Bool} (c : Sm (L2.CX X.prog X.w) X.prog X.w X.K X.mg X.base k x C m sp dvs) (hr : Room j X.A) (ha : PA X (e :: es) t) (hk : k ≤ j := by decide) (hg : Gl X x := by rfl)
    (hdb : (x == ("__debug__" : Str)) = false := by decide)
    (hst : starEach (e :: es) X.env = (false, eval e X.env) :: starEach es X.env := by rfl) (hpl : (backTo pos (starEach es X.env)).any (·.1) = false := by rfl)
    (ht : eval (.Call (.Attribute (.Name x p) m apos) (e :: es) [] pos) X.env = (do
      let ov ← eval (.Name x p) X.env
      standAt apos.atName
      let (f, first) ← holding [ov] (getMethod ov m pl)
      callWith pos f first (backTo pos (starEach (e :: es) X.env)) (backToKw pos (keywordEach [] X.env))) := by rfl) :
    PE X (.Call (.Attribute (.Name x p) m apos) (e :: es) [] pos) (tCallSD sp dvs (atSl fun _ _ _ _ => False) t) := by
  obtain ⟨q, f, fd, ps, ds, rest, mc, hm, cr, fc, rc, kp, F, b, d⟩ := c.ex
  refine ⟨fun pins s σ H Q I h => ?_⟩
  refine PySem.W.methodCall_KW (pl := pl) (ld_glob I hg hm ?_ hdb) ht
  refine PySem.W.method_cls I.kIn cr.ga ?_
  refine PySem.W.cls_bind I.kIn cr.rd fc (wpAny_call (PySem.W.sm_get (s := { s with toks := s.toks + 1 }) I.kIn rc (PySem.W.handed_on rfl ?_)))
  show wpAny _ _ (callWith pos (Value.ref f) [] (backTo pos (starEach (e :: es) X.env)) []) _ _ _
  refine PySem.W.callWith_K (h₀ := X.base) I.ok.mod.kin kp (thn (ha.run pos pins _ σ H _ (I.tok _) h) fun us s1 z => ?_) hst hpl
  obtain ⟨vs, H1, I1, r, q1⟩ := z
  refine ⟨I1.kIn, ?_⟩
  exact run_fnSD F (hr.mono hk) b d (pass_no σ) I1 r q1
end
end LyC
namespace Ly
open PySem PySem.Spec PyProof.Rows L2
def top (i : Nat) : Stmt := PySem.Challenge.pw_lateyields_k02_programs_read_and_shown.main.body.getD i (.Pass ⟨0, 0, 0, 0⟩)
abbrev s_is_integer : Stmt := top 5
abbrev s_is_made_of : Stmt := top 6
abbrev s_is_name : Stmt := top 7
abbrev s_is_times : Stmt := top 8
abbrev s_own_copy : Stmt := top 9
abbrev s_BadRow_init : Stmt := inClass (top 12) 0
abbrev s_TooMany_init : Stmt := inClass (top 13) 0
abbrev s_Unknown_init : Stmt := inClass (top 14) 0
abbrev s_Block_init : Stmt := inClass (top 17) 0
abbrev s_Block_add : Stmt := inClass (top 17) 1
abbrev s_Block_is_guarding : Stmt := inClass (top 17) 2
abbrev s_Block_keeps : Stmt := inClass (top 17) 3
abbrev s_Block_made : Stmt := inClass (top 17) 4
abbrev s_Reader_init : Stmt := inClass (top 18) 0
abbrev s_Reader_take : Stmt := inClass (top 18) 1
abbrev s_Reader_within : Stmt := inClass (top 18) 2
abbrev s_Reader_alone : Stmt := inClass (top 18) 3
abbrev s_Reader_pulled : Stmt := inClass (top 18) 4
abbrev s_Reader_opened_definition : Stmt := inClass (top 18) 5
abbrev s_Reader_opened : Stmt := inClass (top 18) 6
abbrev s_Reader_added : Stmt := inClass (top 18) 7
abbrev s_Reader_named : Stmt := inClass (top 18) 8
abbrev s_Reader_turned : Stmt := inClass (top 18) 9
abbrev s_Reader_ended : Stmt := inClass (top 18) 10
abbrev s_Reader_may_give : Stmt := inClass (top 18) 11
abbrev s_Reader_may_pull : Stmt := inClass (top 18) 12
abbrev s_read_rows : Stmt := top 19
abbrev s_look_at_names : Stmt := top 25
abbrev s_look_at_size : Stmt := top 26
abbrev s_Program_init : Stmt := inClass (top 27) 0
abbrev s_Program_read : Stmt := inClass (top 27) 1
abbrev s_Program_turned : Stmt := inClass (top 27) 2
abbrev s_Program_str : Stmt := inClass (top 27) 3
abbrev s_Program_len : Stmt := inClass (top 27) 4
abbrev s_Program_eq : Stmt := inClass (top 27) 5
abbrev s_law_box : Stmt := top 29
abbrev s_law_take : Stmt := top 30
abbrev s_law_mixed : Stmt := top 31
abbrev s_law_pick : Stmt := top 32
abbrev s_law_names : Stmt := top 33
abbrev s_law_world : Stmt := top 34
abbrev s_law_rows : Stmt := top 35
abbrev s_law_row : Stmt := top 36
abbrev s_law_block : Stmt := top 37
abbrev s_law_program : Stmt := top 38
abbrev s_law_some_program : Stmt := top 39
abbrev s_law_long : Stmt := top 40
abbrev s_law_told : Stmt := top 41
abbrev s_law : Stmt := top 42
abbrev c_LateError (K : PySem.W.Frag) : Addr := He.ga K "LateError"
abbrev c_BadRow (K : PySem.W.Frag) : Addr := He.ga K "BadRow"
abbrev c_TooMany (K : PySem.W.Frag) : Addr := He.ga K "TooMany"
abbrev c_Unknown (K : PySem.W.Frag) : Addr := He.ga K "Unknown"
abbrev c_Block (K : PySem.W.Frag) : Addr := He.ga K "Block"
abbrev c_Reader (K : PySem.W.Frag) : Addr := He.ga K "Reader"
abbrev c_Program (K : PySem.W.Frag) : Addr := He.ga K "Program"
def d_is_integer : LyC.DefP := ⟨fun K => He.ga K "is_integer", "is_integer", "is_integer", defArgs s_is_integer, defBody s_is_integer, defScope s_is_integer, [], []⟩
def d_is_made_of : LyC.DefP := ⟨fun K => He.ga K "is_made_of", "is_made_of", "is_made_of", defArgs s_is_made_of, defBody s_is_made_of, defScope s_is_made_of, [], []⟩
def d_is_name : LyC.DefP := ⟨fun K => He.ga K "is_name", "is_name", "is_name", defArgs s_is_name, defBody s_is_name, defScope s_is_name, [], []⟩
def d_is_times : LyC.DefP := ⟨fun K => He.ga K "is_times", "is_times", "is_times", defArgs s_is_times, defBody s_is_times, defScope s_is_times, [], []⟩
def d_own_copy : LyC.DefP := ⟨fun K => He.ga K "own_copy", "own_copy", "own_copy", defArgs s_own_copy, defBody s_own_copy, defScope s_own_copy, [.int 9], []⟩
def d_BadRow_init : LyC.DefP := ⟨fun K => He.ma K (He.ga K "BadRow") "__init__", "__init__", "BadRow.__init__", defArgs s_BadRow_init, defBody s_BadRow_init, defScope s_BadRow_init, [], []⟩
def d_TooMany_init : LyC.DefP := ⟨fun K => He.ma K (He.ga K "TooMany") "__init__", "__init__", "TooMany.__init__", defArgs s_TooMany_init, defBody s_TooMany_init, defScope s_TooMany_init, [], []⟩
def d_Unknown_init : LyC.DefP := ⟨fun K => He.ma K (He.ga K "Unknown") "__init__", "__init__", "Unknown.__init__", defArgs s_Unknown_init, defBody s_Unknown_init, defScope s_Unknown_init, [], []⟩
def d_Block_init : LyC.DefP := ⟨fun K => He.ma K (He.ga K "Block") "__init__", "__init__", "Block.__init__", defArgs s_Block_init, defBody s_Block_init, defScope s_Block_init, [], []⟩
def d_Block_add : LyC.DefP := ⟨fun K => He.ma K (He.ga K "Block") "add", "add", "Block.add", defArgs s_Block_add, defBody s_Block_add, defScope s_Block_add, [], []⟩
def d_Block_is_guarding : LyC.DefP := ⟨fun K => He.ma K (He.ga K "Block") "is_guarding", "is_guarding", "Block.is_guarding", defArgs s_Block_is_guarding, defBody s_Block_is_guarding, defScope s_Block_is_guarding, [], []⟩
def d_Block_keeps : LyC.DefP := ⟨fun K => He.ma K (He.ga K "Block") "keeps", "keeps", "Block.keeps", defArgs s_Block_keeps, defBody s_Block_keeps, defScope s_Block_keeps, [], []⟩
def d_Block_made : LyC.DefP := ⟨fun K => He.ma K (He.ga K "Block") "made", "made", "Block.made", defArgs s_Block_made, defBody s_Block_made, defScope s_Block_made, [], []⟩
def d_Reader_init : LyC.DefP := ⟨fun K => He.ma K (He.ga K "Reader") "__init__", "__init__", "Reader.__init__", defArgs s_Reader_init, defBody s_Reader_init, defScope s_Reader_init, [], []⟩
def d_Reader_take : LyC.DefP := ⟨fun K => He.ma K (He.ga K "Reader") "take", "take", "Reader.take", defArgs s_Reader_take, defBody s_Reader_take, defScope s_Reader_take, [], []⟩
def d_Reader_within : LyC.DefP := ⟨fun K => He.ma K (He.ga K "Reader") "within", "within", "Reader.within", defArgs s_Reader_within, defBody s_Reader_within, defScope s_Reader_within, [], []⟩
def d_Reader_alone : LyC.DefP := ⟨fun K => He.ma K (He.ga K "Reader") "alone", "alone", "Reader.alone", defArgs s_Reader_alone, defBody s_Reader_alone, defScope s_Reader_alone, [], []⟩
def d_Reader_pulled : LyC.DefP := ⟨fun K => He.ma K (He.ga K "Reader") "pulled", "pulled", "Reader.pulled", defArgs s_Reader_pulled, defBody s_Reader_pulled, defScope s_Reader_pulled, [], []⟩
def d_Reader_opened_definition : LyC.DefP := ⟨fun K => He.ma K (He.ga K "Reader") "opened_definition", "opened_definition", "Reader.opened_definition", defArgs s_Reader_opened_definition, defBody s_Reader_opened_definition, defScope s_Reader_opened_definition, [], []⟩
def d_Reader_opened : LyC.DefP := ⟨fun K => He.ma K (He.ga K "Reader") "opened", "opened", "Reader.opened", defArgs s_Reader_opened, defBody s_Reader_opened, defScope s_Reader_opened, [], []⟩
def d_Reader_added : LyC.DefP := ⟨fun K => He.ma K (He.ga K "Reader") "added", "added", "Reader.added", defArgs s_Reader_added, defBody s_Reader_added, defScope s_Reader_added, [], []⟩
def d_Reader_named : LyC.DefP := ⟨fun K => He.ma K (He.ga K "Reader") "named", "named", "Reader.named", defArgs s_Reader_named, defBody s_Reader_named, defScope s_Reader_named, [], []⟩
def d_Reader_turned : LyC.DefP := ⟨fun K => He.ma K (He.ga K "Reader") "turned", "turned", "Reader.turned", defArgs s_Reader_turned, defBody s_Reader_turned, defScope s_Reader_turned, [], []⟩
def d_Reader_ended : LyC.DefP := ⟨fun K => He.ma K (He.ga K "Reader") "ended", "ended", "Reader.ended", defArgs s_Reader_ended, defBody s_Reader_ended, defScope s_Reader_ended, [], []⟩
def d_Reader_may_give : LyC.DefP := ⟨fun K => He.ma K (He.ga K "Reader") "may_give", "may_give", "Reader.may_give", defArgs s_Reader_may_give, defBody s_Reader_may_give, defScope s_Reader_may_give, [], []⟩
def d_Reader_may_pull : LyC.DefP := ⟨fun K => He.ma K (He.ga K "Reader") "may_pull", "may_pull", "Reader.may_pull", defArgs s_Reader_may_pull, defBody s_Reader_may_pull, defScope s_Reader_may_pull, [], []⟩
def d_read_rows : LyC.DefP := ⟨fun K => He.ga K "read_rows", "read_rows", "read_rows", defArgs s_read_rows, defBody s_read_rows, defScope s_read_rows, [], []⟩
def d_look_at_names : LyC.DefP := ⟨fun K => He.ga K "look_at_names", "look_at_names", "look_at_names", defArgs s_look_at_names, defBody s_look_at_names, defScope s_look_at_names, [], []⟩
def d_look_at_size : LyC.DefP := ⟨fun K => He.ga K "look_at_size", "look_at_size", "look_at_size", defArgs s_look_at_size, defBody s_look_at_size, defScope s_look_at_size, [], []⟩
def d_Program_init : LyC.DefP := ⟨fun K => He.ma K (He.ga K "Program") "__init__", "__init__", "Program.__init__", defArgs s_Program_init, defBody s_Program_init, defScope s_Program_init, [], []⟩
def d_Program_read : LyC.DefP := ⟨fun K => He5.wf K (He.ga K "Program") "staticmethod" "read", "read", "Program.read", defArgs s_Program_read, defBody s_Program_read, defScope s_Program_read, [], []⟩
def d_Program_turned : LyC.DefP := ⟨fun K => He.ma K (He.ga K "Program") "turned", "turned", "Program.turned", defArgs s_Program_turned, defBody s_Program_turned, defScope s_Program_turned, [], []⟩
def d_Program_str : LyC.DefP := ⟨fun K => He.ma K (He.ga K "Program") "__str__", "__str__", "Program.__str__", defArgs s_Program_str, defBody s_Program_str, defScope s_Program_str, [], []⟩
def d_Program_len : LyC.DefP := ⟨fun K => He.ma K (He.ga K "Program") "__len__", "__len__", "Program.__len__", defArgs s_Program_len, defBody s_Program_len, defScope s_Program_len, [], []⟩
def d_Program_eq : LyC.DefP := ⟨fun K => He.ma K (He.ga K "Program") "__eq__", "__eq__", "Program.__eq__", defArgs s_Program_eq, defBody s_Program_eq, defScope s_Program_eq, [], []⟩
def d_law_box : LyC.DefP := ⟨fun K => He.ga K "_law_box", "_law_box", "_law_box", defArgs s_law_box, defBody s_law_box, defScope s_law_box, [], []⟩
def d_law_take : LyC.DefP := ⟨fun K => He.ga K "_law_take", "_law_take", "_law_take", defArgs s_law_take, defBody s_law_take, defScope s_law_take, [], []⟩
def d_law_mixed : LyC.DefP := ⟨fun K => He.ga K "_law_mixed", "_law_mixed", "_law_mixed", defArgs s_law_mixed, defBody s_law_mixed, defScope s_law_mixed, [], []⟩
def d_law_pick : LyC.DefP := ⟨fun K => He.ga K "_law_pick", "_law_pick", "_law_pick", defArgs s_law_pick, defBody s_law_pick, defScope s_law_pick, [], []⟩
def d_law_names : LyC.DefP := ⟨fun K => He.ga K "_law_names", "_law_names", "_law_names", defArgs s_law_names, defBody s_law_names, defScope s_law_names, [], []⟩
def d_law_world : LyC.DefP := ⟨fun K => He.ga K "_law_world", "_law_world", "_law_world", defArgs s_law_world, defBody s_law_world, defScope s_law_world, [], []⟩
def d_law_rows : LyC.DefP := ⟨fun K => He.ga K "_law_rows", "_law_rows", "_law_rows", defArgs s_law_rows, defBody s_law_rows, defScope s_law_rows, [], []⟩
def d_law_row : LyC.DefP := ⟨fun K => He.ga K "_law_row", "_law_row", "_law_row", defArgs s_law_row, defBody s_law_row, defScope s_law_row, [], []⟩
def d_law_block : LyC.DefP := ⟨fun K => He.ga K "_law_block", "_law_block", "_law_block", defArgs s_law_block, defBody s_law_block, defScope s_law_block, [], []⟩
def d_law_program : LyC.DefP := ⟨fun K => He.ga K "_law_program", "_law_program", "_law_program", defArgs s_law_program, defBody s_law_program, defScope s_law_program, [], []⟩
def d_law_some_program : LyC.DefP := ⟨fun K => He.ga K "_law_some_program", "_law_some_program", "_law_some_program", defArgs s_law_some_program, defBody s_law_some_program, defScope s_law_some_program, [], []⟩
def d_law_long : LyC.DefP := ⟨fun K => He.ga K "_law_long", "_law_long", "_law_long", defArgs s_law_long, defBody s_law_long, defScope s_law_long, [], []⟩
def d_law_told : LyC.DefP := ⟨fun K => He.ga K "_law_told", "_law_told", "_law_told", defArgs s_law_told, defBody s_law_told, defScope s_law_told, [], []⟩
def d_law : LyC.DefP := ⟨fun K => He.ga K "law", "law", "law", defArgs s_law, defBody s_law, defScope s_law, [], []⟩
def fn : List LyC.DefP := [d_is_integer, d_is_made_of, d_is_name, d_is_times, d_own_copy, d_BadRow_init, d_TooMany_init, d_Unknown_init, d_Block_init, d_Block_add, d_Block_is_guarding, d_Block_keeps, d_Block_made, d_Reader_init, d_Reader_take, d_Reader_within, d_Reader_alone, d_Reader_pulled, d_Reader_opened_definition, d_Reader_opened, d_Reader_added, d_Reader_named, d_Reader_turned, d_Reader_ended, d_Reader_may_give, d_Reader_may_pull, d_read_rows, d_look_at_names, d_look_at_size, d_Program_init, d_Program_read, d_Program_turned, d_Program_str, d_Program_len, d_Program_eq, d_law_box, d_law_take, d_law_mixed, d_law_pick, d_law_names, d_law_world, d_law_rows, d_law_row, d_law_block, d_law_program, d_law_some_program, d_law_long, d_law_told, d_law]
def k_HOWS : List Str := [("closed" : Str), ("dropped" : Str), ("kept" : Str)]
def k_LANGUAGE : List Str := [("say" : Str), ("pause" : Str), ("wait" : Str), ("open" : Str), ("begin" : Str), ("fail" : Str), ("give" : Str), ("repeat" : Str), ("guard" : Str), ("late" : Str), ("mend" : Str), ("end" : Str), ("each" : Str), ("job" : Str), ("walk" : Str), ("closed" : Str), ("dropped" : Str), ("kept" : Str)]
def k_NAMED : List Str := [("say" : Str), ("wait" : Str), ("open" : Str), ("begin" : Str), ("fail" : Str)]
def ex0 : List (PySem.W.Frag → Bool) := [fun K => (He.Fa.glo "is_integer").ok K, fun K => (He.Fa.glo "is_made_of").ok K, fun K => (He.Fa.glo "is_name").ok K, fun K => (He.Fa.glo "is_times").ok K, fun K => (He.Fa.glo "own_copy").ok K, fun K => (He.Fa.glo "LateError").ok K, fun K => (He.Fa.glo "BadRow").ok K, fun K => (He.Fa.glo "TooMany").ok K, fun K => (He.Fa.glo "Unknown").ok K, fun K => (He.Fa.glo "Block").ok K, fun K => (He.Fa.glo "Reader").ok K, fun K => (He.Fa.glo "read_rows").ok K, fun K => (He.Fa.glo "look_at_names").ok K, fun K => (He.Fa.glo "look_at_size").ok K, fun K => (He.Fa.glo "Program").ok K, fun K => (He.Fa.glo "_law_box").ok K, fun K => (He.Fa.glo "_law_take").ok K, fun K => (He.Fa.glo "_law_mixed").ok K, fun K => (He.Fa.glo "_law_pick").ok K, fun K => (He.Fa.glo "_law_names").ok K, fun K => (He.Fa.glo "_law_world").ok K, fun K => (He.Fa.glo "_law_rows").ok K, fun K => (He.Fa.glo "_law_row").ok K, fun K => (He.Fa.glo "_law_block").ok K, fun K => (He.Fa.glo "_law_program").ok K]
def ex1 : List (PySem.W.Frag → Bool) := [fun K => (He.Fa.glo "_law_some_program").ok K, fun K => (He.Fa.glo "_law_long").ok K, fun K => (He.Fa.glo "_law_told").ok K, fun K => (He.Fa.glo "law").ok K, fun K => (He.Fa.str "SMALL" "abcdefghijklmnopqrstuvwxyz").ok K, fun K => (He.Fa.str "DIGITS" "0123456789").ok K, fun K => (He.Fa.glo "HOWS").ok K, fun K => He.tupB K "HOWS" (k_HOWS.map He.Dv.str), fun K => (He.Fa.glo "LANGUAGE").ok K, fun K => He.tupB K "LANGUAGE" (k_LANGUAGE.map He.Dv.str), fun K => (He.Fa.glo "NAMED").ok K, fun K => He.tupB K "NAMED" (k_NAMED.map He.Dv.str), fun K => (He.Fa.int "MOST_ROWS" 100).ok K, fun K => (He.Fa.int "MOST_JOBS" 6).ok K, fun K => (He.Fa.int "MOST_WALKS" 6).ok K, fun K => (He.Fa.int "MOST_DEEP" 6).ok K, fun K => (He.Fa.free "len").ok K, fun K => (He.Fa.free "range").ok K, fun K => (He.Fa.free "max").ok K, fun K => (He.Fa.free "min").ok K, fun K => (He.Fa.free "str").ok K, fun K => (He.Fa.free "int").ok K, fun K => (He.Fa.free "repr").ok K, fun K => (He.Fa.free "isinstance").ok K, fun K => (He.Fa.free "sorted").ok K]
def ex2 : List (PySem.W.Frag → Bool) := [fun K => (He.Fa.free "tuple").ok K, fun K => (He.Fa.free "list").ok K, fun K => (He.Fa.free "enumerate").ok K, fun K => (He.Fa.free "all").ok K, fun K => (He.Fa.free "any").ok K, fun K => (He.Fa.free "bool").ok K, fun K => (He.Fa.free "dict").ok K, fun K => (He.Fa.free "abs").ok K, fun K => (He.Fa.free "KeyError").ok K, fun K => (He.Fa.free "zip").ok K, fun K => (He.Fa.free "set").ok K, fun K => (He.Fa.free "sum").ok K, fun K => (He.Fa.free "ValueError").ok K, fun K => (He.Fa.free "reversed").ok K, fun K => L2.xfB K (He.ga K "LateError"), fun K => LyC.excB K (He.ga K "LateError"), fun K => decide (PySem.W.exmOne K (.ref (He.ga K "LateError")) (.ref (He.ga K "LateError")) = some true), fun K => decide (PySem.W.kitOne K (.ref (He.ga K "LateError")) (.ref (He.ga K "LateError")) = some true), fun K => decide (PySem.W.exmOne K (.ref (He.ga K "LateError")) (.ref (He.ga K "BadRow")) = some false), fun K => decide (PySem.W.kitOne K (.ref (He.ga K "LateError")) (.ref (He.ga K "BadRow")) = some false), fun K => decide (PySem.W.exmOne K (.ref (He.ga K "LateError")) (.ref (He.ga K "TooMany")) = some false), fun K => decide (PySem.W.kitOne K (.ref (He.ga K "LateError")) (.ref (He.ga K "TooMany")) = some false), fun K => decide (PySem.W.exmOne K (.ref (He.ga K "LateError")) (.ref (He.ga K "Unknown")) = some false), fun K => decide (PySem.W.kitOne K (.ref (He.ga K "LateError")) (.ref (He.ga K "Unknown")) = some false), fun K => decide (PySem.W.exmOne K (.ref (He.ga K "LateError")) (.type "KeyError") = some false)]
def ex3 : List (PySem.W.Frag → Bool) := [fun K => decide (PySem.W.kitOne K (.ref (He.ga K "LateError")) (.type "KeyError") = some false), fun K => decide (PySem.W.exmOne K (.ref (He.ga K "LateError")) (.type "ValueError") = some true), fun K => decide (PySem.W.kitOne K (.ref (He.ga K "LateError")) (.type "ValueError") = some true), fun K => LyC.creadB K (He.ga K "LateError"), fun K => LyC.valB K (.ref (He.ga K "LateError")) "__init__" "ValueError.__init__", fun K => LyX.oxB K (He.ga K "BadRow") "ValueError.__new__" "ValueError" LyX.vTail, fun K => He.eqO (PySem.W.findIn K (.ref (He.ga K "BadRow")) "__init__") (some (some (.ref (He.ma K (He.ga K "BadRow") "__init__")))), fun K => decide (PySem.W.typeIn K (.ref (He.ma K (He.ga K "BadRow") "__init__")) = some (.type "function")), fun K => He.eqO (PySem.W.findIn K (.ref (He.ga K "BadRow")) "at") (some none), fun K => L2.xfB K (He.ga K "BadRow"), fun K => LyC.excB K (He.ga K "BadRow"), fun K => decide (PySem.W.exmOne K (.ref (He.ga K "BadRow")) (.ref (He.ga K "LateError")) = some true), fun K => decide (PySem.W.kitOne K (.ref (He.ga K "BadRow")) (.ref (He.ga K "LateError")) = some true), fun K => decide (PySem.W.exmOne K (.ref (He.ga K "BadRow")) (.ref (He.ga K "BadRow")) = some true), fun K => decide (PySem.W.kitOne K (.ref (He.ga K "BadRow")) (.ref (He.ga K "BadRow")) = some true), fun K => decide (PySem.W.exmOne K (.ref (He.ga K "BadRow")) (.ref (He.ga K "TooMany")) = some false), fun K => decide (PySem.W.kitOne K (.ref (He.ga K "BadRow")) (.ref (He.ga K "TooMany")) = some false), fun K => decide (PySem.W.exmOne K (.ref (He.ga K "BadRow")) (.ref (He.ga K "Unknown")) = some false), fun K => decide (PySem.W.kitOne K (.ref (He.ga K "BadRow")) (.ref (He.ga K "Unknown")) = some false), fun K => decide (PySem.W.exmOne K (.ref (He.ga K "BadRow")) (.type "KeyError") = some false), fun K => decide (PySem.W.kitOne K (.ref (He.ga K "BadRow")) (.type "KeyError") = some false), fun K => decide (PySem.W.exmOne K (.ref (He.ga K "BadRow")) (.type "ValueError") = some true), fun K => decide (PySem.W.kitOne K (.ref (He.ga K "BadRow")) (.type "ValueError") = some true), fun K => LyX.oxB K (He.ga K "TooMany") "ValueError.__new__" "ValueError" LyX.vTail, fun K => He.eqO (PySem.W.findIn K (.ref (He.ga K "TooMany")) "__init__") (some (some (.ref (He.ma K (He.ga K "TooMany") "__init__"))))]
def ex4 : List (PySem.W.Frag → Bool) := [fun K => decide (PySem.W.typeIn K (.ref (He.ma K (He.ga K "TooMany") "__init__")) = some (.type "function")), fun K => He.eqO (PySem.W.findIn K (.ref (He.ga K "TooMany")) "word") (some none), fun K => L2.xfB K (He.ga K "TooMany"), fun K => LyC.excB K (He.ga K "TooMany"), fun K => decide (PySem.W.exmOne K (.ref (He.ga K "TooMany")) (.ref (He.ga K "LateError")) = some true), fun K => decide (PySem.W.kitOne K (.ref (He.ga K "TooMany")) (.ref (He.ga K "LateError")) = some true), fun K => decide (PySem.W.exmOne K (.ref (He.ga K "TooMany")) (.ref (He.ga K "BadRow")) = some false), fun K => decide (PySem.W.kitOne K (.ref (He.ga K "TooMany")) (.ref (He.ga K "BadRow")) = some false), fun K => decide (PySem.W.exmOne K (.ref (He.ga K "TooMany")) (.ref (He.ga K "TooMany")) = some true), fun K => decide (PySem.W.kitOne K (.ref (He.ga K "TooMany")) (.ref (He.ga K "TooMany")) = some true), fun K => decide (PySem.W.exmOne K (.ref (He.ga K "TooMany")) (.ref (He.ga K "Unknown")) = some false), fun K => decide (PySem.W.kitOne K (.ref (He.ga K "TooMany")) (.ref (He.ga K "Unknown")) = some false), fun K => decide (PySem.W.exmOne K (.ref (He.ga K "TooMany")) (.type "KeyError") = some false), fun K => decide (PySem.W.kitOne K (.ref (He.ga K "TooMany")) (.type "KeyError") = some false), fun K => decide (PySem.W.exmOne K (.ref (He.ga K "TooMany")) (.type "ValueError") = some true), fun K => decide (PySem.W.kitOne K (.ref (He.ga K "TooMany")) (.type "ValueError") = some true), fun K => LyX.oxB K (He.ga K "Unknown") "LookupError.__new__" "KeyError" LyX.keTail, fun K => He.eqO (PySem.W.findIn K (.ref (He.ga K "Unknown")) "__init__") (some (some (.ref (He.ma K (He.ga K "Unknown") "__init__")))), fun K => decide (PySem.W.typeIn K (.ref (He.ma K (He.ga K "Unknown") "__init__")) = some (.type "function")), fun K => He.eqO (PySem.W.findIn K (.ref (He.ga K "Unknown")) "name") (some none), fun K => L2.xfB K (He.ga K "Unknown"), fun K => LyC.excB K (He.ga K "Unknown"), fun K => decide (PySem.W.exmOne K (.ref (He.ga K "Unknown")) (.ref (He.ga K "LateError")) = some false), fun K => decide (PySem.W.kitOne K (.ref (He.ga K "Unknown")) (.ref (He.ga K "LateError")) = some false), fun K => decide (PySem.W.exmOne K (.ref (He.ga K "Unknown")) (.ref (He.ga K "BadRow")) = some false)]
def ex5 : List (PySem.W.Frag → Bool) := [fun K => decide (PySem.W.kitOne K (.ref (He.ga K "Unknown")) (.ref (He.ga K "BadRow")) = some false), fun K => decide (PySem.W.exmOne K (.ref (He.ga K "Unknown")) (.ref (He.ga K "TooMany")) = some false), fun K => decide (PySem.W.kitOne K (.ref (He.ga K "Unknown")) (.ref (He.ga K "TooMany")) = some false), fun K => decide (PySem.W.exmOne K (.ref (He.ga K "Unknown")) (.ref (He.ga K "Unknown")) = some true), fun K => decide (PySem.W.kitOne K (.ref (He.ga K "Unknown")) (.ref (He.ga K "Unknown")) = some true), fun K => decide (PySem.W.exmOne K (.ref (He.ga K "Unknown")) (.type "KeyError") = some true), fun K => decide (PySem.W.kitOne K (.ref (He.ga K "Unknown")) (.type "KeyError") = some true), fun K => decide (PySem.W.exmOne K (.ref (He.ga K "Unknown")) (.type "ValueError") = some false), fun K => decide (PySem.W.kitOne K (.ref (He.ga K "Unknown")) (.type "ValueError") = some false), fun K => (He.Fa.cls "Block").ok K, fun K => (He.Fa.mkr "Block").ok K, fun K => (He.Fa.noat "Block" "word").ok K, fun K => (He.Fa.noat "Block" "at").ok K, fun K => (He.Fa.noat "Block" "fields").ok K, fun K => (He.Fa.noat "Block" "part").ok K, fun K => (He.Fa.noat "Block" "rows").ok K, fun K => (He.Fa.noat "Block" "later").ok K, fun K => (He.Fa.meth "Block" "add").ok K, fun K => (He.Fa.meth "Block" "is_guarding").ok K, fun K => (He.Fa.meth "Block" "keeps").ok K, fun K => (He.Fa.meth "Block" "made").ok K, fun K => LyC.insB K (He.ga K "Block"), fun K => (He.Fa.cls "Reader").ok K, fun K => (He.Fa.mkr "Reader").ok K, fun K => (He.Fa.noat "Reader" "told").ok K]
def ex6 : List (PySem.W.Frag → Bool) := [fun K => (He.Fa.noat "Reader" "blocks").ok K, fun K => (He.Fa.noat "Reader" "gates").ok K, fun K => (He.Fa.noat "Reader" "begun").ok K, fun K => (He.Fa.noat "Reader" "deepest").ok K, fun K => (He.Fa.meth "Reader" "take").ok K, fun K => (He.Fa.meth "Reader" "within").ok K, fun K => (He.Fa.meth "Reader" "alone").ok K, fun K => (He.Fa.meth "Reader" "pulled").ok K, fun K => (He.Fa.meth "Reader" "opened_definition").ok K, fun K => (He.Fa.meth "Reader" "opened").ok K, fun K => (He.Fa.meth "Reader" "added").ok K, fun K => (He.Fa.meth "Reader" "named").ok K, fun K => (He.Fa.meth "Reader" "turned").ok K, fun K => (He.Fa.meth "Reader" "ended").ok K, fun K => (He.Fa.meth "Reader" "may_give").ok K, fun K => (He.Fa.meth "Reader" "may_pull").ok K, fun K => LyC.insB K (He.ga K "Reader"), fun K => (He.Fa.cls "Program").ok K, fun K => (He.Fa.mkr "Program").ok K, fun K => (He.Fa.noat "Program" "text").ok K, fun K => (He.Fa.noat "Program" "job_rows").ok K, fun K => (He.Fa.noat "Program" "walk_rows").ok K, fun K => (He.Fa.noat "Program" "jobs").ok K, fun K => (He.Fa.noat "Program" "walks").ok K, fun K => (He.Fa.noat "Program" "gates").ok K]
def ex7 : List (PySem.W.Frag → Bool) := [fun K => He5.wrapB K (He.ga K "Program") "staticmethod" "staticmethod.__get__" "read", fun K => (He.Fa.meth "Program" "turned").ok K, fun K => He.eqO (PySem.W.findIn K (.ref (He.ga K "Program")) "__str__") (some (some (.ref (He.ma K (He.ga K "Program") "__str__")))) && PySem.W.isFn K (.ref (He.ma K (He.ga K "Program") "__str__")), fun K => He.eqO (PySem.W.findIn K (.ref (He.ga K "Program")) "__len__") (some (some (.ref (He.ma K (He.ga K "Program") "__len__")))) && PySem.W.isFn K (.ref (He.ma K (He.ga K "Program") "__len__")), fun K => He.eqO (PySem.W.findIn K (.ref (He.ga K "Program")) "__eq__") (some (some (.ref (He.ma K (He.ga K "Program") "__eq__")))) && PySem.W.isFn K (.ref (He.ma K (He.ga K "Program") "__eq__")), fun K => LyC.creadB K (He.ga K "Program"), fun K => LyC.insB K (He.ga K "Program"), fun K => He.eqO (PySem.W.findIn K (.ref (He.ga K "Program")) "__ne__") (some (some (.builtin "object.__ne__"))), fun K => decide (PySem.W.kitOne K (.type "str") (.ref (He.ga K "Program")) = some false), fun K => decide (PySem.W.kitOne K (.type "tuple") (.ref (He.ga K "Program")) = some false), fun K => decide (PySem.W.kitOne K (.ref (He.ga K "Program")) (.ref (He.ga K "Program")) = some true), fun K => decide (PySem.W.mroIn K (He.ga K "Program") (.type "object") = some true), fun K => LyC.valB K (.type "KeyError") "__init__" "KeyError.__init__"]
def exB (K : PySem.W.Frag) : Bool := (ex0.all fun f => f K) && (ex1.all fun f => f K) && (ex2.all fun f => f K) && (ex3.all fun f => f K) && (ex4.all fun f => f K) && (ex5.all fun f => f K) && (ex6.all fun f => f K) && (ex7.all fun f => f K)
/-- what the head tells -/
structure Hd (K : PySem.W.Frag) (mg : Str → Option Value) : Prop where
  says : LyC.SaysL fn exB K
  gl : ∀ x, (He.Fa.glo x).ok K = true → mg x = some (.ref (He.ga K x))
  fr : ∀ x, (He.Fa.free x).ok K = true → mg x = none
  gi : ∀ x i, (He.Fa.int x i).ok K = true → ∃ t, mg x = some (.int i t)
  gs : ∀ x z, (He.Fa.str x z).ok K = true → ∃ t, mg x = some (.str z t)
theorem hd_of {K : PySem.W.Frag} {h : Heap} {mg : Str → Option Value} (X : K.In h) (G : h.Ns mainGlobals mg) (c : LyC.SaysL fn exB K) : Hd K mg :=
  ⟨c, fun _ z => He.glo_ok X G z, fun _ z => He.free_ok X G z, fun _ _ z => He.int_ok X G z, fun _ _ z => He.str_ok X G z⟩
section
variable {K : PySem.W.Frag} {mg : Str → Option Value} (T : Hd K mg)
include T
theorem Hd.p0 (i : Nat) {f : PySem.W.Frag → Bool} (h : ex0[i]? = some f) : f K = true := List.all_eq_true.mp (He.ba (He.ba (He.ba (He.ba (He.ba (He.ba (He.ba T.says.more).1).1).1).1).1).1).1 f (List.mem_of_getElem? h)
theorem Hd.p1 (i : Nat) {f : PySem.W.Frag → Bool} (h : ex1[i]? = some f) : f K = true := List.all_eq_true.mp (He.ba (He.ba (He.ba (He.ba (He.ba (He.ba (He.ba T.says.more).1).1).1).1).1).1).2 f (List.mem_of_getElem? h)
theorem Hd.p2 (i : Nat) {f : PySem.W.Frag → Bool} (h : ex2[i]? = some f) : f K = true := List.all_eq_true.mp (He.ba (He.ba (He.ba (He.ba (He.ba (He.ba T.says.more).1).1).1).1).1).2 f (List.mem_of_getElem? h)
theorem Hd.p3 (i : Nat) {f : PySem.W.Frag → Bool} (h : ex3[i]? = some f) : f K = true := List.all_eq_true.mp (He.ba (He.ba (He.ba (He.ba (He.ba T.says.more).1).1).1).1).2 f (List.mem_of_getElem? h)
theorem Hd.p4 (i : Nat) {f : PySem.W.Frag → Bool} (h : ex4[i]? = some f) : f K = true := List.all_eq_true.mp (He.ba (He.ba (He.ba (He.ba T.says.more).1).1).1).2 f (List.mem_of_getElem? h)
theorem Hd.p5 (i : Nat) {f : PySem.W.Frag → Bool} (h : ex5[i]? = some f) : f K = true := List.all_eq_true.mp (He.ba (He.ba (He.ba T.says.more).1).1).2 f (List.mem_of_getElem? h)
theorem Hd.p6 (i : Nat) {f : PySem.W.Frag → Bool} (h : ex6[i]? = some f) : f K = true := List.all_eq_true.mp (He.ba (He.ba T.says.more).1).2 f (List.mem_of_getElem? h)
theorem Hd.p7 (i : Nat) {f : PySem.W.Frag → Bool} (h : ex7[i]? = some f) : f K = true := List.all_eq_true.mp (He.ba T.says.more).2 f (List.mem_of_getElem? h)
theorem Hd.g_is_integer : mg "is_integer" = some (.ref (He.ga K "is_integer")) := by
  have h : ((He.Fa.glo "is_integer").ok K) = true := T.p0 0 rfl
  exact T.gl _ h
theorem Hd.g_is_made_of : mg "is_made_of" = some (.ref (He.ga K "is_made_of")) := by
  have h : ((He.Fa.glo "is_made_of").ok K) = true := T.p0 1 rfl
  exact T.gl _ h
theorem Hd.g_is_name : mg "is_name" = some (.ref (He.ga K "is_name")) := by
  have h : ((He.Fa.glo "is_name").ok K) = true := T.p0 2 rfl
  exact T.gl _ h
theorem Hd.g_is_times : mg "is_times" = some (.ref (He.ga K "is_times")) := by
  have h : ((He.Fa.glo "is_times").ok K) = true := T.p0 3 rfl
  exact T.gl _ h
theorem Hd.g_own_copy : mg "own_copy" = some (.ref (He.ga K "own_copy")) := by
  have h : ((He.Fa.glo "own_copy").ok K) = true := T.p0 4 rfl
  exact T.gl _ h
theorem Hd.g_LateError : mg "LateError" = some (.ref (He.ga K "LateError")) := by
  have h : ((He.Fa.glo "LateError").ok K) = true := T.p0 5 rfl
  exact T.gl _ h
theorem Hd.g_BadRow : mg "BadRow" = some (.ref (He.ga K "BadRow")) := by
  have h : ((He.Fa.glo "BadRow").ok K) = true := T.p0 6 rfl
  exact T.gl _ h
theorem Hd.g_TooMany : mg "TooMany" = some (.ref (He.ga K "TooMany")) := by
  have h : ((He.Fa.glo "TooMany").ok K) = true := T.p0 7 rfl
  exact T.gl _ h
theorem Hd.g_Unknown : mg "Unknown" = some (.ref (He.ga K "Unknown")) := by
  have h : ((He.Fa.glo "Unknown").ok K) = true := T.p0 8 rfl
  exact T.gl _ h
theorem Hd.g_Block : mg "Block" = some (.ref (He.ga K "Block")) := by
  have h : ((He.Fa.glo "Block").ok K) = true := T.p0 9 rfl
  exact T.gl _ h
theorem Hd.g_Reader : mg "Reader" = some (.ref (He.ga K "Reader")) := by
  have h : ((He.Fa.glo "Reader").ok K) = true := T.p0 10 rfl
  exact T.gl _ h
theorem Hd.g_read_rows : mg "read_rows" = some (.ref (He.ga K "read_rows")) := by
  have h : ((He.Fa.glo "read_rows").ok K) = true := T.p0 11 rfl
  exact T.gl _ h
theorem Hd.g_look_at_names : mg "look_at_names" = some (.ref (He.ga K "look_at_names")) := by
  have h : ((He.Fa.glo "look_at_names").ok K) = true := T.p0 12 rfl
  exact T.gl _ h
theorem Hd.g_look_at_size : mg "look_at_size" = some (.ref (He.ga K "look_at_size")) := by
  have h : ((He.Fa.glo "look_at_size").ok K) = true := T.p0 13 rfl
  exact T.gl _ h
theorem Hd.g_Program : mg "Program" = some (.ref (He.ga K "Program")) := by
  have h : ((He.Fa.glo "Program").ok K) = true := T.p0 14 rfl
  exact T.gl _ h
theorem Hd.g_law_box : mg "_law_box" = some (.ref (He.ga K "_law_box")) := by
  have h : ((He.Fa.glo "_law_box").ok K) = true := T.p0 15 rfl
  exact T.gl _ h
theorem Hd.g_law_take : mg "_law_take" = some (.ref (He.ga K "_law_take")) := by
  have h : ((He.Fa.glo "_law_take").ok K) = true := T.p0 16 rfl
  exact T.gl _ h
theorem Hd.g_law_mixed : mg "_law_mixed" = some (.ref (He.ga K "_law_mixed")) := by
  have h : ((He.Fa.glo "_law_mixed").ok K) = true := T.p0 17 rfl
  exact T.gl _ h
theorem Hd.g_law_pick : mg "_law_pick" = some (.ref (He.ga K "_law_pick")) := by
  have h : ((He.Fa.glo "_law_pick").ok K) = true := T.p0 18 rfl
  exact T.gl _ h
theorem Hd.g_law_names : mg "_law_names" = some (.ref (He.ga K "_law_names")) := by
  have h : ((He.Fa.glo "_law_names").ok K) = true := T.p0 19 rfl
  exact T.gl _ h
theorem Hd.g_law_world : mg "_law_world" = some (.ref (He.ga K "_law_world")) := by
  have h : ((He.Fa.glo "_law_world").ok K) = true := T.p0 20 rfl
  exact T.gl _ h
theorem Hd.g_law_rows : mg "_law_rows" = some (.ref (He.ga K "_law_rows")) := by
  have h : ((He.Fa.glo "_law_rows").ok K) = true := T.p0 21 rfl
  exact T.gl _ h
theorem Hd.g_law_row : mg "_law_row" = some (.ref (He.ga K "_law_row")) := by
  have h : ((He.Fa.glo "_law_row").ok K) = true := T.p0 22 rfl
  exact T.gl _ h
theorem Hd.g_law_block : mg "_law_block" = some (.ref (He.ga K "_law_block")) := by
  have h : ((He.Fa.glo "_law_block").ok K) = true := T.p0 23 rfl
  exact T.gl _ h
theorem Hd.g_law_program : mg "_law_program" = some (.ref (He.ga K "_law_program")) := by
  have h : ((He.Fa.glo "_law_program").ok K) = true := T.p0 24 rfl
  exact T.gl _ h
theorem Hd.g_law_some_program : mg "_law_some_program" = some (.ref (He.ga K "_law_some_program")) := by
  have h : ((He.Fa.glo "_law_some_program").ok K) = true := T.p1 0 rfl
  exact T.gl _ h
theorem Hd.g_law_long : mg "_law_long" = some (.ref (He.ga K "_law_long")) := by
  have h : ((He.Fa.glo "_law_long").ok K) = true := T.p1 1 rfl
  exact T.gl _ h
theorem Hd.g_law_told : mg "_law_told" = some (.ref (He.ga K "_law_told")) := by
  have h : ((He.Fa.glo "_law_told").ok K) = true := T.p1 2 rfl
  exact T.gl _ h
theorem Hd.g_law : mg "law" = some (.ref (He.ga K "law")) := by
  have h : ((He.Fa.glo "law").ok K) = true := T.p1 3 rfl
  exact T.gl _ h
theorem Hd.g_SMALL : ∃ t, mg "SMALL" = some (.str "abcdefghijklmnopqrstuvwxyz" t) := by
  have h : ((He.Fa.str "SMALL" "abcdefghijklmnopqrstuvwxyz").ok K) = true := T.p1 4 rfl
  exact T.gs _ _ h
theorem Hd.g_DIGITS : ∃ t, mg "DIGITS" = some (.str "0123456789" t) := by
  have h : ((He.Fa.str "DIGITS" "0123456789").ok K) = true := T.p1 5 rfl
  exact T.gs _ _ h
theorem Hd.g_HOWS : mg "HOWS" = some (.ref (He.ga K "HOWS")) := by
  have h : ((He.Fa.glo "HOWS").ok K) = true := T.p1 6 rfl
  exact T.gl _ h
theorem Hd.t_HOWS : ∀ H, SqT K H (He.ga K "HOWS") (k_HOWS.map V.str) := by
  have h : (He.tupB K "HOWS" (k_HOWS.map He.Dv.str)) = true := T.p1 7 rfl
  exact fun H => by have z := He.tupB_ok h H; rw [List.map_map] at z; exact z
theorem Hd.g_LANGUAGE : mg "LANGUAGE" = some (.ref (He.ga K "LANGUAGE")) := by
  have h : ((He.Fa.glo "LANGUAGE").ok K) = true := T.p1 8 rfl
  exact T.gl _ h
theorem Hd.t_LANGUAGE : ∀ H, SqT K H (He.ga K "LANGUAGE") (k_LANGUAGE.map V.str) := by
  have h : (He.tupB K "LANGUAGE" (k_LANGUAGE.map He.Dv.str)) = true := T.p1 9 rfl
  exact fun H => by have z := He.tupB_ok h H; rw [List.map_map] at z; exact z
theorem Hd.g_NAMED : mg "NAMED" = some (.ref (He.ga K "NAMED")) := by
  have h : ((He.Fa.glo "NAMED").ok K) = true := T.p1 10 rfl
  exact T.gl _ h
theorem Hd.t_NAMED : ∀ H, SqT K H (He.ga K "NAMED") (k_NAMED.map V.str) := by
  have h : (He.tupB K "NAMED" (k_NAMED.map He.Dv.str)) = true := T.p1 11 rfl
  exact fun H => by have z := He.tupB_ok h H; rw [List.map_map] at z; exact z
theorem Hd.g_MOST_ROWS : ∃ t, mg "MOST_ROWS" = some (.int 100 t) := by
  have h : ((He.Fa.int "MOST_ROWS" 100).ok K) = true := T.p1 12 rfl
  exact T.gi _ _ h
theorem Hd.g_MOST_JOBS : ∃ t, mg "MOST_JOBS" = some (.int 6 t) := by
  have h : ((He.Fa.int "MOST_JOBS" 6).ok K) = true := T.p1 13 rfl
  exact T.gi _ _ h
theorem Hd.g_MOST_WALKS : ∃ t, mg "MOST_WALKS" = some (.int 6 t) := by
  have h : ((He.Fa.int "MOST_WALKS" 6).ok K) = true := T.p1 14 rfl
  exact T.gi _ _ h
theorem Hd.g_MOST_DEEP : ∃ t, mg "MOST_DEEP" = some (.int 6 t) := by
  have h : ((He.Fa.int "MOST_DEEP" 6).ok K) = true := T.p1 15 rfl
  exact T.gi _ _ h
theorem Hd.n_len : mg "len" = none := by
  have h : ((He.Fa.free "len").ok K) = true := T.p1 16 rfl
  exact T.fr _ h
theorem Hd.n_range : mg "range" = none := by
  have h : ((He.Fa.free "range").ok K) = true := T.p1 17 rfl
  exact T.fr _ h
theorem Hd.n_max : mg "max" = none := by
  have h : ((He.Fa.free "max").ok K) = true := T.p1 18 rfl
  exact T.fr _ h
theorem Hd.n_min : mg "min" = none := by
  have h : ((He.Fa.free "min").ok K) = true := T.p1 19 rfl
  exact T.fr _ h
theorem Hd.n_str : mg "str" = none := by
  have h : ((He.Fa.free "str").ok K) = true := T.p1 20 rfl
  exact T.fr _ h
theorem Hd.n_int : mg "int" = none := by
  have h : ((He.Fa.free "int").ok K) = true := T.p1 21 rfl
  exact T.fr _ h
theorem Hd.n_repr : mg "repr" = none := by
  have h : ((He.Fa.free "repr").ok K) = true := T.p1 22 rfl
  exact T.fr _ h
theorem Hd.n_isinstance : mg "isinstance" = none := by
  have h : ((He.Fa.free "isinstance").ok K) = true := T.p1 23 rfl
  exact T.fr _ h
theorem Hd.n_sorted : mg "sorted" = none := by
  have h : ((He.Fa.free "sorted").ok K) = true := T.p1 24 rfl
  exact T.fr _ h
theorem Hd.n_tuple : mg "tuple" = none := by
  have h : ((He.Fa.free "tuple").ok K) = true := T.p2 0 rfl
  exact T.fr _ h
theorem Hd.n_list : mg "list" = none := by
  have h : ((He.Fa.free "list").ok K) = true := T.p2 1 rfl
  exact T.fr _ h
theorem Hd.n_enumerate : mg "enumerate" = none := by
  have h : ((He.Fa.free "enumerate").ok K) = true := T.p2 2 rfl
  exact T.fr _ h
theorem Hd.n_all : mg "all" = none := by
  have h : ((He.Fa.free "all").ok K) = true := T.p2 3 rfl
  exact T.fr _ h
theorem Hd.n_any : mg "any" = none := by
  have h : ((He.Fa.free "any").ok K) = true := T.p2 4 rfl
  exact T.fr _ h
theorem Hd.n_bool : mg "bool" = none := by
  have h : ((He.Fa.free "bool").ok K) = true := T.p2 5 rfl
  exact T.fr _ h
theorem Hd.n_dict : mg "dict" = none := by
  have h : ((He.Fa.free "dict").ok K) = true := T.p2 6 rfl
  exact T.fr _ h
theorem Hd.n_abs : mg "abs" = none := by
  have h : ((He.Fa.free "abs").ok K) = true := T.p2 7 rfl
  exact T.fr _ h
theorem Hd.n_KeyError : mg "KeyError" = none := by
  have h : ((He.Fa.free "KeyError").ok K) = true := T.p2 8 rfl
  exact T.fr _ h
theorem Hd.n_zip : mg "zip" = none := by
  have h : ((He.Fa.free "zip").ok K) = true := T.p2 9 rfl
  exact T.fr _ h
theorem Hd.n_set : mg "set" = none := by
  have h : ((He.Fa.free "set").ok K) = true := T.p2 10 rfl
  exact T.fr _ h
theorem Hd.n_sum : mg "sum" = none := by
  have h : ((He.Fa.free "sum").ok K) = true := T.p2 11 rfl
  exact T.fr _ h
theorem Hd.n_ValueError : mg "ValueError" = none := by
  have h : ((He.Fa.free "ValueError").ok K) = true := T.p2 12 rfl
  exact T.fr _ h
theorem Hd.n_reversed : mg "reversed" = none := by
  have h : ((He.Fa.free "reversed").ok K) = true := T.p2 13 rfl
  exact T.fr _ h
theorem Hd.xf_LateError : L2.XfC K (c_LateError K) := by
  have h : (L2.xfB K (He.ga K "LateError")) = true := T.p2 14 rfl
  exact L2.xfB_ok h
theorem Hd.ec_LateError : L2.ExcC K (c_LateError K) := by
  have h : (LyC.excB K (He.ga K "LateError")) = true := T.p2 15 rfl
  exact LyC.excB_ok h
theorem Hd.em_LateError_LateError : PySem.W.exmOne K (.ref (c_LateError K)) (.ref (c_LateError K)) = some true := by
  have h : (decide (PySem.W.exmOne K (.ref (He.ga K "LateError")) (.ref (He.ga K "LateError")) = some true)) = true := T.p2 16 rfl
  exact of_decide_eq_true h
theorem Hd.kt_LateError_LateError : PySem.W.kitOne K (.ref (c_LateError K)) (.ref (c_LateError K)) = some true := by
  have h : (decide (PySem.W.kitOne K (.ref (He.ga K "LateError")) (.ref (He.ga K "LateError")) = some true)) = true := T.p2 17 rfl
  exact of_decide_eq_true h
theorem Hd.em_LateError_BadRow : PySem.W.exmOne K (.ref (c_LateError K)) (.ref (c_BadRow K)) = some false := by
  have h : (decide (PySem.W.exmOne K (.ref (He.ga K "LateError")) (.ref (He.ga K "BadRow")) = some false)) = true := T.p2 18 rfl
  exact of_decide_eq_true h
theorem Hd.kt_LateError_BadRow : PySem.W.kitOne K (.ref (c_LateError K)) (.ref (c_BadRow K)) = some false := by
  have h : (decide (PySem.W.kitOne K (.ref (He.ga K "LateError")) (.ref (He.ga K "BadRow")) = some false)) = true := T.p2 19 rfl
  exact of_decide_eq_true h
theorem Hd.em_LateError_TooMany : PySem.W.exmOne K (.ref (c_LateError K)) (.ref (c_TooMany K)) = some false := by
  have h : (decide (PySem.W.exmOne K (.ref (He.ga K "LateError")) (.ref (He.ga K "TooMany")) = some false)) = true := T.p2 20 rfl
  exact of_decide_eq_true h
theorem Hd.kt_LateError_TooMany : PySem.W.kitOne K (.ref (c_LateError K)) (.ref (c_TooMany K)) = some false := by
  have h : (decide (PySem.W.kitOne K (.ref (He.ga K "LateError")) (.ref (He.ga K "TooMany")) = some false)) = true := T.p2 21 rfl
  exact of_decide_eq_true h
theorem Hd.em_LateError_Unknown : PySem.W.exmOne K (.ref (c_LateError K)) (.ref (c_Unknown K)) = some false := by
  have h : (decide (PySem.W.exmOne K (.ref (He.ga K "LateError")) (.ref (He.ga K "Unknown")) = some false)) = true := T.p2 22 rfl
  exact of_decide_eq_true h
theorem Hd.kt_LateError_Unknown : PySem.W.kitOne K (.ref (c_LateError K)) (.ref (c_Unknown K)) = some false := by
  have h : (decide (PySem.W.kitOne K (.ref (He.ga K "LateError")) (.ref (He.ga K "Unknown")) = some false)) = true := T.p2 23 rfl
  exact of_decide_eq_true h
theorem Hd.em_LateError_KeyError : PySem.W.exmOne K (.ref (c_LateError K)) (.type "KeyError") = some false := by
  have h : (decide (PySem.W.exmOne K (.ref (He.ga K "LateError")) (.type "KeyError") = some false)) = true := T.p2 24 rfl
  exact of_decide_eq_true h
theorem Hd.kt_LateError_KeyError : PySem.W.kitOne K (.ref (c_LateError K)) (.type "KeyError") = some false := by
  have h : (decide (PySem.W.kitOne K (.ref (He.ga K "LateError")) (.type "KeyError") = some false)) = true := T.p3 0 rfl
  exact of_decide_eq_true h
theorem Hd.em_LateError_ValueError : PySem.W.exmOne K (.ref (c_LateError K)) (.type "ValueError") = some true := by
  have h : (decide (PySem.W.exmOne K (.ref (He.ga K "LateError")) (.type "ValueError") = some true)) = true := T.p3 1 rfl
  exact of_decide_eq_true h
theorem Hd.kt_LateError_ValueError : PySem.W.kitOne K (.ref (c_LateError K)) (.type "ValueError") = some true := by
  have h : (decide (PySem.W.kitOne K (.ref (He.ga K "LateError")) (.type "ValueError") = some true)) = true := T.p3 2 rfl
  exact of_decide_eq_true h
theorem Hd.cr_LateError : ClX.CRead K (c_LateError K) (.type "type") := by
  have h : (LyC.creadB K (He.ga K "LateError")) = true := T.p3 3 rfl
  exact LyC.creadB_ok h
theorem Hd.fi_LateError : PySem.W.findCls K (.ref (c_LateError K)) (.type "type") "__init__" = some (.val (.builtin "ValueError.__init__")) := by
  have h : (LyC.valB K (.ref (He.ga K "LateError")) "__init__" "ValueError.__init__") = true := T.p3 4 rfl
  exact LyC.valB_ok h
theorem Hd.ox_BadRow : LyX.OxC K (c_BadRow K) "ValueError" := by
  have h : (LyX.oxB K (He.ga K "BadRow") "ValueError.__new__" "ValueError" LyX.vTail) = true := T.p3 5 rfl
  exact LyX.oxB_ok LyX.mro_VE h
theorem Hd.in_BadRow : PySem.W.findIn K (.ref (c_BadRow K)) "__init__" = some (some (.ref (He.ma K (c_BadRow K) "__init__"))) := by
  have h : (He.eqO (PySem.W.findIn K (.ref (He.ga K "BadRow")) "__init__") (some (some (.ref (He.ma K (He.ga K "BadRow") "__init__"))))) = true := T.p3 6 rfl
  exact He.eqO_ok h
theorem Hd.it_BadRow : PySem.W.typeIn K (.ref (He.ma K (c_BadRow K) "__init__")) = some (.type "function") := by
  have h : (decide (PySem.W.typeIn K (.ref (He.ma K (He.ga K "BadRow") "__init__")) = some (.type "function"))) = true := T.p3 7 rfl
  exact of_decide_eq_true h
theorem Hd.na_BadRow_at : PySem.W.findIn K (.ref (c_BadRow K)) "at" = some none := by
  have h : (He.eqO (PySem.W.findIn K (.ref (He.ga K "BadRow")) "at") (some none)) = true := T.p3 8 rfl
  exact He.eqO_ok h
theorem Hd.xf_BadRow : L2.XfC K (c_BadRow K) := by
  have h : (L2.xfB K (He.ga K "BadRow")) = true := T.p3 9 rfl
  exact L2.xfB_ok h
theorem Hd.ec_BadRow : L2.ExcC K (c_BadRow K) := by
  have h : (LyC.excB K (He.ga K "BadRow")) = true := T.p3 10 rfl
  exact LyC.excB_ok h
theorem Hd.em_BadRow_LateError : PySem.W.exmOne K (.ref (c_BadRow K)) (.ref (c_LateError K)) = some true := by
  have h : (decide (PySem.W.exmOne K (.ref (He.ga K "BadRow")) (.ref (He.ga K "LateError")) = some true)) = true := T.p3 11 rfl
  exact of_decide_eq_true h
theorem Hd.kt_BadRow_LateError : PySem.W.kitOne K (.ref (c_BadRow K)) (.ref (c_LateError K)) = some true := by
  have h : (decide (PySem.W.kitOne K (.ref (He.ga K "BadRow")) (.ref (He.ga K "LateError")) = some true)) = true := T.p3 12 rfl
  exact of_decide_eq_true h
theorem Hd.em_BadRow_BadRow : PySem.W.exmOne K (.ref (c_BadRow K)) (.ref (c_BadRow K)) = some true := by
  have h : (decide (PySem.W.exmOne K (.ref (He.ga K "BadRow")) (.ref (He.ga K "BadRow")) = some true)) = true := T.p3 13 rfl
  exact of_decide_eq_true h
theorem Hd.kt_BadRow_BadRow : PySem.W.kitOne K (.ref (c_BadRow K)) (.ref (c_BadRow K)) = some true := by
  have h : (decide (PySem.W.kitOne K (.ref (He.ga K "BadRow")) (.ref (He.ga K "BadRow")) = some true)) = true := T.p3 14 rfl
  exact of_decide_eq_true h
theorem Hd.em_BadRow_TooMany : PySem.W.exmOne K (.ref (c_BadRow K)) (.ref (c_TooMany K)) = some false := by
  have h : (decide (PySem.W.exmOne K (.ref (He.ga K "BadRow")) (.ref (He.ga K "TooMany")) = some false)) = true := T.p3 15 rfl
  exact of_decide_eq_true h
theorem Hd.kt_BadRow_TooMany : PySem.W.kitOne K (.ref (c_BadRow K)) (.ref (c_TooMany K)) = some false := by
  have h : (decide (PySem.W.kitOne K (.ref (He.ga K "BadRow")) (.ref (He.ga K "TooMany")) = some false)) = true := T.p3 16 rfl
  exact of_decide_eq_true h
theorem Hd.em_BadRow_Unknown : PySem.W.exmOne K (.ref (c_BadRow K)) (.ref (c_Unknown K)) = some false := by
  have h : (decide (PySem.W.exmOne K (.ref (He.ga K "BadRow")) (.ref (He.ga K "Unknown")) = some false)) = true := T.p3 17 rfl
  exact of_decide_eq_true h
theorem Hd.kt_BadRow_Unknown : PySem.W.kitOne K (.ref (c_BadRow K)) (.ref (c_Unknown K)) = some false := by
  have h : (decide (PySem.W.kitOne K (.ref (He.ga K "BadRow")) (.ref (He.ga K "Unknown")) = some false)) = true := T.p3 18 rfl
  exact of_decide_eq_true h
theorem Hd.em_BadRow_KeyError : PySem.W.exmOne K (.ref (c_BadRow K)) (.type "KeyError") = some false := by
  have h : (decide (PySem.W.exmOne K (.ref (He.ga K "BadRow")) (.type "KeyError") = some false)) = true := T.p3 19 rfl
  exact of_decide_eq_true h
theorem Hd.kt_BadRow_KeyError : PySem.W.kitOne K (.ref (c_BadRow K)) (.type "KeyError") = some false := by
  have h : (decide (PySem.W.kitOne K (.ref (He.ga K "BadRow")) (.type "KeyError") = some false)) = true := T.p3 20 rfl
  exact of_decide_eq_true h
theorem Hd.em_BadRow_ValueError : PySem.W.exmOne K (.ref (c_BadRow K)) (.type "ValueError") = some true := by
  have h : (decide (PySem.W.exmOne K (.ref (He.ga K "BadRow")) (.type "ValueError") = some true)) = true := T.p3 21 rfl
  exact of_decide_eq_true h
theorem Hd.kt_BadRow_ValueError : PySem.W.kitOne K (.ref (c_BadRow K)) (.type "ValueError") = some true := by
  have h : (decide (PySem.W.kitOne K (.ref (He.ga K "BadRow")) (.type "ValueError") = some true)) = true := T.p3 22 rfl
  exact of_decide_eq_true h
theorem Hd.ox_TooMany : LyX.OxC K (c_TooMany K) "ValueError" := by
  have h : (LyX.oxB K (He.ga K "TooMany") "ValueError.__new__" "ValueError" LyX.vTail) = true := T.p3 23 rfl
  exact LyX.oxB_ok LyX.mro_VE h
theorem Hd.in_TooMany : PySem.W.findIn K (.ref (c_TooMany K)) "__init__" = some (some (.ref (He.ma K (c_TooMany K) "__init__"))) := by
  have h : (He.eqO (PySem.W.findIn K (.ref (He.ga K "TooMany")) "__init__") (some (some (.ref (He.ma K (He.ga K "TooMany") "__init__"))))) = true := T.p3 24 rfl
  exact He.eqO_ok h
theorem Hd.it_TooMany : PySem.W.typeIn K (.ref (He.ma K (c_TooMany K) "__init__")) = some (.type "function") := by
  have h : (decide (PySem.W.typeIn K (.ref (He.ma K (He.ga K "TooMany") "__init__")) = some (.type "function"))) = true := T.p4 0 rfl
  exact of_decide_eq_true h
theorem Hd.na_TooMany_word : PySem.W.findIn K (.ref (c_TooMany K)) "word" = some none := by
  have h : (He.eqO (PySem.W.findIn K (.ref (He.ga K "TooMany")) "word") (some none)) = true := T.p4 1 rfl
  exact He.eqO_ok h
theorem Hd.xf_TooMany : L2.XfC K (c_TooMany K) := by
  have h : (L2.xfB K (He.ga K "TooMany")) = true := T.p4 2 rfl
  exact L2.xfB_ok h
theorem Hd.ec_TooMany : L2.ExcC K (c_TooMany K) := by
  have h : (LyC.excB K (He.ga K "TooMany")) = true := T.p4 3 rfl
  exact LyC.excB_ok h
theorem Hd.em_TooMany_LateError : PySem.W.exmOne K (.ref (c_TooMany K)) (.ref (c_LateError K)) = some true := by
  have h : (decide (PySem.W.exmOne K (.ref (He.ga K "TooMany")) (.ref (He.ga K "LateError")) = some true)) = true := T.p4 4 rfl
  exact of_decide_eq_true h
theorem Hd.kt_TooMany_LateError : PySem.W.kitOne K (.ref (c_TooMany K)) (.ref (c_LateError K)) = some true := by
  have h : (decide (PySem.W.kitOne K (.ref (He.ga K "TooMany")) (.ref (He.ga K "LateError")) = some true)) = true := T.p4 5 rfl
  exact of_decide_eq_true h
theorem Hd.em_TooMany_BadRow : PySem.W.exmOne K (.ref (c_TooMany K)) (.ref (c_BadRow K)) = some false := by
  have h : (decide (PySem.W.exmOne K (.ref (He.ga K "TooMany")) (.ref (He.ga K "BadRow")) = some false)) = true := T.p4 6 rfl
  exact of_decide_eq_true h
theorem Hd.kt_TooMany_BadRow : PySem.W.kitOne K (.ref (c_TooMany K)) (.ref (c_BadRow K)) = some false := by
  have h : (decide (PySem.W.kitOne K (.ref (He.ga K "TooMany")) (.ref (He.ga K "BadRow")) = some false)) = true := T.p4 7 rfl
  exact of_decide_eq_true h
theorem Hd.em_TooMany_TooMany : PySem.W.exmOne K (.ref (c_TooMany K)) (.ref (c_TooMany K)) = some true := by
  have h : (decide (PySem.W.exmOne K (.ref (He.ga K "TooMany")) (.ref (He.ga K "TooMany")) = some true)) = true := T.p4 8 rfl
  exact of_decide_eq_true h
theorem Hd.kt_TooMany_TooMany : PySem.W.kitOne K (.ref (c_TooMany K)) (.ref (c_TooMany K)) = some true := by
  have h : (decide (PySem.W.kitOne K (.ref (He.ga K "TooMany")) (.ref (He.ga K "TooMany")) = some true)) = true := T.p4 9 rfl
  exact of_decide_eq_true h
theorem Hd.em_TooMany_Unknown : PySem.W.exmOne K (.ref (c_TooMany K)) (.ref (c_Unknown K)) = some false := by
  have h : (decide (PySem.W.exmOne K (.ref (He.ga K "TooMany")) (.ref (He.ga K "Unknown")) = some false)) = true := T.p4 10 rfl
  exact of_decide_eq_true h
theorem Hd.kt_TooMany_Unknown : PySem.W.kitOne K (.ref (c_TooMany K)) (.ref (c_Unknown K)) = some false := by
  have h : (decide (PySem.W.kitOne K (.ref (He.ga K "TooMany")) (.ref (He.ga K "Unknown")) = some false)) = true := T.p4 11 rfl
  exact of_decide_eq_true h
theorem Hd.em_TooMany_KeyError : PySem.W.exmOne K (.ref (c_TooMany K)) (.type "KeyError") = some false := by
  have h : (decide (PySem.W.exmOne K (.ref (He.ga K "TooMany")) (.type "KeyError") = some false)) = true := T.p4 12 rfl
  exact of_decide_eq_true h
theorem Hd.kt_TooMany_KeyError : PySem.W.kitOne K (.ref (c_TooMany K)) (.type "KeyError") = some false := by
  have h : (decide (PySem.W.kitOne K (.ref (He.ga K "TooMany")) (.type "KeyError") = some false)) = true := T.p4 13 rfl
  exact of_decide_eq_true h
theorem Hd.em_TooMany_ValueError : PySem.W.exmOne K (.ref (c_TooMany K)) (.type "ValueError") = some true := by
  have h : (decide (PySem.W.exmOne K (.ref (He.ga K "TooMany")) (.type "ValueError") = some true)) = true := T.p4 14 rfl
  exact of_decide_eq_true h
theorem Hd.kt_TooMany_ValueError : PySem.W.kitOne K (.ref (c_TooMany K)) (.type "ValueError") = some true := by
  have h : (decide (PySem.W.kitOne K (.ref (He.ga K "TooMany")) (.type "ValueError") = some true)) = true := T.p4 15 rfl
  exact of_decide_eq_true h
theorem Hd.ox_Unknown : LyX.OxC K (c_Unknown K) "KeyError" := by
  have h : (LyX.oxB K (He.ga K "Unknown") "LookupError.__new__" "KeyError" LyX.keTail) = true := T.p4 16 rfl
  exact LyX.oxB_ok LyX.mro_KE h
theorem Hd.in_Unknown : PySem.W.findIn K (.ref (c_Unknown K)) "__init__" = some (some (.ref (He.ma K (c_Unknown K) "__init__"))) := by
  have h : (He.eqO (PySem.W.findIn K (.ref (He.ga K "Unknown")) "__init__") (some (some (.ref (He.ma K (He.ga K "Unknown") "__init__"))))) = true := T.p4 17 rfl
  exact He.eqO_ok h
theorem Hd.it_Unknown : PySem.W.typeIn K (.ref (He.ma K (c_Unknown K) "__init__")) = some (.type "function") := by
  have h : (decide (PySem.W.typeIn K (.ref (He.ma K (He.ga K "Unknown") "__init__")) = some (.type "function"))) = true := T.p4 18 rfl
  exact of_decide_eq_true h
theorem Hd.na_Unknown_name : PySem.W.findIn K (.ref (c_Unknown K)) "name" = some none := by
  have h : (He.eqO (PySem.W.findIn K (.ref (He.ga K "Unknown")) "name") (some none)) = true := T.p4 19 rfl
  exact He.eqO_ok h
theorem Hd.xf_Unknown : L2.XfC K (c_Unknown K) := by
  have h : (L2.xfB K (He.ga K "Unknown")) = true := T.p4 20 rfl
  exact L2.xfB_ok h
theorem Hd.ec_Unknown : L2.ExcC K (c_Unknown K) := by
  have h : (LyC.excB K (He.ga K "Unknown")) = true := T.p4 21 rfl
  exact LyC.excB_ok h
theorem Hd.em_Unknown_LateError : PySem.W.exmOne K (.ref (c_Unknown K)) (.ref (c_LateError K)) = some false := by
  have h : (decide (PySem.W.exmOne K (.ref (He.ga K "Unknown")) (.ref (He.ga K "LateError")) = some false)) = true := T.p4 22 rfl
  exact of_decide_eq_true h
theorem Hd.kt_Unknown_LateError : PySem.W.kitOne K (.ref (c_Unknown K)) (.ref (c_LateError K)) = some false := by
  have h : (decide (PySem.W.kitOne K (.ref (He.ga K "Unknown")) (.ref (He.ga K "LateError")) = some false)) = true := T.p4 23 rfl
  exact of_decide_eq_true h
theorem Hd.em_Unknown_BadRow : PySem.W.exmOne K (.ref (c_Unknown K)) (.ref (c_BadRow K)) = some false := by
  have h : (decide (PySem.W.exmOne K (.ref (He.ga K "Unknown")) (.ref (He.ga K "BadRow")) = some false)) = true := T.p4 24 rfl
  exact of_decide_eq_true h
theorem Hd.kt_Unknown_BadRow : PySem.W.kitOne K (.ref (c_Unknown K)) (.ref (c_BadRow K)) = some false := by
  have h : (decide (PySem.W.kitOne K (.ref (He.ga K "Unknown")) (.ref (He.ga K "BadRow")) = some false)) = true := T.p5 0 rfl
  exact of_decide_eq_true h
theorem Hd.em_Unknown_TooMany : PySem.W.exmOne K (.ref (c_Unknown K)) (.ref (c_TooMany K)) = some false := by
  have h : (decide (PySem.W.exmOne K (.ref (He.ga K "Unknown")) (.ref (He.ga K "TooMany")) = some false)) = true := T.p5 1 rfl
  exact of_decide_eq_true h
theorem Hd.kt_Unknown_TooMany : PySem.W.kitOne K (.ref (c_Unknown K)) (.ref (c_TooMany K)) = some false := by
  have h : (decide (PySem.W.kitOne K (.ref (He.ga K "Unknown")) (.ref (He.ga K "TooMany")) = some false)) = true := T.p5 2 rfl
  exact of_decide_eq_true h
theorem Hd.em_Unknown_Unknown : PySem.W.exmOne K (.ref (c_Unknown K)) (.ref (c_Unknown K)) = some true := by
  have h : (decide (PySem.W.exmOne K (.ref (He.ga K "Unknown")) (.ref (He.ga K "Unknown")) = some true)) = true := T.p5 3 rfl
  exact of_decide_eq_true h
theorem Hd.kt_Unknown_Unknown : PySem.W.kitOne K (.ref (c_Unknown K)) (.ref (c_Unknown K)) = some true := by
  have h : (decide (PySem.W.kitOne K (.ref (He.ga K "Unknown")) (.ref (He.ga K "Unknown")) = some true)) = true := T.p5 4 rfl
  exact of_decide_eq_true h
theorem Hd.em_Unknown_KeyError : PySem.W.exmOne K (.ref (c_Unknown K)) (.type "KeyError") = some true := by
  have h : (decide (PySem.W.exmOne K (.ref (He.ga K "Unknown")) (.type "KeyError") = some true)) = true := T.p5 5 rfl
  exact of_decide_eq_true h
theorem Hd.kt_Unknown_KeyError : PySem.W.kitOne K (.ref (c_Unknown K)) (.type "KeyError") = some true := by
  have h : (decide (PySem.W.kitOne K (.ref (He.ga K "Unknown")) (.type "KeyError") = some true)) = true := T.p5 6 rfl
  exact of_decide_eq_true h
theorem Hd.em_Unknown_ValueError : PySem.W.exmOne K (.ref (c_Unknown K)) (.type "ValueError") = some false := by
  have h : (decide (PySem.W.exmOne K (.ref (He.ga K "Unknown")) (.type "ValueError") = some false)) = true := T.p5 7 rfl
  exact of_decide_eq_true h
theorem Hd.kt_Unknown_ValueError : PySem.W.kitOne K (.ref (c_Unknown K)) (.type "ValueError") = some false := by
  have h : (decide (PySem.W.kitOne K (.ref (He.ga K "Unknown")) (.type "ValueError") = some false)) = true := T.p5 8 rfl
  exact of_decide_eq_true h
theorem Hd.cl_Block : Cls K (c_Block K) := by
  have h : ((He.Fa.cls "Block").ok K) = true := T.p5 9 rfl
  exact He.cls_ok h
theorem Hd.mk_Block : Mk K (c_Block K) (He.ma K (c_Block K) "__init__") := by
  have h : ((He.Fa.mkr "Block").ok K) = true := T.p5 10 rfl
  exact He.mkr_ok h
theorem Hd.na_Block_word : NoAttr K (c_Block K) "word" := by
  have h : ((He.Fa.noat "Block" "word").ok K) = true := T.p5 11 rfl
  exact He.noat_ok h
theorem Hd.na_Block_at : NoAttr K (c_Block K) "at" := by
  have h : ((He.Fa.noat "Block" "at").ok K) = true := T.p5 12 rfl
  exact He.noat_ok h
theorem Hd.na_Block_fields : NoAttr K (c_Block K) "fields" := by
  have h : ((He.Fa.noat "Block" "fields").ok K) = true := T.p5 13 rfl
  exact He.noat_ok h
theorem Hd.na_Block_part : NoAttr K (c_Block K) "part" := by
  have h : ((He.Fa.noat "Block" "part").ok K) = true := T.p5 14 rfl
  exact He.noat_ok h
theorem Hd.na_Block_rows : NoAttr K (c_Block K) "rows" := by
  have h : ((He.Fa.noat "Block" "rows").ok K) = true := T.p5 15 rfl
  exact He.noat_ok h
theorem Hd.na_Block_later : NoAttr K (c_Block K) "later" := by
  have h : ((He.Fa.noat "Block" "later").ok K) = true := T.p5 16 rfl
  exact He.noat_ok h
theorem Hd.me_Block_add : Meth K (c_Block K) "add" (He.ma K (c_Block K) "add") := by
  have h : ((He.Fa.meth "Block" "add").ok K) = true := T.p5 17 rfl
  exact He.meth_ok h
theorem Hd.me_Block_is_guarding : Meth K (c_Block K) "is_guarding" (He.ma K (c_Block K) "is_guarding") := by
  have h : ((He.Fa.meth "Block" "is_guarding").ok K) = true := T.p5 18 rfl
  exact He.meth_ok h
theorem Hd.me_Block_keeps : Meth K (c_Block K) "keeps" (He.ma K (c_Block K) "keeps") := by
  have h : ((He.Fa.meth "Block" "keeps").ok K) = true := T.p5 19 rfl
  exact He.meth_ok h
theorem Hd.me_Block_made : Meth K (c_Block K) "made" (He.ma K (c_Block K) "made") := by
  have h : ((He.Fa.meth "Block" "made").ok K) = true := T.p5 20 rfl
  exact He.meth_ok h
theorem Hd.ic_Block : C8.InsC K (c_Block K) := by
  have h : (LyC.insB K (He.ga K "Block")) = true := T.p5 21 rfl
  exact LyC.insB_ok h
theorem Hd.cl_Reader : Cls K (c_Reader K) := by
  have h : ((He.Fa.cls "Reader").ok K) = true := T.p5 22 rfl
  exact He.cls_ok h
theorem Hd.mk_Reader : Mk K (c_Reader K) (He.ma K (c_Reader K) "__init__") := by
  have h : ((He.Fa.mkr "Reader").ok K) = true := T.p5 23 rfl
  exact He.mkr_ok h
theorem Hd.na_Reader_told : NoAttr K (c_Reader K) "told" := by
  have h : ((He.Fa.noat "Reader" "told").ok K) = true := T.p5 24 rfl
  exact He.noat_ok h
theorem Hd.na_Reader_blocks : NoAttr K (c_Reader K) "blocks" := by
  have h : ((He.Fa.noat "Reader" "blocks").ok K) = true := T.p6 0 rfl
  exact He.noat_ok h
theorem Hd.na_Reader_gates : NoAttr K (c_Reader K) "gates" := by
  have h : ((He.Fa.noat "Reader" "gates").ok K) = true := T.p6 1 rfl
  exact He.noat_ok h
theorem Hd.na_Reader_begun : NoAttr K (c_Reader K) "begun" := by
  have h : ((He.Fa.noat "Reader" "begun").ok K) = true := T.p6 2 rfl
  exact He.noat_ok h
theorem Hd.na_Reader_deepest : NoAttr K (c_Reader K) "deepest" := by
  have h : ((He.Fa.noat "Reader" "deepest").ok K) = true := T.p6 3 rfl
  exact He.noat_ok h
theorem Hd.me_Reader_take : Meth K (c_Reader K) "take" (He.ma K (c_Reader K) "take") := by
  have h : ((He.Fa.meth "Reader" "take").ok K) = true := T.p6 4 rfl
  exact He.meth_ok h
theorem Hd.me_Reader_within : Meth K (c_Reader K) "within" (He.ma K (c_Reader K) "within") := by
  have h : ((He.Fa.meth "Reader" "within").ok K) = true := T.p6 5 rfl
  exact He.meth_ok h
theorem Hd.me_Reader_alone : Meth K (c_Reader K) "alone" (He.ma K (c_Reader K) "alone") := by
  have h : ((He.Fa.meth "Reader" "alone").ok K) = true := T.p6 6 rfl
  exact He.meth_ok h
theorem Hd.me_Reader_pulled : Meth K (c_Reader K) "pulled" (He.ma K (c_Reader K) "pulled") := by
  have h : ((He.Fa.meth "Reader" "pulled").ok K) = true := T.p6 7 rfl
  exact He.meth_ok h
theorem Hd.me_Reader_opened_definition : Meth K (c_Reader K) "opened_definition" (He.ma K (c_Reader K) "opened_definition") := by
  have h : ((He.Fa.meth "Reader" "opened_definition").ok K) = true := T.p6 8 rfl
  exact He.meth_ok h
theorem Hd.me_Reader_opened : Meth K (c_Reader K) "opened" (He.ma K (c_Reader K) "opened") := by
  have h : ((He.Fa.meth "Reader" "opened").ok K) = true := T.p6 9 rfl
  exact He.meth_ok h
theorem Hd.me_Reader_added : Meth K (c_Reader K) "added" (He.ma K (c_Reader K) "added") := by
  have h : ((He.Fa.meth "Reader" "added").ok K) = true := T.p6 10 rfl
  exact He.meth_ok h
theorem Hd.me_Reader_named : Meth K (c_Reader K) "named" (He.ma K (c_Reader K) "named") := by
  have h : ((He.Fa.meth "Reader" "named").ok K) = true := T.p6 11 rfl
  exact He.meth_ok h
theorem Hd.me_Reader_turned : Meth K (c_Reader K) "turned" (He.ma K (c_Reader K) "turned") := by
  have h : ((He.Fa.meth "Reader" "turned").ok K) = true := T.p6 12 rfl
  exact He.meth_ok h
theorem Hd.me_Reader_ended : Meth K (c_Reader K) "ended" (He.ma K (c_Reader K) "ended") := by
  have h : ((He.Fa.meth "Reader" "ended").ok K) = true := T.p6 13 rfl
  exact He.meth_ok h
theorem Hd.me_Reader_may_give : Meth K (c_Reader K) "may_give" (He.ma K (c_Reader K) "may_give") := by
  have h : ((He.Fa.meth "Reader" "may_give").ok K) = true := T.p6 14 rfl
  exact He.meth_ok h
theorem Hd.me_Reader_may_pull : Meth K (c_Reader K) "may_pull" (He.ma K (c_Reader K) "may_pull") := by
  have h : ((He.Fa.meth "Reader" "may_pull").ok K) = true := T.p6 15 rfl
  exact He.meth_ok h
theorem Hd.ic_Reader : C8.InsC K (c_Reader K) := by
  have h : (LyC.insB K (He.ga K "Reader")) = true := T.p6 16 rfl
  exact LyC.insB_ok h
theorem Hd.cl_Program : Cls K (c_Program K) := by
  have h : ((He.Fa.cls "Program").ok K) = true := T.p6 17 rfl
  exact He.cls_ok h
theorem Hd.mk_Program : Mk K (c_Program K) (He.ma K (c_Program K) "__init__") := by
  have h : ((He.Fa.mkr "Program").ok K) = true := T.p6 18 rfl
  exact He.mkr_ok h
theorem Hd.na_Program_text : NoAttr K (c_Program K) "text" := by
  have h : ((He.Fa.noat "Program" "text").ok K) = true := T.p6 19 rfl
  exact He.noat_ok h
theorem Hd.na_Program_job_rows : NoAttr K (c_Program K) "job_rows" := by
  have h : ((He.Fa.noat "Program" "job_rows").ok K) = true := T.p6 20 rfl
  exact He.noat_ok h
theorem Hd.na_Program_walk_rows : NoAttr K (c_Program K) "walk_rows" := by
  have h : ((He.Fa.noat "Program" "walk_rows").ok K) = true := T.p6 21 rfl
  exact He.noat_ok h
theorem Hd.na_Program_jobs : NoAttr K (c_Program K) "jobs" := by
  have h : ((He.Fa.noat "Program" "jobs").ok K) = true := T.p6 22 rfl
  exact He.noat_ok h
theorem Hd.na_Program_walks : NoAttr K (c_Program K) "walks" := by
  have h : ((He.Fa.noat "Program" "walks").ok K) = true := T.p6 23 rfl
  exact He.noat_ok h
theorem Hd.na_Program_gates : NoAttr K (c_Program K) "gates" := by
  have h : ((He.Fa.noat "Program" "gates").ok K) = true := T.p6 24 rfl
  exact He.noat_ok h
theorem Hd.sm_Program_read : PySem.W.findCls K (.ref (c_Program K)) (.type "type") "read" = some (.get (.builtin "staticmethod.__get__") (.ref (He.ma K (c_Program K) "read")) .none (.ref (c_Program K))) ∧ ∃ rest, PySem.W.recIn K (He.ma K (c_Program K) "read") "staticmethod" = some (.ref (He5.wf K (c_Program K) "staticmethod" "read") :: rest) := by
  have h : (He5.wrapB K (He.ga K "Program") "staticmethod" "staticmethod.__get__" "read") = true := T.p7 0 rfl
  exact He5.wrapB_ok h
theorem Hd.me_Program_turned : Meth K (c_Program K) "turned" (He.ma K (c_Program K) "turned") := by
  have h : ((He.Fa.meth "Program" "turned").ok K) = true := T.p7 1 rfl
  exact He.meth_ok h
theorem Hd.sp_Program_str : PySem.W.findIn K (.ref (c_Program K)) "__str__" = some (some (.ref (He.ma K (c_Program K) "__str__"))) ∧ PySem.W.isFn K (.ref (He.ma K (c_Program K) "__str__")) = true := by
  have h : (He.eqO (PySem.W.findIn K (.ref (He.ga K "Program")) "__str__") (some (some (.ref (He.ma K (He.ga K "Program") "__str__")))) && PySem.W.isFn K (.ref (He.ma K (He.ga K "Program") "__str__"))) = true := T.p7 2 rfl
  exact ⟨He.eqO_ok (He.ba h).1, (He.ba h).2⟩
theorem Hd.sp_Program_len : PySem.W.findIn K (.ref (c_Program K)) "__len__" = some (some (.ref (He.ma K (c_Program K) "__len__"))) ∧ PySem.W.isFn K (.ref (He.ma K (c_Program K) "__len__")) = true := by
  have h : (He.eqO (PySem.W.findIn K (.ref (He.ga K "Program")) "__len__") (some (some (.ref (He.ma K (He.ga K "Program") "__len__")))) && PySem.W.isFn K (.ref (He.ma K (He.ga K "Program") "__len__"))) = true := T.p7 3 rfl
  exact ⟨He.eqO_ok (He.ba h).1, (He.ba h).2⟩
theorem Hd.sp_Program_eq : PySem.W.findIn K (.ref (c_Program K)) "__eq__" = some (some (.ref (He.ma K (c_Program K) "__eq__"))) ∧ PySem.W.isFn K (.ref (He.ma K (c_Program K) "__eq__")) = true := by
  have h : (He.eqO (PySem.W.findIn K (.ref (He.ga K "Program")) "__eq__") (some (some (.ref (He.ma K (He.ga K "Program") "__eq__")))) && PySem.W.isFn K (.ref (He.ma K (He.ga K "Program") "__eq__"))) = true := T.p7 4 rfl
  exact ⟨He.eqO_ok (He.ba h).1, (He.ba h).2⟩
theorem Hd.cr_Program : ClX.CRead K (c_Program K) (.type "type") := by
  have h : (LyC.creadB K (He.ga K "Program")) = true := T.p7 5 rfl
  exact LyC.creadB_ok h
theorem Hd.ic_Program : C8.InsC K (c_Program K) := by
  have h : (LyC.insB K (He.ga K "Program")) = true := T.p7 6 rfl
  exact LyC.insB_ok h
theorem Hd.nb_Program : PySem.W.findIn K (.ref (c_Program K)) "__ne__" = some (some (.builtin "object.__ne__")) := by
  have h : (He.eqO (PySem.W.findIn K (.ref (He.ga K "Program")) "__ne__") (some (some (.builtin "object.__ne__")))) = true := T.p7 7 rfl
  exact He.eqO_ok h
theorem Hd.kw_Program_str : PySem.W.kitOne K (.type "str") (.ref (c_Program K)) = some false := by
  have h : (decide (PySem.W.kitOne K (.type "str") (.ref (He.ga K "Program")) = some false)) = true := T.p7 8 rfl
  exact of_decide_eq_true h
theorem Hd.kw_Program_tuple : PySem.W.kitOne K (.type "tuple") (.ref (c_Program K)) = some false := by
  have h : (decide (PySem.W.kitOne K (.type "tuple") (.ref (He.ga K "Program")) = some false)) = true := T.p7 9 rfl
  exact of_decide_eq_true h
theorem Hd.kw_Program_own : PySem.W.kitOne K (.ref (c_Program K)) (.ref (c_Program K)) = some true := by
  have h : (decide (PySem.W.kitOne K (.ref (He.ga K "Program")) (.ref (He.ga K "Program")) = some true)) = true := T.p7 10 rfl
  exact of_decide_eq_true h
theorem Hd.ob_Program : PySem.W.mroIn K (c_Program K) (.type "object") = some true := by
  have h : (decide (PySem.W.mroIn K (He.ga K "Program") (.type "object") = some true)) = true := T.p7 11 rfl
  exact of_decide_eq_true h
theorem Hd.fi_KeyError : PySem.W.findCls K (.type "KeyError") (.type "type") "__init__" = some (.val (.builtin "KeyError.__init__")) := by
  have h : (LyC.valB K (.type "KeyError") "__init__" "KeyError.__init__") = true := T.p7 12 rfl
  exact LyC.valB_ok h
theorem Hd.f_is_integer : ∃ fd, FunD K "is_integer" "is_integer" (defArgs s_is_integer) (defBody s_is_integer) (defScope s_is_integer) (d_is_integer.dvs K) (d_is_integer.kws K) (d_is_integer.at_ K) fd := T.says.def_ 0 rfl
theorem Hd.f_is_made_of : ∃ fd, FunD K "is_made_of" "is_made_of" (defArgs s_is_made_of) (defBody s_is_made_of) (defScope s_is_made_of) (d_is_made_of.dvs K) (d_is_made_of.kws K) (d_is_made_of.at_ K) fd := T.says.def_ 1 rfl
theorem Hd.f_is_name : ∃ fd, FunD K "is_name" "is_name" (defArgs s_is_name) (defBody s_is_name) (defScope s_is_name) (d_is_name.dvs K) (d_is_name.kws K) (d_is_name.at_ K) fd := T.says.def_ 2 rfl
theorem Hd.f_is_times : ∃ fd, FunD K "is_times" "is_times" (defArgs s_is_times) (defBody s_is_times) (defScope s_is_times) (d_is_times.dvs K) (d_is_times.kws K) (d_is_times.at_ K) fd := T.says.def_ 3 rfl
theorem Hd.f_own_copy : ∃ fd, FunD K "own_copy" "own_copy" (defArgs s_own_copy) (defBody s_own_copy) (defScope s_own_copy) (d_own_copy.dvs K) (d_own_copy.kws K) (d_own_copy.at_ K) fd := T.says.def_ 4 rfl
theorem Hd.f_BadRow_init : ∃ fd, FunD K "__init__" "BadRow.__init__" (defArgs s_BadRow_init) (defBody s_BadRow_init) (defScope s_BadRow_init) (d_BadRow_init.dvs K) (d_BadRow_init.kws K) (d_BadRow_init.at_ K) fd := T.says.def_ 5 rfl
theorem Hd.f_TooMany_init : ∃ fd, FunD K "__init__" "TooMany.__init__" (defArgs s_TooMany_init) (defBody s_TooMany_init) (defScope s_TooMany_init) (d_TooMany_init.dvs K) (d_TooMany_init.kws K) (d_TooMany_init.at_ K) fd := T.says.def_ 6 rfl
theorem Hd.f_Unknown_init : ∃ fd, FunD K "__init__" "Unknown.__init__" (defArgs s_Unknown_init) (defBody s_Unknown_init) (defScope s_Unknown_init) (d_Unknown_init.dvs K) (d_Unknown_init.kws K) (d_Unknown_init.at_ K) fd := T.says.def_ 7 rfl
theorem Hd.f_Block_init : ∃ fd, FunD K "__init__" "Block.__init__" (defArgs s_Block_init) (defBody s_Block_init) (defScope s_Block_init) (d_Block_init.dvs K) (d_Block_init.kws K) (d_Block_init.at_ K) fd := T.says.def_ 8 rfl
theorem Hd.f_Block_add : ∃ fd, FunD K "add" "Block.add" (defArgs s_Block_add) (defBody s_Block_add) (defScope s_Block_add) (d_Block_add.dvs K) (d_Block_add.kws K) (d_Block_add.at_ K) fd := T.says.def_ 9 rfl
theorem Hd.f_Block_is_guarding : ∃ fd, FunD K "is_guarding" "Block.is_guarding" (defArgs s_Block_is_guarding) (defBody s_Block_is_guarding) (defScope s_Block_is_guarding) (d_Block_is_guarding.dvs K) (d_Block_is_guarding.kws K) (d_Block_is_guarding.at_ K) fd := T.says.def_ 10 rfl
theorem Hd.f_Block_keeps : ∃ fd, FunD K "keeps" "Block.keeps" (defArgs s_Block_keeps) (defBody s_Block_keeps) (defScope s_Block_keeps) (d_Block_keeps.dvs K) (d_Block_keeps.kws K) (d_Block_keeps.at_ K) fd := T.says.def_ 11 rfl
theorem Hd.f_Block_made : ∃ fd, FunD K "made" "Block.made" (defArgs s_Block_made) (defBody s_Block_made) (defScope s_Block_made) (d_Block_made.dvs K) (d_Block_made.kws K) (d_Block_made.at_ K) fd := T.says.def_ 12 rfl
theorem Hd.f_Reader_init : ∃ fd, FunD K "__init__" "Reader.__init__" (defArgs s_Reader_init) (defBody s_Reader_init) (defScope s_Reader_init) (d_Reader_init.dvs K) (d_Reader_init.kws K) (d_Reader_init.at_ K) fd := T.says.def_ 13 rfl
theorem Hd.f_Reader_take : ∃ fd, FunD K "take" "Reader.take" (defArgs s_Reader_take) (defBody s_Reader_take) (defScope s_Reader_take) (d_Reader_take.dvs K) (d_Reader_take.kws K) (d_Reader_take.at_ K) fd := T.says.def_ 14 rfl
theorem Hd.f_Reader_within : ∃ fd, FunD K "within" "Reader.within" (defArgs s_Reader_within) (defBody s_Reader_within) (defScope s_Reader_within) (d_Reader_within.dvs K) (d_Reader_within.kws K) (d_Reader_within.at_ K) fd := T.says.def_ 15 rfl
theorem Hd.f_Reader_alone : ∃ fd, FunD K "alone" "Reader.alone" (defArgs s_Reader_alone) (defBody s_Reader_alone) (defScope s_Reader_alone) (d_Reader_alone.dvs K) (d_Reader_alone.kws K) (d_Reader_alone.at_ K) fd := T.says.def_ 16 rfl
theorem Hd.f_Reader_pulled : ∃ fd, FunD K "pulled" "Reader.pulled" (defArgs s_Reader_pulled) (defBody s_Reader_pulled) (defScope s_Reader_pulled) (d_Reader_pulled.dvs K) (d_Reader_pulled.kws K) (d_Reader_pulled.at_ K) fd := T.says.def_ 17 rfl
theorem Hd.f_Reader_opened_definition : ∃ fd, FunD K "opened_definition" "Reader.opened_definition" (defArgs s_Reader_opened_definition) (defBody s_Reader_opened_definition) (defScope s_Reader_opened_definition) (d_Reader_opened_definition.dvs K) (d_Reader_opened_definition.kws K) (d_Reader_opened_definition.at_ K) fd := T.says.def_ 18 rfl
theorem Hd.f_Reader_opened : ∃ fd, FunD K "opened" "Reader.opened" (defArgs s_Reader_opened) (defBody s_Reader_opened) (defScope s_Reader_opened) (d_Reader_opened.dvs K) (d_Reader_opened.kws K) (d_Reader_opened.at_ K) fd := T.says.def_ 19 rfl
theorem Hd.f_Reader_added : ∃ fd, FunD K "added" "Reader.added" (defArgs s_Reader_added) (defBody s_Reader_added) (defScope s_Reader_added) (d_Reader_added.dvs K) (d_Reader_added.kws K) (d_Reader_added.at_ K) fd := T.says.def_ 20 rfl
theorem Hd.f_Reader_named : ∃ fd, FunD K "named" "Reader.named" (defArgs s_Reader_named) (defBody s_Reader_named) (defScope s_Reader_named) (d_Reader_named.dvs K) (d_Reader_named.kws K) (d_Reader_named.at_ K) fd := T.says.def_ 21 rfl
theorem Hd.f_Reader_turned : ∃ fd, FunD K "turned" "Reader.turned" (defArgs s_Reader_turned) (defBody s_Reader_turned) (defScope s_Reader_turned) (d_Reader_turned.dvs K) (d_Reader_turned.kws K) (d_Reader_turned.at_ K) fd := T.says.def_ 22 rfl
theorem Hd.f_Reader_ended : ∃ fd, FunD K "ended" "Reader.ended" (defArgs s_Reader_ended) (defBody s_Reader_ended) (defScope s_Reader_ended) (d_Reader_ended.dvs K) (d_Reader_ended.kws K) (d_Reader_ended.at_ K) fd := T.says.def_ 23 rfl
theorem Hd.f_Reader_may_give : ∃ fd, FunD K "may_give" "Reader.may_give" (defArgs s_Reader_may_give) (defBody s_Reader_may_give) (defScope s_Reader_may_give) (d_Reader_may_give.dvs K) (d_Reader_may_give.kws K) (d_Reader_may_give.at_ K) fd := T.says.def_ 24 rfl
theorem Hd.f_Reader_may_pull : ∃ fd, FunD K "may_pull" "Reader.may_pull" (defArgs s_Reader_may_pull) (defBody s_Reader_may_pull) (defScope s_Reader_may_pull) (d_Reader_may_pull.dvs K) (d_Reader_may_pull.kws K) (d_Reader_may_pull.at_ K) fd := T.says.def_ 25 rfl
theorem Hd.f_read_rows : ∃ fd, FunD K "read_rows" "read_rows" (defArgs s_read_rows) (defBody s_read_rows) (defScope s_read_rows) (d_read_rows.dvs K) (d_read_rows.kws K) (d_read_rows.at_ K) fd := T.says.def_ 26 rfl
theorem Hd.f_look_at_names : ∃ fd, FunD K "look_at_names" "look_at_names" (defArgs s_look_at_names) (defBody s_look_at_names) (defScope s_look_at_names) (d_look_at_names.dvs K) (d_look_at_names.kws K) (d_look_at_names.at_ K) fd := T.says.def_ 27 rfl
theorem Hd.f_look_at_size : ∃ fd, FunD K "look_at_size" "look_at_size" (defArgs s_look_at_size) (defBody s_look_at_size) (defScope s_look_at_size) (d_look_at_size.dvs K) (d_look_at_size.kws K) (d_look_at_size.at_ K) fd := T.says.def_ 28 rfl
theorem Hd.f_Program_init : ∃ fd, FunD K "__init__" "Program.__init__" (defArgs s_Program_init) (defBody s_Program_init) (defScope s_Program_init) (d_Program_init.dvs K) (d_Program_init.kws K) (d_Program_init.at_ K) fd := T.says.def_ 29 rfl
theorem Hd.f_Program_read : ∃ fd, FunD K "read" "Program.read" (defArgs s_Program_read) (defBody s_Program_read) (defScope s_Program_read) (d_Program_read.dvs K) (d_Program_read.kws K) (d_Program_read.at_ K) fd := T.says.def_ 30 rfl
theorem Hd.f_Program_turned : ∃ fd, FunD K "turned" "Program.turned" (defArgs s_Program_turned) (defBody s_Program_turned) (defScope s_Program_turned) (d_Program_turned.dvs K) (d_Program_turned.kws K) (d_Program_turned.at_ K) fd := T.says.def_ 31 rfl
theorem Hd.f_Program_str : ∃ fd, FunD K "__str__" "Program.__str__" (defArgs s_Program_str) (defBody s_Program_str) (defScope s_Program_str) (d_Program_str.dvs K) (d_Program_str.kws K) (d_Program_str.at_ K) fd := T.says.def_ 32 rfl
theorem Hd.f_Program_len : ∃ fd, FunD K "__len__" "Program.__len__" (defArgs s_Program_len) (defBody s_Program_len) (defScope s_Program_len) (d_Program_len.dvs K) (d_Program_len.kws K) (d_Program_len.at_ K) fd := T.says.def_ 33 rfl
theorem Hd.f_Program_eq : ∃ fd, FunD K "__eq__" "Program.__eq__" (defArgs s_Program_eq) (defBody s_Program_eq) (defScope s_Program_eq) (d_Program_eq.dvs K) (d_Program_eq.kws K) (d_Program_eq.at_ K) fd := T.says.def_ 34 rfl
theorem Hd.f_law_box : ∃ fd, FunD K "_law_box" "_law_box" (defArgs s_law_box) (defBody s_law_box) (defScope s_law_box) (d_law_box.dvs K) (d_law_box.kws K) (d_law_box.at_ K) fd := T.says.def_ 35 rfl
theorem Hd.f_law_take : ∃ fd, FunD K "_law_take" "_law_take" (defArgs s_law_take) (defBody s_law_take) (defScope s_law_take) (d_law_take.dvs K) (d_law_take.kws K) (d_law_take.at_ K) fd := T.says.def_ 36 rfl
theorem Hd.f_law_mixed : ∃ fd, FunD K "_law_mixed" "_law_mixed" (defArgs s_law_mixed) (defBody s_law_mixed) (defScope s_law_mixed) (d_law_mixed.dvs K) (d_law_mixed.kws K) (d_law_mixed.at_ K) fd := T.says.def_ 37 rfl
theorem Hd.f_law_pick : ∃ fd, FunD K "_law_pick" "_law_pick" (defArgs s_law_pick) (defBody s_law_pick) (defScope s_law_pick) (d_law_pick.dvs K) (d_law_pick.kws K) (d_law_pick.at_ K) fd := T.says.def_ 38 rfl
theorem Hd.f_law_names : ∃ fd, FunD K "_law_names" "_law_names" (defArgs s_law_names) (defBody s_law_names) (defScope s_law_names) (d_law_names.dvs K) (d_law_names.kws K) (d_law_names.at_ K) fd := T.says.def_ 39 rfl
theorem Hd.f_law_world : ∃ fd, FunD K "_law_world" "_law_world" (defArgs s_law_world) (defBody s_law_world) (defScope s_law_world) (d_law_world.dvs K) (d_law_world.kws K) (d_law_world.at_ K) fd := T.says.def_ 40 rfl
theorem Hd.f_law_rows : ∃ fd, FunD K "_law_rows" "_law_rows" (defArgs s_law_rows) (defBody s_law_rows) (defScope s_law_rows) (d_law_rows.dvs K) (d_law_rows.kws K) (d_law_rows.at_ K) fd := T.says.def_ 41 rfl
theorem Hd.f_law_row : ∃ fd, FunD K "_law_row" "_law_row" (defArgs s_law_row) (defBody s_law_row) (defScope s_law_row) (d_law_row.dvs K) (d_law_row.kws K) (d_law_row.at_ K) fd := T.says.def_ 42 rfl
theorem Hd.f_law_block : ∃ fd, FunD K "_law_block" "_law_block" (defArgs s_law_block) (defBody s_law_block) (defScope s_law_block) (d_law_block.dvs K) (d_law_block.kws K) (d_law_block.at_ K) fd := T.says.def_ 43 rfl
theorem Hd.f_law_program : ∃ fd, FunD K "_law_program" "_law_program" (defArgs s_law_program) (defBody s_law_program) (defScope s_law_program) (d_law_program.dvs K) (d_law_program.kws K) (d_law_program.at_ K) fd := T.says.def_ 44 rfl
theorem Hd.f_law_some_program : ∃ fd, FunD K "_law_some_program" "_law_some_program" (defArgs s_law_some_program) (defBody s_law_some_program) (defScope s_law_some_program) (d_law_some_program.dvs K) (d_law_some_program.kws K) (d_law_some_program.at_ K) fd := T.says.def_ 45 rfl
theorem Hd.f_law_long : ∃ fd, FunD K "_law_long" "_law_long" (defArgs s_law_long) (defBody s_law_long) (defScope s_law_long) (d_law_long.dvs K) (d_law_long.kws K) (d_law_long.at_ K) fd := T.says.def_ 46 rfl
theorem Hd.f_law_told : ∃ fd, FunD K "_law_told" "_law_told" (defArgs s_law_told) (defBody s_law_told) (defScope s_law_told) (d_law_told.dvs K) (d_law_told.kws K) (d_law_told.at_ K) fd := T.says.def_ 47 rfl
theorem Hd.f_law : ∃ fd, FunD K "law" "law" (defArgs s_law) (defBody s_law) (defScope s_law) (d_law.dvs K) (d_law.kws K) (d_law.at_ K) fd := T.says.def_ 48 rfl
end

end Ly
namespace Ly
open PySem PySem.Spec PyProof.Rows L2
/-! ### words: the program's is_made_of, is_name, is_times; own_copy of a flat value; the errors' init -/
section
variable {P : Program} {w : World} {K : PySem.W.Frag} {mg : Str → Option Value} {base : Heap}
/-- one to so many of some signs -/
def madeOf (z g : Str) (m : Int) : Bool := decide (0 < (z.length : Int)) && (decide ((z.length : Int) ≤ m) && z.cps.toList.all fun c => decide (c ∈ g.cps.toList))
def spMade : Sp := fun vs H Q _ => ∃ (z g : Str) (m : Int), vs = [.str z, .str g, .int m] ∧ z.length < 1000000 ∧ ∀ H', Same H H' → Q (.bl (madeOf z g m)) H'
theorem sc_made : FnScope ["value", "signs", "most", "sign"] ["value", "signs", "most"] (defScope s_is_made_of) := ⟨rfl, rfl, rfl, by decide +kernel, rfl, by decide +kernel, by decide +kernel⟩
theorem ok_made (T : Hd K mg) : LyC.Cl CX0 P w K mg base 1 "is_made_of" spMade [] := by
  obtain ⟨fd, F⟩ := T.f_is_made_of
  refine ⟨_, fd, ["value", "signs", "most"], [], F.ok sc_made (fun vs H Q E h => ?_) (fun cdv A outer s H vs Q E hr h => ?_), T.g_is_made_of, F.kp, F.bindsN fun _ _ _ _ _ _ us hl => match us, hl with | [_, _, _], _ => rfl, .nil⟩
  · obtain ⟨z, g, m, rfl, _⟩ := h
    rfl
  · obtain ⟨z, g, m, rfl, hz, k⟩ := h
    refine ⟨_, pss_one (ps_ret (pe_and (pe_callB call_isi (by rfl) T.n_isinstance (by decide +kernel) (pa_cons (pv 0) (pa_cons (LyC.pe_ty "str" (by rfl) T.n_str (by decide +kernel)) pa_nil)))
      (pe_and (pe_chain op_lt op_le pe_int (pe_callB call_len_str (by rfl) T.n_len PySem.boot_len (pa_cons (pv 0) pa_nil)) (pv 2))
      (pe_one (pe_callB (cr_all rfl) (by rfl) T.n_all (by decide +kernel) (pa_cons
        (pe_lc (own := [("sign", 3)]) (g := gName 3) (tt := tYes) rfl sc_made.nd (pi_str (pv 0)) (blkOk_by (N := ["value", "signs", "most", "sign"]) (sc := defScope s_is_made_of) (by decide +kernel))
          (fun _ _ _ _ _ => pg_name (i := 3) sc_made.nd rfl (Or.inl rfl)) (fun _ _ _ _ _ => pts_nil) (fun _ _ _ _ _ => pe_cmpR op_in_sign (pv 3) (pv 1) rfl)) pa_nil)))))), ?_⟩
    refine ⟨_, rfl, _, _, _, _, _, rfl, .ty _, .base (.str _), kit_ty (r := true) (by decide +kernel), true, rfl, iteT ?_⟩
    have hz2 : z.length ≤ sizeLine := by
      rw [sizeLine_eq]
      omega
    refine ⟨_, rfl, _, rfl, hz2, _, _, rfl, rfl, _, rfl, ite2 (fun c1 => ?_) (fun c1 => ?_)⟩
    · refine ⟨_, rfl, _, _, rfl, rfl, _, rfl, ite2 (fun c2 => ?_) (fun c2 => ?_)⟩
      · -- all of the signs
        refine ⟨_, rfl, z, rfl, fun D hD => ?_⟩
        refine lc_it walk_str (LyC.LcP H D (LyC.mapTo (fun c => .bl (decide (c ∈ g.cps.toList))) z.cps.toList)) (LyC.lcp0 hD rfl) (fun _ _ _ _ => trivial) ?_ ?_
        · rintro i x H1 H2 hi ⟨s1, d1⟩ ⟨rfl, c, hc, rfl⟩
          refine ⟨rfl, _, rfl, _, rfl, c, g, rfl, rfl, LyC.lcp_next hD s1 d1 ?_ (LyC.mapTo_next (x := c) ?_)⟩
          · refine Nat.lt_of_le_of_lt (LyC.mapTo_len _ _ _) ?_
            rw [sizeLine_eq, Array.length_toList]
            show z.length < _
            omega
          · rw [Array.getElem?_toList]
            exact hc
        · rintro H1 ⟨s1, d1⟩
          have e : z.cps.size = z.cps.toList.length := by simp
          rw [e, LyC.mapTo_all] at d1
          refine ⟨D, z.cps.toList.map fun c => decide (c ∈ g.cps.toList), rfl, ?_, ?_⟩
          · rw [List.map_map]
            exact SqL.of d1
          · have e2 : (z.cps.toList.map fun c => decide (c ∈ g.cps.toList)).all id = madeOf z g m := by
              unfold madeOf
              rw [c1, c2, List.all_map]
              rfl
            show Q _ _
            rw [e2]
            exact k H1 s1
      · have e2 : (false : Bool) = madeOf z g m := by
          unfold madeOf
          rw [Bool.eq_false_iff.mpr c2, Bool.false_and, Bool.and_false]
        show Q _ _
        rw [e2]
        exact k H (Same.refl H)
    · have e2 : (false : Bool) = madeOf z g m := by
        unfold madeOf
        rw [Bool.eq_false_iff.mpr c1, Bool.false_and]
      refine ⟨false, rfl, iteF ?_⟩
      show Q _ _
      rw [e2]
      exact k H (Same.refl H)
def isName (z : Str) : Bool := madeOf z "abcdefghijklmnopqrstuvwxyz" 8 && !decide (z ∈ k_LANGUAGE)
def spName : Sp := fun vs H Q _ => ∃ z : Str, vs = [.str z] ∧ z.length < 1000000 ∧ ∀ H', Same H H' → Q (.bl (isName z)) H'
theorem sc_name : FnScope ["value"] ["value"] (defScope s_is_name) := ⟨rfl, rfl, rfl, by decide +kernel, rfl, by decide +kernel, by decide +kernel⟩
theorem ok_name (T : Hd K mg) : LyC.Cl CX0 P w K mg base 2 "is_name" spName [] := by
  obtain ⟨fd, F⟩ := T.f_is_name
  refine ⟨_, fd, ["value"], [], F.ok sc_name (fun vs H Q E h => ?_) (fun cdv A outer s H vs Q E hr h => ?_), T.g_is_name, F.kp, F.bindsN fun _ _ _ _ _ _ us hl => match us, hl with | [_], _ => rfl, .nil⟩
  · obtain ⟨z, rfl, _⟩ := h
    rfl
  · obtain ⟨z, rfl, hz, k⟩ := h
    refine ⟨_, pss_one (ps_ret (pe_and (LyC.pe_f (ok_made T) hr (pa_cons (pv 0) (pa_cons (LyC.pe_gS T.g_SMALL) (pa_cons pe_int pa_nil))))
      (pe_one (pe_cmpR op_notIn_seq (pv 0) (LyC.pe_gR T.g_LANGUAGE) rfl)))), ?_⟩
    refine ⟨_, rfl, z, _, 8, rfl, hz, fun H1 s1 => ⟨_, rfl, ite2 (fun c1 => ?_) (fun c1 => ?_)⟩⟩
    · refine ⟨_, rfl, _, _, rfl, .inr (T.t_LANGUAGE H1), rfl, LyC.flat_strs _, ?_⟩
      rw [LyC.inV_strs]
      have e : (!decide (z ∈ k_LANGUAGE)) = isName z := by
        unfold isName
        rw [c1, Bool.true_and]
      show Q (.bl (!decide (z ∈ k_LANGUAGE))) H1
      rw [e]
      exact k H1 s1
    · have e : false = isName z := by
        unfold isName
        rw [Bool.eq_false_iff.mpr c1, Bool.false_and]
      show Q (.bl false) H1
      rw [e]
      exact k H1 s1
def isTimes (z : Str) : Bool := madeOf z "0123456789" 1 && !decide (V.str z = V.str "0")
def spTimes : Sp := fun vs H Q _ => ∃ z : Str, vs = [.str z] ∧ z.length < 1000000 ∧ ∀ H', Same H H' → Q (.bl (isTimes z)) H'
theorem sc_times : FnScope ["value"] ["value"] (defScope s_is_times) := ⟨rfl, rfl, rfl, by decide +kernel, rfl, by decide +kernel, by decide +kernel⟩
theorem ok_times (T : Hd K mg) : LyC.Cl CX0 P w K mg base 2 "is_times" spTimes [] := by
  obtain ⟨fd, F⟩ := T.f_is_times
  refine ⟨_, fd, ["value"], [], F.ok sc_times (fun vs H Q E h => ?_) (fun cdv A outer s H vs Q E hr h => ?_), T.g_is_times, F.kp, F.bindsN fun _ _ _ _ _ _ us hl => match us, hl with | [_], _ => rfl, .nil⟩
  · obtain ⟨z, rfl, _⟩ := h
    rfl
  · obtain ⟨z, rfl, hz, k⟩ := h
    refine ⟨_, pss_one (ps_ret (pe_and (LyC.pe_f (ok_made T) hr (pa_cons (pv 0) (pa_cons (LyC.pe_gS T.g_DIGITS) (pa_cons pe_int pa_nil))))
      (pe_one (pe_cmpR op_ne (pv 0) pe_str (nomark _))))), ?_⟩
    refine ⟨_, rfl, z, _, 1, rfl, hz, fun H1 s1 => ⟨_, rfl, ite2 (fun c1 => ?_) (fun c1 => ?_)⟩⟩
    · refine ⟨_, rfl, rfl, ?_⟩
      have e : (!decide (V.str z = V.str "0")) = isTimes z := by
        unfold isTimes
        rw [c1, Bool.true_and]
      show Q (.bl (!decide (V.str z = V.str "0"))) H1
      rw [e]
      exact k H1 s1
    · have e : false = isTimes z := by
        unfold isTimes
        rw [Bool.eq_false_iff.mpr c1, Bool.false_and]
      show Q (.bl false) H1
      rw [e]
      exact k H1 s1
theorem sc_own : FnScope ["value", "deep"] ["value", "deep"] (defScope s_own_copy) := ⟨rfl, rfl, rfl, by decide +kernel, rfl, by decide +kernel, by decide +kernel⟩
theorem ok_own (T : Hd K mg) : LyC.Cl CX0 P w K mg base 1 "own_copy" LyC.spOwn [.int 9] := by
  obtain ⟨fd, F⟩ := T.f_own_copy
  obtain ⟨ds, rd, bd⟩ := FunD.binds1 (ps := ["value", "deep"]) F 1 0 (List.cons_ne_nil _ _) rfl (fun _ _ _ _ _ _ _ us its h1 h2 => match us, its, h1, h2 with | [_], [_], _, _ => ⟨_, rfl, rfl⟩)
  refine ⟨_, fd, ["value", "deep"], ds, F.ok sc_own (fun vs H Q E h => ?_) (fun cdv A outer s H vs Q E hr h => ?_), T.g_own_copy, F.kp, bd, rd⟩
  · obtain ⟨v, d, rfl, _⟩ := h
    rfl
  · obtain ⟨v, d, rfl, hv, hd, k⟩ := h
    refine ⟨_, pss_cons (ps_if (PW.pt (pw_and (pt_cmpR op_gt (pv 1) pe_int (nomark _)) (pw_and1 (pt_val (pe_callB call_isi (by rfl) T.n_isinstance (by decide +kernel) (pa_cons (pv 0) (pa_cons (LyC.pe_ty "list" (by rfl) T.n_list (by decide +kernel)) pa_nil)))))))
        (pss_one (ps_ret LyX.pe_no)) pss_nil)
      (pss_cons (ps_if (PW.pt (pw_and (pt_cmpR op_gt (pv 1) pe_int (nomark _)) (pw_and1 (pt_val (pe_callB call_isi (by rfl) T.n_isinstance (by decide +kernel) (pa_cons (pv 0) (pa_cons (LyC.pe_ty "dict" (by rfl) T.n_dict (by decide +kernel)) pa_nil)))))))
        (pss_one (ps_ret LyX.pe_no)) pss_nil)
      (pss_one (ps_ret (pe_ifExp (PW.pt (pw_and (pt_cmpR op_gt (pv 1) pe_int (nomark _)) (pw_and1 (pt_val (pe_callB call_isi (by rfl) T.n_isinstance (by decide +kernel) (pa_cons (pv 0) (pa_cons (LyC.pe_ty "tuple" (by rfl) T.n_tuple (by decide +kernel)) pa_nil)))))))
        LyX.pe_no (pv 0))))), ?_⟩
    have hd2 : decide (d > 0) = true := decide_eq_true hd
    obtain ⟨t1, y1, z1⟩ := LyC.flat_isi (K := K) (H := H) hv (.inl rfl)
    obtain ⟨t2, y2, z2⟩ := LyC.flat_isi (K := K) (H := H) hv (.inr (.inl rfl))
    obtain ⟨t3, y3, z3⟩ := LyC.flat_isi (K := K) (H := H) hv (.inr (.inr rfl))
    refine ⟨_, rfl, _, _, rfl, rfl, _, rfl, ite2 (fun _ => ?_) (fun c => absurd hd2 c)⟩
    refine ⟨_, rfl, _, _, _, _, _, rfl, .ty _, y1, z1, false, rfl, ?_⟩
    refine ⟨_, rfl, _, _, rfl, rfl, _, rfl, ite2 (fun _ => ?_) (fun c => absurd hd2 c)⟩
    refine ⟨_, rfl, _, _, _, _, _, rfl, .ty _, y2, z2, false, rfl, ?_⟩
    refine ⟨_, rfl, _, _, rfl, rfl, _, rfl, ite2 (fun _ => ?_) (fun c => absurd hd2 c)⟩
    exact ⟨_, rfl, _, _, _, _, _, rfl, .ty _, y3, z3, false, rfl, _, rfl, k⟩
end

end Ly
namespace Ly
open PySem PySem.Spec PyProof.Rows L2
/-! ### the errors -/
section
variable {P : Program} {w : World} {K : PySem.W.Frag} {mg : Str → Option Value} {base : Heap}
theorem sc_x_BadRow : FnScope ["self", "at"] ["self", "at"] (defScope s_BadRow_init) := ⟨rfl, rfl, rfl, by decide +kernel, rfl, by decide +kernel, by decide +kernel⟩
theorem ok_x_BadRow (T : Hd K mg) : LyC.Ex P w K mg base 2 "BadRow" (c_BadRow K) "ValueError" (LyC.spXI (c_BadRow K) "at") := by
  obtain ⟨fd, F⟩ := T.f_BadRow_init
  refine ⟨T.ox_BadRow, _, fd, ["self", "at"], T.in_BadRow, T.it_BadRow, F.ok sc_x_BadRow (fun vs H Q E h => ?_) (fun cdv A outer s H vs Q E hr h => ?_), F.bindsN fun _ _ _ _ _ _ us hl => match us, hl with | [_, _], _ => rfl, T.g_BadRow⟩
  · obtain ⟨a, v, rfl, _⟩ := h
    rfl
  · obtain ⟨a, v, rfl, hv, ha, k⟩ := h
    have hr1 : Room 1 _ := hr
    refine ⟨_, pss_cons (ps_expr (LyX.pe_iniC LyX.ini_VE "LateError" rfl T.g_LateError T.cr_LateError T.fi_LateError (by decide +kernel) (pa_cons (pv 0) (pa_cons (LyC.pe_f (ok_own T) hr1 (pa_cons (pv 1) pa_nil)) pa_nil))))
      (pss_one (LyX.ps_set1 "ValueError" (pv 0) (LyC.pe_f (ok_own T) hr1 (pa_cons (pv 1) pa_nil)))), ?_⟩
    refine ⟨_, rfl, _, rfl, v, 9, rfl, hv, by decide, a, c_BadRow K, [v], rfl, by show 1 ≤ 1000; decide, T.ox_BadRow, ha, ?_⟩
    exact ⟨_, rfl, v, 9, rfl, hv, by decide, _, rfl, a, c_BadRow K, rfl, T.ox_BadRow, T.na_BadRow_at, ha, fun dx n ne => k dx n ne⟩
theorem sc_x_TooMany : FnScope ["self", "word"] ["self", "word"] (defScope s_TooMany_init) := ⟨rfl, rfl, rfl, by decide +kernel, rfl, by decide +kernel, by decide +kernel⟩
theorem ok_x_TooMany (T : Hd K mg) : LyC.Ex P w K mg base 2 "TooMany" (c_TooMany K) "ValueError" (LyC.spXI (c_TooMany K) "word") := by
  obtain ⟨fd, F⟩ := T.f_TooMany_init
  refine ⟨T.ox_TooMany, _, fd, ["self", "word"], T.in_TooMany, T.it_TooMany, F.ok sc_x_TooMany (fun vs H Q E h => ?_) (fun cdv A outer s H vs Q E hr h => ?_), F.bindsN fun _ _ _ _ _ _ us hl => match us, hl with | [_, _], _ => rfl, T.g_TooMany⟩
  · obtain ⟨a, v, rfl, _⟩ := h
    rfl
  · obtain ⟨a, v, rfl, hv, ha, k⟩ := h
    have hr1 : Room 1 _ := hr
    refine ⟨_, pss_cons (ps_expr (LyX.pe_iniC LyX.ini_VE "LateError" rfl T.g_LateError T.cr_LateError T.fi_LateError (by decide +kernel) (pa_cons (pv 0) (pa_cons (LyC.pe_f (ok_own T) hr1 (pa_cons (pv 1) pa_nil)) pa_nil))))
      (pss_one (LyX.ps_set1 "ValueError" (pv 0) (LyC.pe_f (ok_own T) hr1 (pa_cons (pv 1) pa_nil)))), ?_⟩
    refine ⟨_, rfl, _, rfl, v, 9, rfl, hv, by decide, a, c_TooMany K, [v], rfl, by show 1 ≤ 1000; decide, T.ox_TooMany, ha, ?_⟩
    exact ⟨_, rfl, v, 9, rfl, hv, by decide, _, rfl, a, c_TooMany K, rfl, T.ox_TooMany, T.na_TooMany_word, ha, fun dx n ne => k dx n ne⟩
theorem sc_x_Unknown : FnScope ["self", "name"] ["self", "name"] (defScope s_Unknown_init) := ⟨rfl, rfl, rfl, by decide +kernel, rfl, by decide +kernel, by decide +kernel⟩
theorem ok_x_Unknown (T : Hd K mg) : LyC.Ex P w K mg base 2 "Unknown" (c_Unknown K) "KeyError" (LyC.spXI (c_Unknown K) "name") := by
  obtain ⟨fd, F⟩ := T.f_Unknown_init
  refine ⟨T.ox_Unknown, _, fd, ["self", "name"], T.in_Unknown, T.it_Unknown, F.ok sc_x_Unknown (fun vs H Q E h => ?_) (fun cdv A outer s H vs Q E hr h => ?_), F.bindsN fun _ _ _ _ _ _ us hl => match us, hl with | [_, _], _ => rfl, T.g_Unknown⟩
  · obtain ⟨a, v, rfl, _⟩ := h
    rfl
  · obtain ⟨a, v, rfl, hv, ha, k⟩ := h
    have hr1 : Room 1 _ := hr
    refine ⟨_, pss_cons (ps_expr (LyX.pe_iniT LyX.ini_KE "KeyError" rfl T.n_KeyError (by decide +kernel) (by kernel_rfl) (by decide +kernel) T.fi_KeyError (by decide +kernel) (pa_cons (pv 0) (pa_cons (LyC.pe_f (ok_own T) hr1 (pa_cons (pv 1) pa_nil)) pa_nil))))
      (pss_one (LyX.ps_set1 "KeyError" (pv 0) (LyC.pe_f (ok_own T) hr1 (pa_cons (pv 1) pa_nil)))), ?_⟩
    refine ⟨_, rfl, _, rfl, v, 9, rfl, hv, by decide, a, c_Unknown K, [v], rfl, by show 1 ≤ 1000; decide, T.ox_Unknown, ha, ?_⟩
    exact ⟨_, rfl, v, 9, rfl, hv, by decide, _, rfl, a, c_Unknown K, rfl, T.ox_Unknown, T.na_Unknown_name, ha, fun dx n ne => k dx n ne⟩
end

end Ly
namespace Ly
open PySem PySem.Spec PyProof.Rows L2
/-! ### the mirror: what a reader has read -/
/-- a definition or a block that is open -/
inductive En where
  | walk (n : Str) | job (n : Str) | rep | guard | late | mend | each (w h : Str)
  deriving DecidableEq
def En.word : En → Str
  | .walk _ => "walk"
  | .job _ => "job"
  | .rep => "repeat"
  | .guard => "guard"
  | .late => "guard"
  | .mend => "guard"
  | .each _ _ => "each"
def En.part : En → V
  | .late => .str "late"
  | .mend => .str "mend"
  | _ => .non
def En.fl : En → List V → Prop
  | .walk n, xs => xs = [.str n]
  | .job n, xs => xs = [.str n]
  | .each w h, xs => ∃ t, xs = [.str w, .str h, t]
  | _, _ => True
def En.isJob : En → Bool
  | .job _ => true
  | _ => false
def En.isWalk : En → Bool
  | .walk _ => true
  | _ => false
/-- what has been read -/
structure Rs where
  stack : List En
  walks : List Str
  jobs : List Str
  begun : List Str
  gates : List Str
  deep : Int
def Rs.init : Rs := ⟨[], [], [], [], [], 0⟩
def Rs.told (s : Rs) (sort : Str) : List Str := if sort = "walk" then s.walks else s.jobs
def Rs.push (s : Rs) (e : En) : Rs := { s with stack := s.stack ++ [e], deep := if (s.stack.length : Int) > s.deep then (s.stack.length : Int) else s.deep }
/-- a row that may stand nowhere here -/
def eachOk (s : Rs) (w h : Str) (ts : List Str) : Bool :=
  decide (w ∈ s.walks) && (decide (h ∈ k_HOWS) && ((!decide (h = "kept") || (s.stack.head?.any En.isJob && !decide (En.each w "kept" ∈ s.stack))) && ts.all isTimes))
/-! ### objects -/
def bflds (wd : Str) (at_ : Int) (f : Addr) (pt : V) (r l : Addr) : List (Str × V) := [("word", .str wd), ("at", .int at_), ("fields", .ref f), ("part", pt), ("rows", .ref r), ("later", .ref l)]
theorem b_word {wd at_ f pt r l} : (bflds wd at_ f pt r l).lookup ("word" : Str) = some (.str wd) := by kernel_rfl
theorem b_at {wd at_ f pt r l} : (bflds wd at_ f pt r l).lookup ("at" : Str) = some (.int at_) := by kernel_rfl
theorem b_fields {wd at_ f pt r l} : (bflds wd at_ f pt r l).lookup ("fields" : Str) = some (.ref f) := by kernel_rfl
theorem b_part {wd at_ f pt r l} : (bflds wd at_ f pt r l).lookup ("part" : Str) = some pt := by kernel_rfl
theorem b_rows {wd at_ f pt r l} : (bflds wd at_ f pt r l).lookup ("rows" : Str) = some (.ref r) := by kernel_rfl
theorem b_later {wd at_ f pt r l} : (bflds wd at_ f pt r l).lookup ("later" : Str) = some (.ref l) := by kernel_rfl
theorem b_put {wd at_ f pt r l} (v : V) : putF "part" v (bflds wd at_ f pt r l) = bflds wd at_ f v r l := by kernel_rfl
theorem b_add {wd at_ f pt r l} : (bflds wd at_ f pt r l).lookup ("add" : Str) = none := by kernel_rfl
theorem b_isg {wd at_ f pt r l} : (bflds wd at_ f pt r l).lookup ("is_guarding" : Str) = none := by kernel_rfl
theorem b_keeps {wd at_ f pt r l} : (bflds wd at_ f pt r l).lookup ("keeps" : Str) = none := by kernel_rfl
theorem b_made {wd at_ f pt r l} : (bflds wd at_ f pt r l).lookup ("made" : Str) = none := by kernel_rfl
def rflds (dt lb dg lg : Addr) (d : Int) : List (Str × V) := [("told", .ref dt), ("blocks", .ref lb), ("gates", .ref dg), ("begun", .ref lg), ("deepest", .int d)]
theorem r_told {dt lb dg lg d} : (rflds dt lb dg lg d).lookup ("told" : Str) = some (.ref dt) := by kernel_rfl
theorem r_blocks {dt lb dg lg d} : (rflds dt lb dg lg d).lookup ("blocks" : Str) = some (.ref lb) := by kernel_rfl
theorem r_gates {dt lb dg lg d} : (rflds dt lb dg lg d).lookup ("gates" : Str) = some (.ref dg) := by kernel_rfl
theorem r_begun {dt lb dg lg d} : (rflds dt lb dg lg d).lookup ("begun" : Str) = some (.ref lg) := by kernel_rfl
theorem r_deepest {dt lb dg lg d} : (rflds dt lb dg lg d).lookup ("deepest" : Str) = some (.int d) := by kernel_rfl
theorem r_put {dt lb dg lg d} (e : Int) : putF "deepest" (.int e) (rflds dt lb dg lg d) = rflds dt lb dg lg e := by kernel_rfl
theorem r_no {dt lb dg lg d} {m : Str} (h : ¬ (m = "told" ∨ m = "blocks" ∨ m = "gates" ∨ m = "begun" ∨ m = "deepest")) : (rflds dt lb dg lg d).lookup m = none := by
  simp only [not_or] at h
  obtain ⟨h1, h2, h3, h4, h5⟩ := h
  unfold rflds
  rw [lookup_put, if_neg h1, lookup_put, if_neg h2, lookup_put, if_neg h3, lookup_put, if_neg h4, lookup_put, if_neg h5]
  rfl
/-- a block at q, the entry e: H0 is what may not be touched, lb and lg are other lists -/
structure BlkAt (K : PySem.W.Frag) (H0 H : Hp) (lb lg : Addr) (n : Nat) (q : Addr) (e : En) : Prop where
  ex : ∃ (dx f r l : Addr) (at_ : Int) (xs ys zs : List V), H q = some (.ins (c_Block K) dx (bflds e.word at_ f e.part r l)) ∧ H f = some (.tup xs) ∧ e.fl xs ∧ xs.length ≤ 3 ∧
    H r = some (.lst ys) ∧ H l = some (.lst zs) ∧ ys.length ≤ n ∧ zs.length ≤ n ∧ r ≠ lb ∧ r ≠ lg ∧ l ≠ lb ∧ l ≠ lg ∧ H0 r = none ∧ H0 l = none
  fr : H0 q = none
/-- where a reader's parts stand -/
structure Ads where
  dx : Addr
  dt : Addr
  dw : Addr
  dj : Addr
  lb : Addr
  dg : Addr
  lg : Addr
  qs : List Addr
structure RdAt (K : PySem.W.Frag) (H0 H : Hp) (n : Nat) (p : Addr) (A : Ads) (s : Rs) : Prop where
  same : Same H0 H
  ob : H p = some (.ins (c_Reader K) A.dx (rflds A.dt A.lb A.dg A.lg s.deep))
  told : H A.dt = some (.dK [(Sum.inr "walk", .ref A.dw), (Sum.inr "job", .ref A.dj)])
  wk : ∃ kv, H A.dw = some (.dK kv) ∧ kv.map (·.1) = s.walks.map Sum.inr
  jb : ∃ kv, H A.dj = some (.dK kv) ∧ kv.map (·.1) = s.jobs.map Sum.inr
  bl : H A.lb = some (.lst (A.qs.map V.ref))
  gt : ∃ kv, H A.dg = some (.dK kv) ∧ kv.map (·.1) = s.gates.map Sum.inr
  bg : H A.lg = some (.lst (s.begun.map V.str))
  blk : Paired (BlkAt K H0 H A.lb A.lg n) A.qs s.stack
  nd : A.qs.Nodup
  n1 : A.lb ≠ A.lg
  n2 : A.dt ≠ A.dw
  n3 : A.dt ≠ A.dj
  n4 : A.dw ≠ A.dj
  n5 : A.dg ≠ A.dt
  n6 : A.dg ≠ A.dw
  n7 : A.dg ≠ A.dj
  f0 : H0 p = none
  f2 : H0 A.dw = none
  f3 : H0 A.dj = none
  f4 : H0 A.lb = none
  f5 : H0 A.dg = none
  f6 : H0 A.lg = none
  z1 : s.stack.length ≤ n
  z2 : s.begun.length ≤ n
  z3 : s.walks.length ≤ n
  z4 : s.jobs.length ≤ n
  z5 : s.gates.length ≤ n
  zd : 0 ≤ s.deep ∧ s.deep ≤ n
section
variable {K : PySem.W.Frag} {H0 H H' : Hp} {lb lg : Addr} {n m : Nat} {p q : Addr} {A : Ads} {s : Rs} {e : En}
theorem BlkAt.mono (b : BlkAt K H0 H lb lg n q e) (sm : Same H H') (h : n ≤ m) : BlkAt K H0 H' lb lg m q e := by
  obtain ⟨dx, f, r, l, a, xs, ys, zs, h1, h2, h3, h4, h5, h6, h7, h8, h9⟩ := b.ex
  exact ⟨⟨dx, f, r, l, a, xs, ys, zs, sm _ _ h1, sm _ _ h2, h3, h4, sm _ _ h5, sm _ _ h6, Nat.le_trans h7 h, Nat.le_trans h8 h, h9⟩, b.fr⟩
theorem RdAt.mono (R : RdAt K H0 H n p A s) (sm : Same H H') (h : n ≤ m) : RdAt K H0 H' m p A s := by
  obtain ⟨kw, w1, w2⟩ := R.wk
  obtain ⟨kj, j1, j2⟩ := R.jb
  obtain ⟨kg, g1, g2⟩ := R.gt
  exact ⟨R.same.trans sm, sm _ _ R.ob, sm _ _ R.told, ⟨kw, sm _ _ w1, w2⟩, ⟨kj, sm _ _ j1, j2⟩, sm _ _ R.bl, ⟨kg, sm _ _ g1, g2⟩, sm _ _ R.bg,
    Paired.mapP R.blk fun _ _ b => b.mono sm h, R.nd, R.n1, R.n2, R.n3, R.n4, R.n5, R.n6, R.n7, R.f0, R.f2, R.f3, R.f4, R.f5, R.f6,
    Nat.le_trans R.z1 h, Nat.le_trans R.z2 h, Nat.le_trans R.z3 h, Nat.le_trans R.z4 h, Nat.le_trans R.z5 h, R.zd.1, by have := R.zd.2; omega⟩
/-- an object beside, told as such -/
theorem RdAt.beside (R : RdAt K H0 H n p A s) {x : Addr} {o : HO} (hx : H x = none) : RdAt K (upd H0 x o) (upd H x o) n p A s := by
  have R2 := R.mono (LyC.same_new (o := o) hx) (Nat.le_refl n)
  have fr : ∀ {b : Addr} {u : HO}, H b = some u → H0 b = none → upd H0 x o b = none := fun {b u} z z0 => by
    rw [upd_ne (ne_of_none z hx)]
    exact z0
  obtain ⟨kw, w1, _⟩ := R.wk
  obtain ⟨kj, j1, _⟩ := R.jb
  obtain ⟨kg, g1, _⟩ := R.gt
  refine { R2 with same := ?_, blk := ?_, f0 := fr R.ob R.f0, f2 := fr w1 R.f2, f3 := fr j1 R.f3, f4 := fr R.bl R.f4, f5 := fr g1 R.f5, f6 := fr R.bg R.f6 }
  · intro b u z
    by_cases hb : b = x
    · subst hb
      rw [upd_same] at z ⊢
      exact z
    · rw [upd_ne hb] at z ⊢
      exact R.same b u z
  · refine Paired.mapP R.blk fun q e b => ?_
    obtain ⟨dx, f, r, l, a, xs, ys, zs, h1, h2, h3, h4, h5, h6, h7, h8, h9, h10, h11, h12, h13, h14⟩ := b.ex
    have sm := LyC.same_new (o := o) hx
    exact ⟨⟨dx, f, r, l, a, xs, ys, zs, sm _ _ h1, sm _ _ h2, h3, h4, sm _ _ h5, sm _ _ h6, h7, h8, h9, h10, h11, h12, fr h5 h13, fr h6 h14⟩, fr h1 b.fr⟩
/-- a write elsewhere -/
theorem BlkAt.put (b : BlkAt K H0 H lb lg n q e) {x : Addr} {u o : HO} (hx : H x = some u) (nq : q ≠ x) (nt : ∀ xs, u ≠ .tup xs) (nl : (∀ xs, u ≠ .lst xs) ∨ x = lb ∨ x = lg) : BlkAt K H0 (upd H x o) lb lg n q e := by
  obtain ⟨dx, f, r, l, a, xs, ys, zs, h1, h2, h3, h4, h5, h6, h7, h8, h9, h10, h11, h12, h13, h14⟩ := b.ex
  have nf : f ≠ x := ne_of h2 hx (fun z => nt _ z.symm)
  have nr : r ≠ x := by
    rcases nl with nl | rfl | rfl
    · exact ne_of h5 hx (fun z => nl _ z.symm)
    · exact h9
    · exact h10
  have nl2 : l ≠ x := by
    rcases nl with nl | rfl | rfl
    · exact ne_of h6 hx (fun z => nl _ z.symm)
    · exact h11
    · exact h12
  exact ⟨⟨dx, f, r, l, a, xs, ys, zs, by rw [upd_ne nq]; exact h1, by rw [upd_ne nf]; exact h2, h3, h4, by rw [upd_ne nr]; exact h5, by rw [upd_ne nl2]; exact h6, h7, h8, h9, h10, h11, h12, h13, h14⟩, b.fr⟩
/-- a row put to a list of a block -/
theorem BlkAt.row (b : BlkAt K H0 H lb lg n q e) {x : Addr} {vs : List V} {v : V} (hx : H x = some (.lst vs)) (hl : vs.length ≤ n) : BlkAt K H0 (upd H x (.lst (vs ++ [v]))) lb lg (n + 1) q e := by
  obtain ⟨dx, f, r, l, a, xs, ys, zs, h1, h2, h3, h4, h5, h6, h7, h8, h9⟩ := b.ex
  have hl2 : (vs ++ [v]).length ≤ n + 1 := by
    rw [List.length_append]
    exact Nat.succ_le_succ hl
  have two : ∀ {r : Addr} {ys : List V}, H r = some (.lst ys) → ys.length ≤ n → ∃ ys', upd H x (.lst (vs ++ [v])) r = some (.lst ys') ∧ ys'.length ≤ n + 1 := by
    intro r ys h5 h7
    by_cases c : r = x
    · subst c
      exact ⟨_, upd_same, hl2⟩
    · exact ⟨ys, by rw [upd_ne c]; exact h5, Nat.le_succ_of_le h7⟩
  obtain ⟨y2, e1, e2⟩ := two h5 h7
  obtain ⟨z2, e3, e4⟩ := two h6 h8
  exact ⟨⟨dx, f, r, l, a, xs, y2, z2, by rw [upd_ne (ne_of h1 hx (fun z => nomatch z))]; exact h1, by rw [upd_ne (ne_of h2 hx (fun z => nomatch z))]; exact h2, h3, h4, e1, e3, e2, e4, h9⟩, b.fr⟩
theorem RdAt.row (R : RdAt K H0 H n p A s) {x : Addr} {vs : List V} {v : V} (hx : H x = some (.lst vs)) (hl : vs.length ≤ n) (n1 : x ≠ A.lb) (n2 : x ≠ A.lg) (h0 : H0 x = none) : RdAt K H0 (upd H x (.lst (vs ++ [v]))) (n + 1) p A s := by
  obtain ⟨kw, w1, w2⟩ := R.wk
  obtain ⟨kj, j1, j2⟩ := R.jb
  obtain ⟨kg, g1, g2⟩ := R.gt
  have nd : ∀ {b : Addr} {u : HO}, H b = some u → (∀ xs, u ≠ .lst xs) → upd H x (.lst (vs ++ [v])) b = some u := fun {b u} h z => by
    rw [upd_ne (ne_of h hx (z _))]
    exact h
  exact { R with
    same := LyC.Same.upd R.same h0
    ob := nd R.ob (fun _ z => nomatch z)
    told := nd R.told (fun _ z => nomatch z)
    wk := ⟨kw, nd w1 (fun _ z => nomatch z), w2⟩
    jb := ⟨kj, nd j1 (fun _ z => nomatch z), j2⟩
    bl := by rw [upd_ne (Ne.symm n1)]; exact R.bl
    gt := ⟨kg, nd g1 (fun _ z => nomatch z), g2⟩
    bg := by rw [upd_ne (Ne.symm n2)]; exact R.bg
    blk := Paired.mapP R.blk fun _ _ b => b.row hx hl
    z1 := Nat.le_succ_of_le R.z1
    z2 := Nat.le_succ_of_le R.z2
    z3 := Nat.le_succ_of_le R.z3
    z4 := Nat.le_succ_of_le R.z4
    z5 := Nat.le_succ_of_le R.z5
    zd := ⟨R.zd.1, by have := R.zd.2; omega⟩ }
/-- the list of blocks written -/
theorem RdAt.blocks (R : RdAt K H0 H n p A s) {qs : List Addr} {st : List En} (hb : Paired (BlkAt K H0 H A.lb A.lg n) qs st) (nd : qs.Nodup) (hl : st.length ≤ n) :
    RdAt K H0 (upd H A.lb (.lst (qs.map V.ref))) n p { A with qs := qs } { s with stack := st } := by
  obtain ⟨kw, w1, w2⟩ := R.wk
  obtain ⟨kj, j1, j2⟩ := R.jb
  obtain ⟨kg, g1, g2⟩ := R.gt
  have ndd : ∀ {b : Addr} {u : HO}, H b = some u → (∀ xs, u ≠ .lst xs) → upd H A.lb (.lst (qs.map V.ref)) b = some u := fun {b u} h z => by
    rw [upd_ne (ne_of h R.bl (z _))]
    exact h
  exact { R with
    same := LyC.Same.upd R.same R.f4
    ob := ndd R.ob (fun _ z => nomatch z)
    told := ndd R.told (fun _ z => nomatch z)
    wk := ⟨kw, ndd w1 (fun _ z => nomatch z), w2⟩
    jb := ⟨kj, ndd j1 (fun _ z => nomatch z), j2⟩
    bl := upd_same
    gt := ⟨kg, ndd g1 (fun _ z => nomatch z), g2⟩
    bg := by show upd H A.lb _ A.lg = _; rw [upd_ne (Ne.symm R.n1)]; exact R.bg
    blk := Paired.mapP hb fun _ _ b => b.put R.bl (ne_of b.ex.choose_spec.choose_spec.choose_spec.choose_spec.choose_spec.choose_spec.choose_spec.choose_spec.1 R.bl (fun z => nomatch z)) (fun _ z => nomatch z) (.inr (.inl rfl))
    nd := nd
    z1 := hl }
/-- a begun name -/
theorem RdAt.begin (R : RdAt K H0 H n p A s) (nm : Str) (h : s.begun.length < n) :
    RdAt K H0 (upd H A.lg (.lst (s.begun.map V.str ++ [.str nm]))) n p A { s with begun := s.begun ++ [nm] } := by
  obtain ⟨kw, w1, w2⟩ := R.wk
  obtain ⟨kj, j1, j2⟩ := R.jb
  obtain ⟨kg, g1, g2⟩ := R.gt
  have ndd : ∀ {b : Addr} {u : HO}, H b = some u → (∀ xs, u ≠ .lst xs) → upd H A.lg (.lst (s.begun.map V.str ++ [.str nm])) b = some u := fun {b u} h z => by
    rw [upd_ne (ne_of h R.bg (z _))]
    exact h
  exact { R with
    same := LyC.Same.upd R.same R.f6
    ob := ndd R.ob (fun _ z => nomatch z)
    told := ndd R.told (fun _ z => nomatch z)
    wk := ⟨kw, ndd w1 (fun _ z => nomatch z), w2⟩
    jb := ⟨kj, ndd j1 (fun _ z => nomatch z), j2⟩
    bl := by rw [upd_ne R.n1]; exact R.bl
    gt := ⟨kg, ndd g1 (fun _ z => nomatch z), g2⟩
    bg := by rw [upd_same, List.map_append]; rfl
    blk := Paired.mapP R.blk fun _ _ b => b.put R.bg (ne_of b.ex.choose_spec.choose_spec.choose_spec.choose_spec.choose_spec.choose_spec.choose_spec.choose_spec.1 R.bg (fun z => nomatch z)) (fun _ z => nomatch z) (.inr (.inr rfl))
    z2 := by
      show (s.begun ++ [nm]).length ≤ n
      rw [List.length_append]
      exact h }
theorem blk_ne (b : BlkAt K H0 H lb lg n q e) {x : Addr} {o : HO} (hx : H x = some o) (ho : ∀ dx wd a f pt r l, o ≠ .ins (c_Block K) dx (bflds wd a f pt r l)) : q ≠ x := by
  obtain ⟨dx, f, r, l, a, xs, ys, zs, h1, _⟩ := b.ex
  exact ne_of h1 hx (fun z => ho _ _ _ _ _ _ _ z.symm)
/-- a gate -/
theorem RdAt.gate (R : RdAt K H0 H n p A s) {kv : List (Key × V)} {gs : List Str} (hk : kv.map (·.1) = gs.map Sum.inr) (hl : gs.length ≤ n) :
    RdAt K H0 (upd H A.dg (.dK kv)) n p A { s with gates := gs } := by
  obtain ⟨kw, w1, w2⟩ := R.wk
  obtain ⟨kj, j1, j2⟩ := R.jb
  obtain ⟨kg, g1, g2⟩ := R.gt
  have ndd : ∀ {b : Addr} {u : HO}, H b = some u → (∀ xs, u ≠ .dK xs) → upd H A.dg (.dK kv) b = some u := fun {b u} h z => by
    rw [upd_ne (ne_of h g1 (z _))]
    exact h
  exact { R with
    same := LyC.Same.upd R.same R.f5
    ob := ndd R.ob (fun _ z => nomatch z)
    told := by rw [upd_ne (Ne.symm R.n5)]; exact R.told
    wk := ⟨kw, by rw [upd_ne (Ne.symm R.n6)]; exact w1, w2⟩
    jb := ⟨kj, by rw [upd_ne (Ne.symm R.n7)]; exact j1, j2⟩
    bl := ndd R.bl (fun _ z => nomatch z)
    gt := ⟨kv, upd_same, hk⟩
    bg := ndd R.bg (fun _ z => nomatch z)
    blk := Paired.mapP R.blk fun _ _ b => b.put g1 (blk_ne b g1 (fun _ _ _ _ _ _ _ z => nomatch z)) (fun _ z => nomatch z) (.inl (fun _ z => nomatch z))
    z5 := hl }
/-- a walk, a job told -/
theorem RdAt.tellW (R : RdAt K H0 H n p A s) {kv : List (Key × V)} {gs : List Str} (hk : kv.map (·.1) = gs.map Sum.inr) (hl : gs.length ≤ n) :
    RdAt K H0 (upd H A.dw (.dK kv)) n p A { s with walks := gs } := by
  obtain ⟨kw, w1, w2⟩ := R.wk
  obtain ⟨kj, j1, j2⟩ := R.jb
  obtain ⟨kg, g1, g2⟩ := R.gt
  have ndd : ∀ {b : Addr} {u : HO}, H b = some u → (∀ xs, u ≠ .dK xs) → upd H A.dw (.dK kv) b = some u := fun {b u} h z => by
    rw [upd_ne (ne_of h w1 (z _))]
    exact h
  exact { R with
    same := LyC.Same.upd R.same R.f2
    ob := ndd R.ob (fun _ z => nomatch z)
    told := by rw [upd_ne R.n2]; exact R.told
    wk := ⟨kv, upd_same, hk⟩
    jb := ⟨kj, by rw [upd_ne (Ne.symm R.n4)]; exact j1, j2⟩
    bl := ndd R.bl (fun _ z => nomatch z)
    gt := ⟨kg, by rw [upd_ne R.n6]; exact g1, g2⟩
    bg := ndd R.bg (fun _ z => nomatch z)
    blk := Paired.mapP R.blk fun _ _ b => b.put w1 (blk_ne b w1 (fun _ _ _ _ _ _ _ z => nomatch z)) (fun _ z => nomatch z) (.inl (fun _ z => nomatch z))
    z3 := hl }
theorem RdAt.tellJ (R : RdAt K H0 H n p A s) {kv : List (Key × V)} {gs : List Str} (hk : kv.map (·.1) = gs.map Sum.inr) (hl : gs.length ≤ n) :
    RdAt K H0 (upd H A.dj (.dK kv)) n p A { s with jobs := gs } := by
  obtain ⟨kw, w1, w2⟩ := R.wk
  obtain ⟨kj, j1, j2⟩ := R.jb
  obtain ⟨kg, g1, g2⟩ := R.gt
  have ndd : ∀ {b : Addr} {u : HO}, H b = some u → (∀ xs, u ≠ .dK xs) → upd H A.dj (.dK kv) b = some u := fun {b u} h z => by
    rw [upd_ne (ne_of h j1 (z _))]
    exact h
  exact { R with
    same := LyC.Same.upd R.same R.f3
    ob := ndd R.ob (fun _ z => nomatch z)
    told := by rw [upd_ne R.n3]; exact R.told
    wk := ⟨kw, by rw [upd_ne R.n4]; exact w1, w2⟩
    jb := ⟨kv, upd_same, hk⟩
    bl := ndd R.bl (fun _ z => nomatch z)
    gt := ⟨kg, by rw [upd_ne R.n7]; exact g1, g2⟩
    bg := ndd R.bg (fun _ z => nomatch z)
    blk := Paired.mapP R.blk fun _ _ b => b.put j1 (blk_ne b j1 (fun _ _ _ _ _ _ _ z => nomatch z)) (fun _ z => nomatch z) (.inl (fun _ z => nomatch z))
    z4 := hl }
/-- the deepest written -/
theorem RdAt.deepest (R : RdAt K H0 H n p A s) {d : Int} (h1 : 0 ≤ d) (h2 : d ≤ n) :
    RdAt K H0 (upd H p (.ins (c_Reader K) A.dx (rflds A.dt A.lb A.dg A.lg d))) n p A { s with deep := d } := by
  obtain ⟨kw, w1, w2⟩ := R.wk
  obtain ⟨kj, j1, j2⟩ := R.jb
  obtain ⟨kg, g1, g2⟩ := R.gt
  have ndd : ∀ {b : Addr} {u : HO}, H b = some u → (∀ xs, u ≠ .ins (c_Reader K) A.dx xs) → upd H p (.ins (c_Reader K) A.dx (rflds A.dt A.lb A.dg A.lg d)) b = some u := fun {b u} h z => by
    rw [upd_ne (ne_of h R.ob (z _))]
    exact h
  exact { R with
    same := LyC.Same.upd R.same R.f0
    ob := upd_same
    told := ndd R.told (fun _ z => nomatch z)
    wk := ⟨kw, ndd w1 (fun _ z => nomatch z), w2⟩
    jb := ⟨kj, ndd j1 (fun _ z => nomatch z), j2⟩
    bl := ndd R.bl (fun _ z => nomatch z)
    gt := ⟨kg, ndd g1 (fun _ z => nomatch z), g2⟩
    bg := ndd R.bg (fun _ z => nomatch z)
    blk := Paired.mapP R.blk fun _ _ b => b.put R.ob (blk_ne b R.ob (fun _ _ _ _ _ _ _ z => by
      injection z with _ _ z3
      injection z3 with z4 _
      injection z4 with z5 _
      exact absurd z5 (by decide +kernel))) (fun _ z => nomatch z) (.inl (fun _ z => nomatch z))
    zd := ⟨h1, h2⟩ }
/-- the innermost guard turned -/
theorem RdAt.turn (R : RdAt K H0 H n p A s) {qs : List Addr} {st : List En} {at_ : Int} {dx f r l : Addr} {e' : En} (hs : s.stack = st ++ [.guard]) (hq : A.qs = qs ++ [q]) (h : H q = some (.ins (c_Block K) dx (bflds "guard" at_ f .non r l)))
    (hw : e'.word = "guard") (hf : ∀ xs, e'.fl xs) : RdAt K H0 (upd H q (.ins (c_Block K) dx (bflds "guard" at_ f e'.part r l))) n p A { s with stack := st ++ [e'] } := by
  obtain ⟨kw, w1, w2⟩ := R.wk
  obtain ⟨kj, j1, j2⟩ := R.jb
  obtain ⟨kg, g1, g2⟩ := R.gt
  have ndd : ∀ {b : Addr} {u : HO}, H b = some u → (∀ xs, u ≠ .ins (c_Block K) dx xs) → upd H q (.ins (c_Block K) dx (bflds "guard" at_ f e'.part r l)) b = some u := fun {b u} h1 z => by
    rw [upd_ne (ne_of h1 h (z _))]
    exact h1
  have hb := R.blk
  rw [hs, hq] at hb
  have nd := R.nd
  rw [hq] at nd
  have sp : ∀ {qs : List Addr} {st : List En}, Paired (BlkAt K H0 H A.lb A.lg n) (qs ++ [q]) (st ++ [.guard]) → (qs ++ [q]).Nodup → Paired (BlkAt K H0 (upd H q (.ins (c_Block K) dx (bflds "guard" at_ f e'.part r l))) A.lb A.lg n) (qs ++ [q]) (st ++ [e']) := by
    intro qs
    induction qs with
    | nil =>
      intro st hp _
      cases st with
      | nil =>
        cases hp with
        | cons b _ =>
          refine .cons ?_ .nil
          obtain ⟨dx2, f2, r2, l2, a2, xs, ys, zs, h1, h2, h3, h4, h5, h6, h7, h8, h9⟩ := b.ex
          rw [h] at h1
          injection Option.some.inj h1 with _ z2 z3
          subst z2
          injection z3 with _ z4
          injection z4 with z5 z6
          injection z6 with z7 z8
          injection z8 with _ z9
          injection z9 with z10 z11
          injection z11 with z12 _
          have e1 : at_ = a2 := V.int.inj (Prod.mk.inj z5).2
          have e2 : f = f2 := V.ref.inj (Prod.mk.inj z7).2
          have e3 : r = r2 := V.ref.inj (Prod.mk.inj z10).2
          have e4 : l = l2 := V.ref.inj (Prod.mk.inj z12).2
          subst e1 e2 e3 e4
          refine ⟨⟨dx, f, r, l, at_, xs, ys, zs, by rw [upd_same, hw], ?_, hf xs, h4, ?_, ?_, h7, h8, h9⟩, b.fr⟩
          · rw [upd_ne (ne_of h2 h (fun z => nomatch z))]; exact h2
          · rw [upd_ne (ne_of h5 h (fun z => nomatch z))]; exact h5
          · rw [upd_ne (ne_of h6 h (fun z => nomatch z))]; exact h6
      | cons e st =>
        cases hp with
        | cons _ t =>
          have := t.length
          simp at this
    | cons a qs ih =>
      intro st hp nd
      cases st with
      | nil =>
        cases hp with
        | cons _ t =>
          have := t.length
          simp at this
      | cons e st =>
        cases hp with
        | cons b t =>
          have nd2 := List.nodup_cons.mp nd
          refine .cons (b.put h (fun z => nd2.1 (by rw [z]; exact List.mem_append_right _ List.mem_cons_self)) (fun _ z => nomatch z) (.inl (fun _ z => nomatch z))) (ih t nd2.2)
  have fr : H0 q = none := by
    have : ∀ {qs : List Addr} {st : List En}, Paired (BlkAt K H0 H A.lb A.lg n) (qs ++ [q]) st → H0 q = none := by
      intro qs
      induction qs with
      | nil =>
        intro st hp
        cases hp with
        | cons b _ => exact b.fr
      | cons a qs ih =>
        intro st hp
        cases hp with
        | cons _ t => exact ih t
    exact this hb
  exact { R with
    same := LyC.Same.upd R.same fr
    ob := by
      rw [upd_ne (ne_of R.ob h (fun z => by
        injection z with _ _ z3
        injection z3 with z4 _
        injection z4 with z5 _
        exact absurd z5 (by decide +kernel)))]
      exact R.ob
    told := ndd R.told (fun _ z => nomatch z)
    wk := ⟨kw, ndd w1 (fun _ z => nomatch z), w2⟩
    jb := ⟨kj, ndd j1 (fun _ z => nomatch z), j2⟩
    bl := ndd R.bl (fun _ z => nomatch z)
    gt := ⟨kg, ndd g1 (fun _ z => nomatch z), g2⟩
    bg := ndd R.bg (fun _ z => nomatch z)
    blk := by rw [hq]; exact sp hb nd
    z1 := by
      have := R.z1
      rw [hs] at this
      show (st ++ [e']).length ≤ n
      rw [List.length_append] at this ⊢
      exact this }
end

end Ly
namespace Ly
open PySem PySem.Spec PyProof.Rows L2
/-! ### Block -/
section
variable {P : Program} {w : World} {K : PySem.W.Frag} {mg : Str → Option Value} {base : Heap}
def spBI (C : Addr) : Sp := fun vs H Q _ => ∃ (x dx f : Addr) (wd : Str) (at_ : Int), vs = [.ref x, .str wd, .int at_, .ref f] ∧ H x = some (.ins C dx []) ∧
  ∀ (r l : Addr) (H' : Hp), H r = none → H l = none → l ≠ r → H' x = some (.ins C dx (bflds wd at_ f .non r l)) → H' r = some (.lst []) → H' l = some (.lst []) → (∀ b o, H b = some o → b ≠ x → H' b = some o) → Q .non H'
theorem sc_bi : FnScope ["self", "word", "at", "fields"] ((["self", "word", "at"] : List Str) ++ (["fields"] : List Str)) (defScope s_Block_init) := ⟨rfl, rfl, rfl, by decide +kernel, rfl, by decide +kernel, by decide +kernel⟩
theorem ok_bi (T : Hd K mg) : ∃ f, Mk K (c_Block K) f ∧ FnR P w K mg base CX0 1 f (fun vs H Q E => ∃ ws rest, vs = ws ++ rest ∧ ws.length = 3 ∧ rest.length ≤ sizeLine ∧ ∀ p, H p = none → spBI (c_Block K) (ws ++ [V.ref p]) (upd H p (.tup rest)) Q E) := by
  obtain ⟨fd, F⟩ := T.f_Block_init
  obtain ⟨oc, od, dV, kV, doc, pm, an, cdv, ct, osl, rfl, lk, hcd, hD, _⟩ := F.ex
  refine ⟨_, T.mk_Block, StX.fn_star (k := 0) (ps := ["self", "word", "at"]) (pv := "fields") lk hcd sc_bi StX.cxUp_none ?_ ?_⟩
  · rcases hD with ⟨_, rfl⟩ | ⟨z, _⟩
    · exact LyC.bind_star3 (B := fun us => bindArgs (PySem.W.fnOf "__init__" "Block.__init__" (defArgs s_Block_init) (defBody s_Block_init) (defScope s_Block_init) .none kV doc pm an cdv ct) ⟨us, []⟩) (fun _ _ _ => rfl) (fun _ _ _ _ _ => rfl)
    · exact absurd rfl z
  · intro A outer s H vs Q E hr h
    obtain ⟨x, dx, f, wd, at_, rfl, hx, k⟩ := h
    refine ⟨_, pss_cons (ps_fld (pv 0) (pv 1) rfl) (pss_cons (ps_fld (pv 0) (pv 2) rfl) (pss_cons (ps_fld (pv 0) (pv 3) rfl) (pss_cons (ps_fld (pv 0) pe_non rfl)
      (pss_cons (ps_fld (pv 0) (pe_lst pa_nil) rfl) (pss_one (ps_fld (pv 0) (pe_lst pa_nil) rfl)))))), ?_⟩
    have l0 : ([] : List (Str × V)).length ≤ 0 := Nat.le_refl 0
    refine ⟨_, rfl, _, rfl, x, _, dx, _, rfl, hx, T.cl_Block, T.na_Block_word, LyC.few l0, ?_⟩
    refine ⟨_, rfl, _, rfl, x, _, dx, _, rfl, upd_same, T.cl_Block, T.na_Block_at, LyC.few (LyC.few_put l0), ?_⟩
    refine ⟨_, rfl, _, rfl, x, _, dx, _, rfl, upd_same, T.cl_Block, T.na_Block_fields, LyC.few (LyC.few_put (LyC.few_put l0)), ?_⟩
    refine ⟨_, rfl, x, _, dx, _, rfl, upd_same, T.cl_Block, T.na_Block_part, LyC.few (LyC.few_put (LyC.few_put (LyC.few_put l0))), ?_⟩
    rw [upd_upd, upd_upd, upd_upd]
    refine ⟨Nat.zero_le _, fun r hr1 => ?_⟩
    have nrx : x ≠ r := fun z => by
      rw [← z, upd_same] at hr1
      cases hr1
    refine ⟨_, rfl, x, _, dx, _, rfl, (by rw [upd_ne nrx, upd_same]), T.cl_Block, T.na_Block_rows, LyC.few (LyC.few_put (LyC.few_put (LyC.few_put (LyC.few_put l0)))), ?_⟩
    refine ⟨Nat.zero_le _, fun l hl1 => ?_⟩
    have nlx : x ≠ l := fun z => by
      rw [← z, upd_same] at hl1
      cases hl1
    have nlr : l ≠ r := fun z => by
      rw [z, upd_ne (Ne.symm nrx), upd_same] at hl1
      cases hl1
    refine ⟨_, rfl, x, _, dx, _, rfl, (by rw [upd_ne nlx, upd_same]), T.cl_Block, T.na_Block_later, LyC.few (LyC.few_put (LyC.few_put (LyC.few_put (LyC.few_put (LyC.few_put l0))))), ?_⟩
    refine k r l _ ?_ ?_ nlr ?_ ?_ ?_ fun b o hb hbx => ?_
    · rw [upd_ne (Ne.symm nrx)] at hr1
      exact hr1
    · rw [upd_ne (Ne.symm nlx), upd_ne nlr, upd_ne (Ne.symm nlx)] at hl1
      exact hl1
    · rw [upd_same]
      exact congrArg (fun z => some (HO.ins (c_Block K) dx z)) (by kernel_rfl)
    · rw [upd_ne (Ne.symm nrx), upd_ne (Ne.symm nlr), upd_ne (Ne.symm nrx), upd_same]
    · rw [upd_ne (Ne.symm nlx), upd_same]
    · have nbr : b ≠ r := fun z => by
        rw [upd_ne (Ne.symm nrx)] at hr1
        rw [z, hr1] at hb
        cases hb
      have nbl : b ≠ l := fun z => by
        rw [upd_ne (Ne.symm nlx), upd_ne nlr, upd_ne (Ne.symm nlx)] at hl1
        rw [z, hl1] at hb
        cases hb
      rw [upd_ne hbx, upd_ne nbl, upd_ne hbx, upd_ne nbr, upd_ne hbx]
      exact hb
/-- a row is put to a block -/
def spAdd (K : PySem.W.Frag) : Sp := fun vs H Q _ => ∃ (q lb lg : Addr) (v : V) (H0 : Hp) (n : Nat) (e : En), vs = [.ref q, v] ∧ BlkAt K H0 H lb lg n q e ∧ n < 1000000 ∧
  ∀ (r : Addr) (ys : List V), H r = some (.lst ys) → ys.length ≤ n → r ≠ lb → r ≠ lg → H0 r = none → Q .non (upd H r (.lst (ys ++ [v])))
theorem part_non (e : En) : (e.part = .non) = (e ≠ .late ∧ e ≠ .mend) := by
  cases e <;> simp [En.part]
theorem sc_add : FnScope ["self", "row", "into"] ["self", "row"] (defScope s_Block_add) := ⟨rfl, rfl, rfl, by decide +kernel, rfl, by decide +kernel, by decide +kernel⟩
theorem ok_add (T : Hd K mg) : LyC.Me CX0 P w K mg base 1 (c_Block K) "add" (spAdd K) [] := by
  obtain ⟨fd, F⟩ := T.f_Block_add
  refine ⟨_, fd, ["self", "row"], [], T.cl_Block, T.me_Block_add, F.ok sc_add (fun vs H Q E h => ?_) (fun cdv A outer s H vs Q E hr h => ?_), F.bindsN fun _ _ _ _ _ _ us hl => match us, hl with | [_, _], _ => rfl, .nil⟩
  · obtain ⟨q, lb, lg, v, H0, n, e, rfl, _⟩ := h
    rfl
  · obtain ⟨q, lb, lg, v, H0, n, e, rfl, B, hn, k⟩ := h
    obtain ⟨dx, f, r, l, a, xs, ys, zs, h1, h2, h3, h4, h5, h6, h7, h8, h9, h10, h11, h12, h13, h14⟩ := B.ex
    refine ⟨_, pss_cons (ps_set (i := 2) sc_add.nd rfl (Or.inl rfl) (pe_ifExp (pt_cmpR op_isN (pe_fld (pv 0) rfl) pe_non (nomark _)) (pe_fld (pv 0) rfl) (pe_fld (pv 0) rfl)))
      (pss_one (ps_expr (pe_bm PySem.F.plainAttrs_list PySem.F.slot_list_append PySem.F.type_list_append mt_append (pv 2) (pa_cons (pv 1) pa_nil)))), ?_⟩
    refine ⟨_, rfl, q, _, dx, _, _, rfl, h1, T.cl_Block, T.na_Block_part, b_part, rfl, _, rfl, ite2 (fun c => ?_) (fun c => ?_)⟩
    · refine ⟨_, rfl, q, _, dx, _, _, rfl, h1, T.cl_Block, T.na_Block_rows, b_rows, _, rfl, .inl ⟨rfl, _, SqL.of h5⟩, _, rfl, r, ys, _, rfl, rfl, h5, ?_, ?_⟩
      · rw [sizeLine_eq]
        omega
      · exact k r ys h5 h7 h9 h10 h13
    · refine ⟨_, rfl, q, _, dx, _, _, rfl, h1, T.cl_Block, T.na_Block_later, b_later, _, rfl, .inl ⟨rfl, _, SqL.of h6⟩, _, rfl, l, zs, _, rfl, rfl, h6, ?_, ?_⟩
      · rw [sizeLine_eq]
        omega
      · exact k l zs h6 h8 h11 h12 h14
/-- is it a guard in its guarded rows -/
def spIsg (K : PySem.W.Frag) : Sp := fun vs H Q _ => ∃ (q lb lg : Addr) (H0 : Hp) (n : Nat) (e : En), vs = [.ref q] ∧ BlkAt K H0 H lb lg n q e ∧ Q (.bl (decide (e = .guard))) H
theorem sc_isg : FnScope ["self"] ["self"] (defScope s_Block_is_guarding) := ⟨rfl, rfl, rfl, by decide +kernel, rfl, by decide +kernel, by decide +kernel⟩
theorem isg_eq (e : En) : (decide (V.str e.word = V.str "guard") && decide (e.part = .non)) = decide (e = .guard) := by
  cases e <;> first | rfl | (simp [En.word, En.part]; try decide)
theorem ok_isg (T : Hd K mg) : LyC.Me CX0 P w K mg base 1 (c_Block K) "is_guarding" (spIsg K) [] := by
  obtain ⟨fd, F⟩ := T.f_Block_is_guarding
  refine ⟨_, fd, ["self"], [], T.cl_Block, T.me_Block_is_guarding, F.ok sc_isg (fun vs H Q E h => ?_) (fun cdv A outer s H vs Q E hr h => ?_), F.bindsN fun _ _ _ _ _ _ us hl => match us, hl with | [_], _ => rfl, .nil⟩
  · obtain ⟨q, lb, lg, H0, n, e, rfl, _⟩ := h
    rfl
  · obtain ⟨q, lb, lg, H0, n, e, rfl, B, k⟩ := h
    obtain ⟨dx, f, r, l, a, xs, ys, zs, h1, h2⟩ := B.ex
    refine ⟨_, pss_one (ps_ret (pe_and (pe_cmpR op_eq (pe_fld (pv 0) rfl) pe_str (nomark _)) (pe_one (pe_cmpR op_isN (pe_fld (pv 0) rfl) pe_non (nomark _))))), ?_⟩
    rw [← isg_eq] at k
    refine ⟨_, rfl, q, _, dx, _, _, rfl, h1, T.cl_Block, T.na_Block_word, b_word, rfl, _, rfl, ite2 (fun c => ?_) (fun c => ?_)⟩
    · refine ⟨_, rfl, q, _, dx, _, _, rfl, h1, T.cl_Block, T.na_Block_part, b_part, rfl, ?_⟩
      rw [c, Bool.true_and] at k
      exact k
    · rw [Bool.eq_false_iff.mpr c, Bool.false_and] at k
      exact k
/-- does it keep a walk -/
def spKeeps (K : PySem.W.Frag) : Sp := fun vs H Q _ => ∃ (q lb lg : Addr) (z : Str) (H0 : Hp) (n : Nat) (e : En), vs = [.ref q, .str z] ∧ BlkAt K H0 H lb lg n q e ∧ ∀ H', Same H H' → Q (.bl (decide (e = .each z "kept"))) H'
theorem sc_keeps : FnScope ["self", "walk"] ["self", "walk"] (defScope s_Block_keeps) := ⟨rfl, rfl, rfl, by decide +kernel, rfl, by decide +kernel, by decide +kernel⟩
theorem each_word (e : En) : (V.str e.word = V.str "each") → ∃ a b, e = .each a b := by
  intro h
  cases e with
  | each a b => exact ⟨a, b, rfl⟩
  | walk n => exact absurd (V.str.inj h) (show ¬ (("walk" : Str) = "each") from by decide +kernel)
  | job n => exact absurd (V.str.inj h) (show ¬ (("job" : Str) = "each") from by decide +kernel)
  | rep => exact absurd (V.str.inj h) (show ¬ (("repeat" : Str) = "each") from by decide +kernel)
  | guard => exact absurd (V.str.inj h) (show ¬ (("guard" : Str) = "each") from by decide +kernel)
  | late => exact absurd (V.str.inj h) (show ¬ (("guard" : Str) = "each") from by decide +kernel)
  | mend => exact absurd (V.str.inj h) (show ¬ (("guard" : Str) = "each") from by decide +kernel)
theorem ok_keeps (T : Hd K mg) : LyC.Me CX0 P w K mg base 1 (c_Block K) "keeps" (spKeeps K) [] := by
  obtain ⟨fd, F⟩ := T.f_Block_keeps
  refine ⟨_, fd, ["self", "walk"], [], T.cl_Block, T.me_Block_keeps, F.ok sc_keeps (fun vs H Q E h => ?_) (fun cdv A outer s H vs Q E hr h => ?_), F.bindsN fun _ _ _ _ _ _ us hl => match us, hl with | [_, _], _ => rfl, .nil⟩
  · obtain ⟨q, lb, lg, z, H0, n, e, rfl, _⟩ := h
    rfl
  · obtain ⟨q, lb, lg, z, H0, n, e, rfl, B, k⟩ := h
    obtain ⟨dx, f, r, l, a, xs, ys, zs, h1, h2, h3, h4⟩ := B.ex
    refine ⟨_, pss_one (ps_ret (pe_and (pe_cmpR op_eq (pe_fld (pv 0) rfl) pe_str (nomark _)) (pe_one (pe_cmpR (LyC.op_eqT (Nat.lt_of_le_of_lt (Nat.le_add_right _ 64) hr.units)) (pe_slice sl_tup (pe_fld (pv 0) rfl) po_none (po_some pe_int)) (pe_tup (pa_cons (pv 1) (pa_cons pe_str pa_nil))) (nomark _))))), ?_⟩
    refine ⟨_, rfl, q, _, dx, _, _, rfl, h1, T.cl_Block, T.na_Block_word, b_word, rfl, _, rfl, ite2 (fun c => ?_) (fun c => ?_)⟩
    · obtain ⟨ea, eb, rfl⟩ := each_word e (of_decide_eq_true c)
      obtain ⟨tt, rfl⟩ := h3
      refine ⟨_, rfl, q, _, dx, _, _, rfl, h1, T.cl_Block, T.na_Block_fields, b_fields, 2, rfl, f, _, rfl, SqT.of h2, (by show ¬ (HT.sIx 3 0 none = 0 ∧ HT.sIx 3 3 (some 2) = 3); decide), fun p hp => ?_⟩
      refine ⟨_, rfl, (by show 2 ≤ sizeLine; decide), fun t ht => ?_⟩
      have npt : p ≠ t := fun z1 => by
        rw [← z1, upd_same] at ht
        cases ht
      have d1 : (upd (upd H p (.tup [V.str ea, V.str eb])) t (.tup [V.str z, V.str "kept"])) p = some (.tup [V.str ea, V.str eb]) := by rw [upd_ne npt, upd_same]
      refine ⟨p, t, [V.str ea, V.str eb], [V.str z, V.str "kept"], rfl, rfl, SqT.of d1, SqT.of upd_same, rfl, rfl, ?_⟩
      have e2 : LyC.eqVs [V.str ea, V.str eb] [V.str z, V.str "kept"] = decide (En.each ea eb = .each z "kept") := by
        show ((ea == z) && ((eb == ("kept" : Str)) && true)) = _
        by_cases c1 : ea = z
        · by_cases c2 : eb = "kept"
          · subst c1 c2
            simp
          · simp [c1, c2]
        · simp [c1]
      rw [e2]
      refine k _ (LyC.Same.upd (LyC.same_new hp) ?_)
      rw [upd_ne (Ne.symm npt)] at ht
      exact ht
    · have e2 : false = decide (e = .each z "kept") := by
        refine (decide_eq_false fun z1 => c ?_).symm
        subst z1
        rfl
      show Q (.bl false) H
      rw [e2]
      exact k H (Same.refl H)
/-- the block as a tuple -/
def spMadeB (K : PySem.W.Frag) : Sp := fun vs H Q _ => ∃ (q lb lg : Addr) (H0 : Hp) (n : Nat) (e : En), vs = [.ref q] ∧ BlkAt K H0 H lb lg n q e ∧ n < 1000000 ∧ ∀ t H', Same H H' → Q (.ref t) H'
theorem sc_madeb : FnScope ["self"] ["self"] (defScope s_Block_made) := ⟨rfl, rfl, rfl, by decide +kernel, rfl, by decide +kernel, by decide +kernel⟩
theorem ok_madeb (T : Hd K mg) : LyC.Me CX0 P w K mg base 1 (c_Block K) "made" (spMadeB K) [] := by
  obtain ⟨fd, F⟩ := T.f_Block_made
  refine ⟨_, fd, ["self"], [], T.cl_Block, T.me_Block_made, F.ok sc_madeb (fun vs H Q E h => ?_) (fun cdv A outer s H vs Q E hr h => ?_), F.bindsN fun _ _ _ _ _ _ us hl => match us, hl with | [_], _ => rfl, .nil⟩
  · obtain ⟨q, lb, lg, H0, n, e, rfl, _⟩ := h
    rfl
  · obtain ⟨q, lb, lg, H0, n, e, rfl, B, hn, k⟩ := h
    obtain ⟨dx, f, r, l, a, xs, ys, zs, h1, h2, h3, h4, h5, h6, h7, h8, _⟩ := B.ex
    refine ⟨_, pss_cons (ps_if (pt_cmpR op_eq (pe_fld (pv 0) rfl) pe_str (nomark _))
        (pss_one (ps_ret (pe_tup (pa_cons pe_str (pa_cons (pe_fld (pv 0) rfl) (pa_cons (pe_callTy call_tuple_of (by rfl) T.n_tuple (by decide +kernel) (pa_cons (pe_fld (pv 0) rfl) pa_nil)) (pa_cons (pe_fld (pv 0) rfl)
          (pa_cons (pe_callTy call_tuple_of (by rfl) T.n_tuple (by decide +kernel) (pa_cons (pe_fld (pv 0) rfl) pa_nil)) pa_nil)))))))) pss_nil)
      (pss_one (ps_ret (pe_tup (pa_cons (pe_fld (pv 0) rfl) (pa_cons (pe_fld (pv 0) rfl) (StX.pa_star (pe_fld (pv 0) rfl) (pa_cons (pe_callTy call_tuple_of (by rfl) T.n_tuple (by decide +kernel) (pa_cons (pe_fld (pv 0) rfl) pa_nil)) pa_nil))))))), ?_⟩
    refine ⟨_, rfl, q, _, dx, _, _, rfl, h1, T.cl_Block, T.na_Block_word, b_word, rfl, _, rfl, ite2 (fun c => ?_) (fun c => ?_)⟩
    · refine ⟨_, rfl, q, _, dx, _, _, rfl, h1, T.cl_Block, T.na_Block_at, b_at, _, rfl, q, _, dx, _, _, rfl, h1, T.cl_Block, T.na_Block_rows, b_rows, r, ys, rfl, .inl ⟨SqL.of h5, fun p1 n1 => ?_⟩⟩
      have s1 : Same H (upd H p1 (.tup ys)) := LyC.same_new n1
      refine ⟨_, rfl, q, _, dx, _, _, rfl, s1 _ _ h1, T.cl_Block, T.na_Block_part, b_part, _, rfl, q, _, dx, _, _, rfl, s1 _ _ h1, T.cl_Block, T.na_Block_later, b_later, l, zs, rfl, .inl ⟨SqL.of (s1 _ _ h6), fun p2 n2 => ?_⟩⟩
      have s2 := s1.trans (LyC.same_new (o := .tup zs) n2)
      exact ⟨by show 5 ≤ sizeLine; decide, fun p3 n3 => k p3 _ (s2.trans (LyC.same_new n3))⟩
    · refine ⟨_, rfl, q, _, dx, _, _, rfl, h1, T.cl_Block, T.na_Block_word, b_word, _, rfl, q, _, dx, _, _, rfl, h1, T.cl_Block, T.na_Block_at, b_at, _, rfl, q, _, dx, _, _, rfl, h1, T.cl_Block, T.na_Block_fields, b_fields, f, xs, rfl, .inl (SqT.of h2), ?_⟩
      refine ⟨_, rfl, q, _, dx, _, _, rfl, h1, T.cl_Block, T.na_Block_rows, b_rows, r, ys, rfl, .inl ⟨SqL.of h5, fun p1 n1 => ?_⟩⟩
      have s1 : Same H (upd H p1 (.tup ys)) := LyC.same_new n1
      refine ⟨?_, fun p3 n3 => k p3 _ (s1.trans (LyC.same_new n3))⟩
      show (V.str e.word :: V.int a :: (xs ++ [V.ref p1])).length ≤ sizeLine
      rw [List.length_cons, List.length_cons, List.length_append, sizeLine_eq]
      show xs.length + 1 + 1 + 1 ≤ _
      omega
end

end Ly
namespace Ly
open PySem PySem.Spec PyProof.Rows L2
/-! ### Reader: init, added, opened, named -/
theorem upd_no {H : Hp} {a b : Addr} {o : HO} (h : upd H a o b = none) : b ≠ a ∧ H b = none := by
  by_cases c : b = a
  · subst c
    rw [upd_same] at h
    cases h
  · rw [upd_ne c] at h
    exact ⟨c, h⟩
/-- a new block -/
structure NewB (K : PySem.W.Frag) (H H' : Hp) (q : Addr) (wd : Str) (vs : List V) : Prop where
  same : Same H H'
  nw : H q = none
  ex : ∃ (dx f r l : Addr) (at_ : Int), H' q = some (.ins (c_Block K) dx (bflds wd at_ f .non r l)) ∧ H' f = some (.tup vs) ∧ H' r = some (.lst []) ∧ H' l = some (.lst []) ∧ H r = none ∧ H l = none
theorem same_none {H H' : Hp} {a : Addr} (s : Same H H') (h : H' a = none) : H a = none := by
  cases e : H a with
  | none => rfl
  | some o =>
    rw [s _ _ e] at h
    cases h
section
variable {P : Program} {w : World} {K : PySem.W.Frag} {mg : Str → Option Value} {base : Heap}
theorem mk_block {H1 : Hp} {wd : Str} {at_ : Int} {rest : List V} {Q : Addr → Hp → Prop} {E : XK} (hl : rest.length ≤ 3) (k : ∀ q H', NewB K H1 H' q wd rest → Q q H') : ∀ x dx, H1 x = Option.none → H1 dx = Option.none → dx ≠ x →
    (fun vs H Q (E : XK) => ∃ ws rest, vs = ws ++ rest ∧ ws.length = 3 ∧ rest.length ≤ sizeLine ∧ ∀ p, H p = none → spBI (c_Block K) (ws ++ [V.ref p]) (upd H p (.tup rest)) Q E) (V.ref x :: (V.str wd :: V.int at_ :: rest)) (upd (upd H1 dx (.own x)) x (.ins (c_Block K) dx [])) (fun v H2 => v = .non ∧ Q x H2) E := by
  intro x dx nx ndx nex
  refine ⟨[.ref x, .str wd, .int at_], rest, rfl, rfl, ?_, fun f hf => ?_⟩
  · rw [sizeLine_eq]
    omega
  obtain ⟨f1, hf1⟩ := upd_no hf
  obtain ⟨f2, hf2⟩ := upd_no hf1
  refine ⟨x, dx, f, wd, at_, rfl, ?_, fun r l H' hr hl2 nlr e1 e2 e3 e4 => ⟨rfl, k x H' ⟨?_, nx, dx, f, r, l, at_, e1, ?_, e2, e3, ?_, ?_⟩⟩⟩
  · rw [upd_ne (Ne.symm f1), upd_same]
  · intro b o hb
    have b1 : b ≠ x := ne_of_none hb nx
    have b2 : b ≠ dx := ne_of_none hb ndx
    have b3 : b ≠ f := ne_of_none hb hf2
    exact e4 b o (by rw [upd_ne b3, upd_ne b1, upd_ne b2]; exact hb) b1
  · exact e4 f _ upd_same f1
  · exact (upd_no (upd_no (upd_no hr).2).2).2
  · exact (upd_no (upd_no (upd_no hl2).2).2).2
theorem NewB.blk {H0 H H' : Hp} {q p : Addr} {wd : Str} {vs : List V} {n : Nat} {A : Ads} {s : Rs} {e : En} (B : NewB K H H' q wd vs) (R : RdAt K H0 H n p A s) (hw : e.word = wd) (hp : e.part = .non) (hf : e.fl vs) (hl : vs.length ≤ 3) : BlkAt K H0 H' A.lb A.lg n q e ∧ ¬ q ∈ A.qs := by
  obtain ⟨dx, f, r, l, at_, h1, h2, h3, h4, h5, h6⟩ := B.ex
  refine ⟨⟨⟨dx, f, r, l, at_, vs, [], [], by rw [hw, hp]; exact h1, h2, hf, hl, h3, h4, Nat.zero_le _, Nat.zero_le _, (ne_of_none R.bl h5).symm, (ne_of_none R.bg h5).symm, (ne_of_none R.bl h6).symm, (ne_of_none R.bg h6).symm, same_none R.same h5, same_none R.same h6⟩, same_none R.same B.nw⟩, fun m => ?_⟩
  have : ∀ {qs : List Addr} {st : List En}, Paired (BlkAt K H0 H A.lb A.lg n) qs st → q ∈ qs → False := by
    intro qs st hp
    induction hp with
    | nil => exact fun z => nomatch z
    | @cons a b as bs hb _ ih =>
      intro z
      rcases List.mem_cons.mp z with rfl | z
      · obtain ⟨_, _, _, _, _, _, _, _, h, _⟩ := hb.ex
        rw [B.nw] at h
        cases h
      · exact ih z
  exact this R.blk m
/-- a new reader -/
def spRI (K : PySem.W.Frag) : Sp := fun vs H Q _ => ∃ (x dx : Addr) (H0 : Hp), vs = [.ref x] ∧ H x = some (.ins (c_Reader K) dx []) ∧ Same H0 H ∧ H0 x = none ∧ ∀ A H', RdAt K H0 H' 0 x A Rs.init → Q .non H'
theorem sc_ri : FnScope ["self"] ["self"] (defScope s_Reader_init) := ⟨rfl, rfl, rfl, by decide +kernel, rfl, by decide +kernel, by decide +kernel⟩
theorem ok_ri (T : Hd K mg) : LyC.Ma CX0 P w K mg base 1 "Reader" (c_Reader K) (spRI K) [] := by
  obtain ⟨fd, F⟩ := T.f_Reader_init
  refine ⟨_, fd, ["self"], [], T.mk_Reader, F.ok sc_ri (fun vs H Q E h => ?_) (fun cdv A outer s H vs Q E hr h => ?_), T.g_Reader, F.bindsN fun _ _ _ _ _ _ us hl => match us, hl with | [_], _ => rfl, .nil⟩
  · obtain ⟨x, dx, H0, rfl, _⟩ := h
    rfl
  · obtain ⟨x, dx, H0, rfl, hx, sm, f0, k⟩ := h
    refine ⟨_, pss_cons (ps_fld (pv 0) (pe_disp (pps_cons pe_str pe_dnewK (pps_cons pe_str pe_dnewK pps_nil)) rfl rfl (List.cons_ne_nil _ _) (by decide)) rfl)
      (pss_cons (ps_fld (pv 0) (pe_lst pa_nil) rfl) (pss_cons (ps_fld (pv 0) pe_dnewK rfl) (pss_cons (ps_fld (pv 0) (pe_lst pa_nil) rfl) (pss_one (ps_fld (pv 0) pe_int rfl))))), ?_⟩
    have l0 : ([] : List (Str × V)).length ≤ 0 := Nat.le_refl 0
    intro dt hdt dw hdw dj hdj
    obtain ⟨a1, hdw2⟩ := upd_no hdw
    obtain ⟨a2, hdj2⟩ := upd_no hdj
    obtain ⟨a3, hdj3⟩ := upd_no hdj2
    have x1 := ne_of_none hx hdt
    have x2 := ne_of_none hx hdw2
    have x3 := ne_of_none hx hdj3
    refine ⟨by rw [upd_ne (Ne.symm a3), upd_ne (Ne.symm a1), upd_same], [(Sum.inr "walk", .ref dw), (Sum.inr "job", .ref dj)], rfl, (by show 2 ≤ 15; decide), ?_⟩
    refine ⟨_, rfl, x, _, dx, _, rfl, (by rw [upd_ne x1, upd_ne x3, upd_ne x2, upd_ne x1]; exact hx), T.cl_Reader, T.na_Reader_told, LyC.few l0, ?_⟩
    refine ⟨Nat.zero_le _, fun lb hlb => ?_⟩
    obtain ⟨b1, h1⟩ := upd_no hlb
    obtain ⟨b2, h2⟩ := upd_no h1
    obtain ⟨b3, h3⟩ := upd_no h2
    obtain ⟨b4, h4⟩ := upd_no h3
    obtain ⟨_, hlb2⟩ := upd_no h4
    refine ⟨_, rfl, x, _, dx, _, rfl, (by rw [upd_ne (Ne.symm b1), upd_same]), T.cl_Reader, T.na_Reader_blocks, LyC.few (LyC.few_put l0), ?_⟩
    intro dg hdg
    obtain ⟨c1, g1⟩ := upd_no hdg
    obtain ⟨c2, g2⟩ := upd_no g1
    obtain ⟨_, g3⟩ := upd_no g2
    obtain ⟨c3, g4⟩ := upd_no g3
    obtain ⟨c4, g5⟩ := upd_no g4
    obtain ⟨c5, g6⟩ := upd_no g5
    obtain ⟨_, hdg2⟩ := upd_no g6
    refine ⟨_, rfl, x, _, dx, _, rfl, (by rw [upd_ne (Ne.symm c1), upd_same]), T.cl_Reader, T.na_Reader_gates, LyC.few (LyC.few_put (LyC.few_put l0)), ?_⟩
    refine ⟨Nat.zero_le _, fun lg hlg => ?_⟩
    obtain ⟨d1, i1⟩ := upd_no hlg
    obtain ⟨d2, i2⟩ := upd_no i1
    obtain ⟨_, i3⟩ := upd_no i2
    obtain ⟨d3, i4⟩ := upd_no i3
    obtain ⟨_, i5⟩ := upd_no i4
    obtain ⟨d4, i6⟩ := upd_no i5
    obtain ⟨d5, i7⟩ := upd_no i6
    obtain ⟨d6, i8⟩ := upd_no i7
    obtain ⟨_, hlg2⟩ := upd_no i8
    refine ⟨_, rfl, x, _, dx, _, rfl, (by rw [upd_ne (Ne.symm d1), upd_same]), T.cl_Reader, T.na_Reader_begun, LyC.few (LyC.few_put (LyC.few_put (LyC.few_put l0))), ?_⟩
    refine ⟨_, rfl, x, _, dx, _, rfl, upd_same, T.cl_Reader, T.na_Reader_deepest, LyC.few (LyC.few_put (LyC.few_put (LyC.few_put (LyC.few_put l0)))), ?_⟩
    refine k ⟨dx, dt, dw, dj, lb, dg, lg, []⟩ _ ?_
    have e1 := Ne.symm a1
    have e2 := Ne.symm a2
    have e3 := Ne.symm a3
    have e4 := Ne.symm b1
    have e5 := Ne.symm b2
    have e6 := Ne.symm b3
    have e7 := Ne.symm b4
    have e8 := Ne.symm c1
    have e9 := Ne.symm c2
    have f1 := Ne.symm c3
    have f2 := Ne.symm c4
    have f3 := Ne.symm c5
    have f4 := Ne.symm d1
    have f5 := Ne.symm d2
    have f6 := Ne.symm d3
    have f7 := Ne.symm d4
    have f8 := Ne.symm d5
    have f9 := Ne.symm d6
    have y1 := Ne.symm x1
    have y2 := Ne.symm x2
    have y3 := Ne.symm x3
    refine { same := ?_, ob := ?_, told := ?_, wk := ⟨[], ?_, rfl⟩, jb := ⟨[], ?_, rfl⟩, bl := ?_, gt := ⟨[], ?_, rfl⟩, bg := ?_, blk := .nil, nd := List.nodup_nil, n1 := f6, n2 := e1, n3 := e3, n4 := e2, n5 := c3, n6 := c5, n7 := c4, f0 := f0, f2 := same_none sm hdw2, f3 := same_none sm hdj3, f4 := same_none sm hlb2, f5 := same_none sm hdg2, f6 := same_none sm hlg2, z1 := Nat.zero_le _, z2 := Nat.zero_le _, z3 := Nat.zero_le _, z4 := Nat.zero_le _, z5 := Nat.zero_le _, zd := ⟨Int.le_refl _, Int.le_refl _⟩ }
    · intro b o hb
      have z0 := sm _ _ hb
      have z1 : b ≠ x := ne_of_none hb f0
      have z2 : b ≠ dt := ne_of_none z0 hdt
      have z3 : b ≠ dw := ne_of_none z0 hdw2
      have z4 : b ≠ dj := ne_of_none z0 hdj3
      have z5 : b ≠ lb := ne_of_none z0 hlb2
      have z6 : b ≠ dg := ne_of_none z0 hdg2
      have z7 : b ≠ lg := ne_of_none z0 hlg2
      simp only [upd, z1, z2, z3, z4, z5, z6, z7, if_false]
      exact z0
    · rw [upd_same]
      exact congrArg (fun z => some (HO.ins (c_Reader K) dx z)) (by kernel_rfl)
    · simp only [upd, x1, x2, x3, y1, y2, y3, a1, a2, a3, b1, b2, b3, b4, c1, c2, c3, c4, c5, d1, d2, d3, d4, d5, d6, e1, e2, e3, e4, e5, e6, e7, e8, e9, f1, f2, f3, f4, f5, f6, f7, f8, f9, if_false, if_true]
      kernel_rfl
    all_goals simp only [upd, x1, x2, x3, y1, y2, y3, a1, a2, a3, b1, b2, b3, b4, c1, c2, c3, c4, c5, d1, d2, d3, d4, d5, d6, e1, e2, e3, e4, e5, e6, e7, e8, e9, f1, f2, f3, f4, f5, f6, f7, f8, f9, if_false, if_true, List.map_nil, Rs.init]
/-- a row is added to the innermost block -/
def spAdded (K : PySem.W.Frag) : Sp := fun vs H Q _ => ∃ (p : Addr) (v : V) (H0 : Hp) (n : Nat) (A : Ads) (s : Rs), vs = [.ref p, v] ∧ RdAt K H0 H n p A s ∧ n < 100000 ∧ s.stack ≠ [] ∧ ∀ H', RdAt K H0 H' (n + 1) p A s → Q (.bl true) H'
theorem last_blk {F : Addr → En → Prop} {qs : List Addr} {st : List En} (h : Paired F qs st) (hs : st ≠ []) : ∃ q1 q s1 e, qs = q1 ++ [q] ∧ st = s1 ++ [e] ∧ Paired F q1 s1 ∧ F q e := by
  induction h with
  | nil => exact absurd rfl hs
  | @cons a b as bs hb t ih =>
    cases t with
    | nil => exact ⟨[], a, [], b, rfl, rfl, .nil, hb⟩
    | @cons a2 b2 as2 bs2 hb2 t2 =>
      obtain ⟨q1, q, s1, e, h1, h2, h3, h4⟩ := ih (List.cons_ne_nil _ _)
      exact ⟨a :: q1, q, b :: s1, e, by rw [h1]; rfl, by rw [h2]; rfl, .cons hb h3, h4⟩
theorem sc_added : FnScope ["self", "row"] ["self", "row"] (defScope s_Reader_added) := ⟨rfl, rfl, rfl, by decide +kernel, rfl, by decide +kernel, by decide +kernel⟩
theorem ok_added (T : Hd K mg) : LyC.Me CX0 P w K mg base 2 (c_Reader K) "added" (spAdded K) [] := by
  obtain ⟨fd, F⟩ := T.f_Reader_added
  refine ⟨_, fd, ["self", "row"], [], T.cl_Reader, T.me_Reader_added, F.ok sc_added (fun vs H Q E h => ?_) (fun cdv A outer s H vs Q E hr h => ?_), F.bindsN fun _ _ _ _ _ _ us hl => match us, hl with | [_, _], _ => rfl, .nil⟩
  · obtain ⟨p, v, H0, n, A, s, rfl, _⟩ := h
    rfl
  · obtain ⟨p, v, H0, n, A, s, rfl, R, hn, hs, k⟩ := h
    refine ⟨_, pss_cons (ps_expr (LyC.pe_m (ok_add T) hr (pe_ix ix_list (pe_fld (pv 0) rfl) (pe_un un_neg pe_int) (fun _ _ => rfl)) (pa_cons (pv 1) pa_nil))) (pss_one (ps_ret pe_bl)), ?_⟩
    obtain ⟨q1, q, s1, e, eq, es, _, B⟩ := last_blk R.blk hs
    obtain ⟨dx, f, r, l, a, xs, ys, zs, h1, _⟩ := id B.ex
    have hl := R.bl
    rw [eq, List.map_append] at hl
    refine ⟨_, rfl, p, _, A.dx, _, _, rfl, R.ob, T.cl_Reader, T.na_Reader_blocks, r_blocks, 1, rfl, A.lb, _, _, _, rfl, rfl, SqL.of hl, atI_last _ _, ?_⟩
    refine ⟨q, dx, _, rfl, h1, b_add, _, rfl, q, A.lb, A.lg, v, H0, n, e, rfl, B, by omega, fun r2 ys2 g1 g2 g3 g4 g5 => ?_⟩
    exact k _ (R.row g1 g2 g3 g4 g5)
/-- a block is opened -/
def spOpened (K : PySem.W.Frag) : Sp := fun vs H Q _ => ∃ (p q : Addr) (H0 : Hp) (n : Nat) (A : Ads) (s : Rs) (e : En), vs = [.ref p, .ref q] ∧ RdAt K H0 H n p A s ∧ n < 100000 ∧ BlkAt K H0 H A.lb A.lg n q e ∧ (¬ q ∈ A.qs) ∧ ∀ A' H', RdAt K H0 H' (n + 1) p A' (s.push e) → Q (.bl true) H'
theorem sc_opened : FnScope ["self", "block"] ["self", "block"] (defScope s_Reader_opened) := ⟨rfl, rfl, rfl, by decide +kernel, rfl, by decide +kernel, by decide +kernel⟩
theorem RdAt.pushed {H0 H : Hp} {n : Nat} {p q : Addr} {A : Ads} {s : Rs} {e : En} (R : RdAt K H0 H n p A s) (B : BlkAt K H0 H A.lb A.lg n q e) (nq : ¬ q ∈ A.qs) : RdAt K H0 (upd H A.lb (.lst (A.qs.map V.ref ++ [.ref q]))) (n + 1) p { A with qs := A.qs ++ [q] } { s with stack := s.stack ++ [e] } := by
  have := (R.mono (Same.refl H) (Nat.le_succ n)).blocks (qs := A.qs ++ [q]) (st := s.stack ++ [e]) ?_ ?_ ?_
  · rw [List.map_append] at this
    exact this
  · exact Paired.snoc (Paired.mapP R.blk fun _ _ b => b.mono (Same.refl H) (Nat.le_succ n)) (B.mono (Same.refl H) (Nat.le_succ n))
  · exact List.nodup_append.mpr ⟨R.nd, List.nodup_cons.mpr ⟨List.not_mem_nil, List.nodup_nil⟩, fun a ha b hb => by
      rcases List.mem_cons.mp hb with rfl | hb
      · intro z
        subst z
        exact nq ha
      · cases hb⟩
  · rw [List.length_append]
    exact Nat.succ_le_succ R.z1
theorem ok_opened (T : Hd K mg) : LyC.Me CX0 P w K mg base 1 (c_Reader K) "opened" (spOpened K) [] := by
  obtain ⟨fd, F⟩ := T.f_Reader_opened
  refine ⟨_, fd, ["self", "block"], [], T.cl_Reader, T.me_Reader_opened, F.ok sc_opened (fun vs H Q E h => ?_) (fun cdv A outer s H vs Q E hr h => ?_), F.bindsN fun _ _ _ _ _ _ us hl => match us, hl with | [_, _], _ => rfl, .nil⟩
  · obtain ⟨p, q, H0, n, A, s, e, rfl, _⟩ := h
    rfl
  · obtain ⟨p, q, H0, n, A, s, e, rfl, R, hn, B, nq, k⟩ := h
    refine ⟨_, pss_cons (ps_expr (pe_bm PySem.F.plainAttrs_list PySem.F.slot_list_append PySem.F.type_list_append mt_append (pe_fld (pv 0) rfl) (pa_cons (pv 1) pa_nil)))
      (pss_cons (ps_fld (pv 0) (pe_callB (call_max2 rfl) (by rfl) T.n_max (by decide +kernel) (pa_cons (pe_fld (pv 0) rfl) (pa_cons (pe_op op_sub (pe_callB call_len_seq (by rfl) T.n_len PySem.boot_len (pa_cons (pe_fld (pv 0) rfl) pa_nil)) pe_int) pa_nil))) rfl)
      (pss_one (ps_ret pe_bl))), ?_⟩
    have hlen := R.z1
    have hq := R.blk.length
    have R2 := R.pushed B nq
    refine ⟨_, rfl, p, _, A.dx, _, _, rfl, R.ob, T.cl_Reader, T.na_Reader_blocks, r_blocks, .inl ⟨rfl, _, SqL.of R.bl⟩, _, rfl, A.lb, _, _, rfl, rfl, R.bl, ?_, ?_⟩
    · rw [sizeLine_eq, List.length_map]
      omega
    refine ⟨_, rfl, p, _, A.dx, _, _, rfl, R2.ob, T.cl_Reader, T.na_Reader_deepest, r_deepest, _, rfl, p, _, A.dx, _, _, rfl, R2.ob, T.cl_Reader, T.na_Reader_blocks, r_blocks, A.lb, _, rfl, .inl (SqL.of upd_same), _, _, rfl, rfl, _, _, rfl, _, rfl, p, _, A.dx, _, rfl, R2.ob, T.cl_Reader, T.na_Reader_deepest, LyC.few (n := 5) (by show 5 ≤ 5; decide), ?_⟩
    rw [r_put]
    have el : (((A.qs.map V.ref ++ [V.ref q]).length : Int) - 1) = (s.stack.length : Int) := by
      rw [List.length_append, List.length_map, hq]
      show ((s.stack.length + 1 : Nat) : Int) - 1 = _
      omega
    rw [el]
    have zd := R.zd
    refine k _ _ (R2.deepest (d := if (s.stack.length : Int) > s.deep then (s.stack.length : Int) else s.deep) ?_ ?_)
    · split <;> omega
    · split <;> omega
end

end Ly
namespace Ly
open PySem PySem.Spec PyProof.Rows L2
/-! ### Reader: named, turned, ended, opened_definition -/
theorem vstr_eq (a b : Str) : decide (V.str a = V.str b) = decide (a = b) := by
  by_cases h : a = b
  · subst h
    simp
  · rw [decide_eq_false h]
    exact decide_eq_false fun z => h (V.str.inj z)
theorem isEmpty_map {α β : Type} (f : α → β) (xs : List α) : (xs.map f).isEmpty = xs.isEmpty := by cases xs <;> rfl
theorem valV_mem {kv : List (Key × V)} {ns : List Str} (h : kv.map (·.1) = ns.map Sum.inr) (n : Str) : (valV kv (Sum.inr n)).isSome = decide (n ∈ ns) := by
  rw [← valV_any]
  induction ns generalizing kv with
  | nil =>
    cases kv with
    | nil => rfl
    | cons _ _ => cases h
  | cons m ns ih =>
    cases kv with
    | nil => cases h
    | cons p kv =>
      rw [List.map_cons, List.map_cons] at h
      injection h with h1 h2
      rw [List.any_cons, ih h2, h1]
      by_cases c : n = m
      · subst c
        simp
      · have c2 : ¬ (Sum.inr m : Key) = Sum.inr n := fun z => c (Sum.inr.inj z).symm
        simp [c, c2]
def putN (gs : List Str) (n : Str) : List Str := if n ∈ gs then gs else gs ++ [n]
theorem putK_names {kv : List (Key × V)} {ns : List Str} (h : kv.map (·.1) = ns.map Sum.inr) (n : Str) (v : V) : (putK kv (Sum.inr n) v).map (·.1) = (putN ns n).map Sum.inr := by
  have e := valV_mem h n
  unfold putN
  by_cases c : n ∈ ns
  · rw [if_pos c]
    rw [decide_eq_true c] at e
    unfold putK
    rw [valV_any, if_pos e, List.map_map, ← h]
    congr 1
    funext x
    show (if x.1 = Sum.inr n then (x.1, v) else x).1 = x.1
    split <;> rfl
  · rw [if_neg c]
    rw [decide_eq_false c] at e
    rw [putK_new v (by cases z : valV kv (Sum.inr n) with | none => rfl | some u => rw [z] at e; cases e), List.map_append, List.map_append, h]
    rfl
theorem putN_len (gs : List Str) (n : Str) : (putN gs n).length ≤ gs.length + 1 := by
  unfold putN
  split
  · exact Nat.le_succ _
  · rw [List.length_append]
    exact Nat.le_refl _
def Rs.named (s : Rs) (wd n : Str) : Rs := { s with gates := if wd ∈ (["wait", "open"] : List Str) then putN s.gates n else s.gates, begun := if wd = "begin" then s.begun ++ [n] else s.begun }
def Rs.top (s : Rs) : Prop := ∀ e, s.stack.head? = some e → (∃ n, e = .walk n) ∨ ∃ n, e = .job n
def Rs.turned (s : Rs) (e : En) : Option Rs := if s.stack.getLast? = some .guard then some { s with stack := s.stack.dropLast ++ [e] } else none
def Rs.ended (s : Rs) : Option Rs := match s.stack.getLast? with
  | none => none
  | some .guard => none
  | some e => if s.stack.dropLast = [] then (match e with
      | .walk n => some { s with stack := [], walks := putN s.walks n }
      | .job n => some { s with stack := [], jobs := putN s.jobs n }
      | _ => none) else some { s with stack := s.stack.dropLast }
def Rs.defn (s : Rs) (sort n : Str) : Option Rs := if s.stack = [] ∧ isName n = true ∧ ¬ n ∈ s.told sort then some { s with stack := [if sort = "walk" then .walk n else .job n] } else none
/-- the two ways out -/
def Fin (K : PySem.W.Frag) (H0 : Hp) (m : Nat) (p : Addr) (o : Option Rs) (Q : VK) : Prop := (∀ s', o = some s' → ∀ A' H', RdAt K H0 H' m p A' s' → Q (.bl true) H') ∧ (o = none → ∀ H', Same H0 H' → Q (.bl false) H')
section
variable {P : Program} {w : World} {K : PySem.W.Frag} {mg : Str → Option Value} {base : Heap}
def spNamed (K : PySem.W.Frag) : Sp := fun vs H Q _ => ∃ (p : Addr) (wd nm : Str) (at_ : Int) (H0 : Hp) (n : Nat) (A : Ads) (s : Rs), vs = [.ref p, .str wd, .int at_, .str nm] ∧ RdAt K H0 H n p A s ∧ n < 90000 ∧ s.stack ≠ [] ∧ ∀ H', RdAt K H0 H' (n + 2) p A (s.named wd nm) → Q (.bl true) H'
theorem sc_named : FnScope ["self", "word", "at", "name"] ["self", "word", "at", "name"] (defScope s_Reader_named) := ⟨rfl, rfl, rfl, by decide +kernel, rfl, by decide +kernel, by decide +kernel⟩
theorem ok_named (T : Hd K mg) : LyC.Me CX0 P w K mg base 3 (c_Reader K) "named" (spNamed K) [] := by
  obtain ⟨fd, F⟩ := T.f_Reader_named
  refine ⟨_, fd, ["self", "word", "at", "name"], [], T.cl_Reader, T.me_Reader_named, F.ok sc_named (fun vs H Q E h => ?_) (fun cdv A outer s H vs Q E hr h => ?_), F.bindsN fun _ _ _ _ _ _ us hl => match us, hl with | [_, _, _, _], _ => rfl, .nil⟩
  · obtain ⟨p, wd, nm, at_, H0, n, A, s, rfl, _⟩ := h
    rfl
  · obtain ⟨p, wd, nm, at_, H0, n, A, s, rfl, R, hn, hs, k⟩ := h
    refine ⟨_, pss_cons (ps_if (pt_cmpR op_in_seq (pv 1) (pe_tup (pa_cons pe_str (pa_cons pe_str pa_nil))) rfl) (pss_one (ps_dput (hu_of hr) (pe_fld (pv 0) rfl) (pv 3) pe_bl rfl)) pss_nil)
      (pss_cons (ps_if (pt_cmpR op_eq (pv 1) pe_str (nomark _)) (pss_one (ps_expr (pe_bm PySem.F.plainAttrs_list PySem.F.slot_list_append PySem.F.type_list_append mt_append (pe_fld (pv 0) rfl) (pa_cons (pv 3) pa_nil)))) pss_nil)
      (pss_one (ps_ret (LyC.pe_m (ok_added T) hr (pv 0) (pa_cons (pe_tup (pa_cons (pv 1) (pa_cons (pv 2) (pa_cons (pv 3) pa_nil)))) pa_nil))))), ?_⟩
    have fin : ∀ (H1 : Hp) (s1 : Rs), RdAt K H0 H1 (n + 1) p A s1 → s1 = s.named wd nm → ∀ t, H1 t = none → spAdded K [.ref p, .ref t] (upd H1 t (.tup [.str wd, .int at_, .str nm])) Q E0 := by
      intro H1 s1 R1 e2 t ht
      subst e2
      exact ⟨p, .ref t, H0, n + 1, A, _, rfl, R1.mono (LyC.same_new ht) (Nat.le_refl _), by omega, hs, fun H' R' => k H' R'⟩
    refine ⟨_, rfl, by show 2 ≤ sizeLine; decide, fun t ht => ?_⟩
    have R0 := R.mono (LyC.same_new (o := .tup [.str "wait", .str "open"]) ht) (Nat.le_succ n)
    refine ⟨t, _, rfl, .inr (SqT.of upd_same), rfl, rfl, _, rfl, ite2 (fun c => ?_) (fun c => ?_)⟩
    · have c1 : wd ∈ (["wait", "open"] : List Str) := of_decide_eq_true ((LyC.inV_strs wd ["wait", "open"]) ▸ c)
      obtain ⟨kg, g1, g2⟩ := R0.gt
      have hl : kg.length = s.gates.length := by
        have := congrArg List.length g2
        rw [List.length_map, List.length_map] at this
        exact this
      have z5 := R.z5
      have R1 := R0.gate (putK_names g2 nm (.bl true)) (Nat.le_trans (putN_len _ _) (Nat.succ_le_succ z5))
      refine ⟨_, rfl, p, _, A.dx, _, _, rfl, R0.ob, T.cl_Reader, T.na_Reader_gates, r_gates, _, rfl, A.dg, _, rfl, DPut.k (k := Sum.inr nm) g1 (by rw [sizeLine_eq]; omega), ?_⟩
      have cb : ¬ wd = "begin" := by
        rcases List.mem_cons.mp c1 with rfl | c1
        · decide +kernel
        · rcases List.mem_cons.mp c1 with rfl | c1
          · decide +kernel
          · cases c1
      refine ⟨_, rfl, rfl, _, rfl, ite2 (fun c2 => absurd (V.str.inj (of_decide_eq_true c2)) cb) (fun c2 => ?_)⟩
      refine ⟨_, rfl, p, A.dx, _, rfl, R1.ob, r_no (by decide +kernel), _, rfl, _, rfl, _, rfl, (by show 3 ≤ sizeLine; decide), fin _ _ R1 ?_⟩
      unfold Rs.named
      rw [if_pos c1, if_neg cb]
    · have c1 : ¬ wd ∈ (["wait", "open"] : List Str) := fun z => c (by
        show inV (.str wd) ((["wait", "open"] : List Str).map V.str) = true
        rw [LyC.inV_strs]
        exact decide_eq_true z)
      refine ⟨_, rfl, rfl, _, rfl, ite2 (fun c2 => ?_) (fun c2 => ?_)⟩
      · have cb := V.str.inj (of_decide_eq_true c2)
        have z2 := R.z2
        refine ⟨_, rfl, p, _, A.dx, _, _, rfl, R0.ob, T.cl_Reader, T.na_Reader_begun, r_begun, .inl ⟨rfl, _, SqL.of R0.bg⟩, _, rfl, A.lg, _, _, rfl, rfl, R0.bg, ?_, ?_⟩
        · rw [sizeLine_eq, List.length_map]
          omega
        · have R1 := R0.begin nm (by omega)
          refine ⟨_, rfl, p, A.dx, _, rfl, R1.ob, r_no (by decide +kernel), _, rfl, _, rfl, _, rfl, (by show 3 ≤ sizeLine; decide), fin _ _ R1 ?_⟩
          unfold Rs.named
          rw [if_neg c1, if_pos cb]
      · have cb : ¬ wd = "begin" := fun z => c2 (by rw [z]; exact decide_eq_true rfl)
        refine ⟨_, rfl, p, A.dx, _, rfl, R0.ob, r_no (by decide +kernel), _, rfl, _, rfl, _, rfl, (by show 3 ≤ sizeLine; decide), fin _ _ R0 ?_⟩
        unfold Rs.named
        rw [if_neg c1, if_neg cb]
def spTurned (K : PySem.W.Frag) : Sp := fun vs H Q _ => ∃ (p : Addr) (e' : En) (wd : Str) (H0 : Hp) (n : Nat) (A : Ads) (s : Rs), vs = [.ref p, .str wd] ∧ e'.part = .str wd ∧ e'.word = "guard" ∧ (∀ xs, e'.fl xs) ∧ RdAt K H0 H n p A s ∧ n < 90000 ∧ s.stack ≠ [] ∧ Fin K H0 n p (s.turned e') Q
theorem sc_turned : FnScope ["self", "word", "block"] ["self", "word"] (defScope s_Reader_turned) := ⟨rfl, rfl, rfl, by decide +kernel, rfl, by decide +kernel, by decide +kernel⟩
theorem ok_turned (T : Hd K mg) : LyC.Me CX0 P w K mg base 2 (c_Reader K) "turned" (spTurned K) [] := by
  obtain ⟨fd, F⟩ := T.f_Reader_turned
  refine ⟨_, fd, ["self", "word"], [], T.cl_Reader, T.me_Reader_turned, F.ok sc_turned (fun vs H Q E h => ?_) (fun cdv A outer s H vs Q E hr h => ?_), F.bindsN fun _ _ _ _ _ _ us hl => match us, hl with | [_, _], _ => rfl, .nil⟩
  · obtain ⟨p, e', wd, H0, n, A, s, rfl, _⟩ := h
    rfl
  · obtain ⟨p, e', wd, H0, n, A, s, rfl, hp, hw, hf, R, hn, hs, k⟩ := h
    refine ⟨_, pss_cons (ps_set (i := 2) sc_turned.nd rfl (Or.inl rfl) (pe_ix ix_list (pe_fld (pv 0) rfl) (pe_un un_neg pe_int) (fun _ _ => rfl)))
      (pss_cons (ps_if (pt_not (pt_val (LyC.pe_mz (ok_isg T) hr (pv 2)))) (pss_one (ps_ret pe_bl)) pss_nil)
      (pss_cons (ps_fld (pv 2) (pv 1) rfl) (pss_one (ps_ret pe_bl)))), ?_⟩
    obtain ⟨q1, q, s1, e, eq, es, _, B⟩ := last_blk R.blk hs
    obtain ⟨dx, f, r, l, a, xs, ys, zs, h1, _⟩ := id B.ex
    have hl := R.bl
    rw [eq, List.map_append] at hl
    refine ⟨_, rfl, p, _, A.dx, _, _, rfl, R.ob, T.cl_Reader, T.na_Reader_blocks, r_blocks, 1, rfl, A.lb, _, _, _, rfl, rfl, SqL.of hl, atI_last _ _, ?_⟩
    refine ⟨_, rfl, q, dx, _, rfl, h1, b_isg, q, A.lb, A.lg, H0, n, e, rfl, B, _, rfl, ?_⟩
    have et : s.turned e' = if e = .guard then some { s with stack := s1 ++ [e'] } else none := by
      unfold Rs.turned
      rw [es, List.getLast?_append, List.dropLast_concat]
      by_cases c : e = .guard
      · subst c
        rfl
      · rw [if_neg c]
        exact if_neg (fun z => c (Option.some.inj z))
    by_cases c : e = .guard
    · subst c
      rw [if_pos rfl] at et
      rw [decide_eq_true (p := En.guard = .guard) rfl]
      refine ite2 (fun z => nomatch z) fun _ => ?_
      refine ⟨_, rfl, _, rfl, q, _, dx, _, rfl, h1, T.cl_Block, T.na_Block_part, LyC.few (n := 6) (by show 6 ≤ 6; decide), ?_⟩
      rw [b_put, ← hp]
      exact k.1 _ et _ _ (R.turn es eq h1 hw hf)
    · rw [if_neg c] at et
      rw [decide_eq_false c]
      refine ite2 (fun _ => ?_) fun z => absurd rfl z
      exact k.2 et H R.same
theorem told_w {a b : V} : valV [((Sum.inr "walk" : Key), a), (Sum.inr "job", b)] (Sum.inr "walk") = some a := valV_pos rfl
theorem told_j {a b : V} : valV [((Sum.inr "walk" : Key), a), (Sum.inr "job", b)] (Sum.inr "job") = some b := by
  rw [valV_neg (by intro z; exact absurd (Sum.inr.inj z) (by decide +kernel)), valV_pos rfl]
def spEnded (K : PySem.W.Frag) : Sp := fun vs H Q _ => ∃ (p : Addr) (H0 : Hp) (n : Nat) (A : Ads) (s : Rs), vs = [.ref p] ∧ RdAt K H0 H n p A s ∧ n < 90000 ∧ s.top ∧ Fin K H0 (n + 1) p s.ended Q
theorem sc_ended : FnScope ["self", "block"] ["self"] (defScope s_Reader_ended) := ⟨rfl, rfl, rfl, by decide +kernel, rfl, by decide +kernel, by decide +kernel⟩
theorem ok_ended (T : Hd K mg) : LyC.Me CX0 P w K mg base 3 (c_Reader K) "ended" (spEnded K) [] := by
  obtain ⟨fd, F⟩ := T.f_Reader_ended
  refine ⟨_, fd, ["self"], [], T.cl_Reader, T.me_Reader_ended, F.ok sc_ended (fun vs H Q E h => ?_) (fun cdv A outer s H vs Q E hr h => ?_), F.bindsN fun _ _ _ _ _ _ us hl => match us, hl with | [_], _ => rfl, .nil⟩
  · obtain ⟨p, H0, n, A, s, rfl, _⟩ := h
    rfl
  · obtain ⟨p, H0, n, A, s, rfl, R, hn, htop, k⟩ := h
    have hu2 := Nat.lt_of_le_of_lt (Nat.le_add_right _ 64) hr.units
    refine ⟨_, pss_cons (ps_if (PW.pt (pw_or (pt_cmpR (LyC.op_eqNil hu2) (pe_fld (pv 0) rfl) (pe_lst pa_nil) (nomark _)) (pw_or1 (pt_val (LyC.pe_mz (ok_isg T) hr (pe_ix ix_list (pe_fld (pv 0) rfl) (pe_un un_neg pe_int) (fun _ _ => rfl))))))) (pss_one (ps_ret pe_bl)) pss_nil)
      (pss_cons (ps_set (i := 1) sc_ended.nd rfl (Or.inl rfl) (pe_bm0 PySem.F.plainAttrs_list PySem.F.slot_list_pop PySem.F.type_list_pop mt_pop (pe_fld (pv 0) rfl)))
      (pss_cons (ps_if (pt_cmpR (LyC.op_eqNil hu2) (pe_fld (pv 0) rfl) (pe_lst pa_nil) (nomark _))
        (pss_cons (ps_dput (hu_of hr) (pe_dget (hu_of hr) (pe_fld (pv 0) rfl) (pe_fld (pv 1) rfl) (fun _ _ => rfl)) (pe_ix ix_tup (pe_fld (pv 1) rfl) pe_int (fun _ _ => rfl)) (pe_callTy call_tuple_of (by rfl) T.n_tuple (by decide +kernel) (pa_cons (pe_fld (pv 1) rfl) pa_nil)) rfl) (pss_one (ps_ret pe_bl))) pss_nil)
      (pss_one (ps_ret (LyC.pe_m (ok_added T) hr (pv 0) (pa_cons (LyC.pe_mz (ok_madeb T) hr (pv 1)) pa_nil)))))), ?_⟩
    refine ⟨_, rfl, p, _, A.dx, _, _, rfl, R.ob, T.cl_Reader, T.na_Reader_blocks, r_blocks, Nat.zero_le _, fun l0 hl0 => ?_⟩
    have R1 := R.mono (LyC.same_new (o := .lst []) hl0) (Nat.le_refl n)
    refine ⟨A.lb, l0, _, rfl, rfl, SqL.of R1.bl, SqL.of upd_same, _, rfl, ?_⟩
    rw [isEmpty_map]
    by_cases hs : s.stack = []
    · have hq : A.qs = [] := by
        have := R.blk.length
        rw [hs] at this
        exact List.eq_nil_of_length_eq_zero this
      rw [hq]
      refine iteT ?_
      exact k.2 (by unfold Rs.ended; rw [hs]; rfl) _ R1.same
    obtain ⟨q1, q, s1, e, eq, es, pr, B⟩ := last_blk R1.blk hs
    obtain ⟨dx, f, r, l, a, xs, ys, zs, h1, h2, h3, h4, h5, h6, h7, h8, h9⟩ := id B.ex
    have he : A.qs.isEmpty = false := by
      rw [eq]
      cases q1 <;> rfl
    have hl := R1.bl
    rw [eq, List.map_append] at hl
    rw [he]
    refine iteF ?_
    refine ⟨_, rfl, p, _, A.dx, _, _, rfl, R1.ob, T.cl_Reader, T.na_Reader_blocks, r_blocks, 1, rfl, A.lb, _, _, _, rfl, rfl, SqL.of hl, atI_last _ _, ?_⟩
    refine ⟨q, dx, _, rfl, h1, b_isg, q, A.lb, A.lg, H0, n, e, rfl, B, _, rfl, ?_⟩
    have eg : s.stack.getLast? = some e := by
      rw [es, List.getLast?_append]
      rfl
    by_cases c : e = .guard
    · subst c
      rw [decide_eq_true (p := En.guard = .guard) rfl]
      refine iteT ?_
      exact k.2 (by unfold Rs.ended; rw [eg]) _ R1.same
    rw [decide_eq_false c]
    refine iteF ?_
    have ed : s.stack.dropLast = s1 := by rw [es, List.dropLast_concat]
    have hen : s.ended = if s1 = [] then (match e with
      | .walk n => some { s with stack := [], walks := putN s.walks n }
      | .job n => some { s with stack := [], jobs := putN s.jobs n }
      | _ => none) else some { s with stack := s1 } := by
      unfold Rs.ended
      rw [eg, ed]
      cases e <;> first | rfl | exact absurd rfl c
    have nd := R1.nd
    rw [eq] at nd
    have nd1 : q1.Nodup := (List.nodup_append.mp nd).1
    have len1 : s1.length ≤ n := by
      have := R.z1
      rw [es, List.length_append] at this
      omega
    have R2 := R1.blocks pr nd1 len1
    have B2 := B.put R1.bl (o := .lst (q1.map V.ref)) (blk_ne B R1.bl (fun _ _ _ _ _ _ _ z => nomatch z)) (fun _ z => nomatch z) (.inr (.inl rfl))
    refine ⟨_, rfl, p, _, A.dx, _, _, rfl, R1.ob, T.cl_Reader, T.na_Reader_blocks, r_blocks, .inl ⟨rfl, _, SqL.of hl⟩, A.lb, _, V.ref q, rfl, rfl, hl, ?_, ?_⟩
    · rw [List.length_append]
      show (q1.map V.ref ++ [V.ref q])[(q1.map V.ref).length + 1 - 1]? = _
      rw [Nat.add_sub_cancel, List.getElem?_append_right (Nat.le_refl _), Nat.sub_self]
      rfl
    rw [show ([q].map V.ref) = [V.ref q] from rfl, List.dropLast_concat]
    refine ⟨_, rfl, p, _, A.dx, _, _, rfl, R2.ob, T.cl_Reader, T.na_Reader_blocks, r_blocks, Nat.zero_le _, fun l1 hl1 => ?_⟩
    have R3 := R2.mono (LyC.same_new (o := .lst []) hl1) (Nat.le_refl n)
    have B3 := B2.mono (LyC.same_new (o := .lst []) hl1) (Nat.le_refl n)
    refine ⟨A.lb, l1, _, rfl, rfl, SqL.of R3.bl, SqL.of upd_same, _, rfl, ?_⟩
    rw [isEmpty_map]
    by_cases c1 : s1 = []
    · subst c1
      have hq : q1 = [] := List.eq_nil_of_length_eq_zero pr.length
      rw [hq] at R3 B3 ⊢
      refine iteT ?_
      obtain ⟨dx, f, r, l, a, xs, ys, zs, h1, h2, h3, h4, h5, h6, h7, h8, h9⟩ := id B3.ex
      refine ⟨_, rfl, q, _, dx, _, _, rfl, h1, T.cl_Block, T.na_Block_rows, b_rows, r, ys, rfl, .inl ⟨SqL.of h5, fun t ht => ?_⟩⟩
      have R4 := R3.mono (LyC.same_new (o := .tup ys) ht) (Nat.le_succ n)
      have sm := LyC.same_new (o := .tup ys) ht
      obtain ⟨kw, w1, w2⟩ := R4.wk
      obtain ⟨kj, j1, j2⟩ := R4.jb
      have lw : kw.length = s.walks.length := by
        have := congrArg List.length w2
        rw [List.length_map, List.length_map] at this
        exact this
      have lj : kj.length = s.jobs.length := by
        have := congrArg List.length j2
        rw [List.length_map, List.length_map] at this
        exact this
      have z3 := R.z3
      have z4 := R.z4
      rw [if_pos rfl] at hen
      refine ⟨_, rfl, p, _, A.dx, _, _, rfl, R4.ob, T.cl_Reader, T.na_Reader_told, r_told, _, rfl, q, _, dx, _, _, rfl, sm _ _ h1, T.cl_Block, T.na_Block_word, b_word, ?_⟩
      have tp := htop e (by rw [es]; rfl)
      rcases tp with ⟨nm, rfl⟩ | ⟨nm, rfl⟩
      · obtain rfl : xs = [.str nm] := h3
        refine ⟨A.dt, _, rfl, (told_w ▸ DGet.k (k := Sum.inr "walk") R4.told : DGet _ A.dt (.str "walk") (some (.ref A.dw))), ?_⟩
        refine ⟨_, rfl, q, _, dx, _, _, rfl, sm _ _ h1, T.cl_Block, T.na_Block_fields, b_fields, f, _, _, _, rfl, rfl, SqT.of (sm _ _ h2), atI_nat (j := 0) rfl, ?_⟩
        refine ⟨A.dw, _, rfl, DPut.k (k := Sum.inr nm) w1 (by rw [sizeLine_eq]; omega), ?_⟩
        refine k.1 _ hen _ _ (R4.tellW (putK_names w2 nm (.ref t)) (Nat.le_trans (putN_len _ _) (Nat.succ_le_succ z3)))
      · obtain rfl : xs = [.str nm] := h3
        refine ⟨A.dt, _, rfl, (told_j ▸ DGet.k (k := Sum.inr "job") R4.told : DGet _ A.dt (.str "job") (some (.ref A.dj))), ?_⟩
        refine ⟨_, rfl, q, _, dx, _, _, rfl, sm _ _ h1, T.cl_Block, T.na_Block_fields, b_fields, f, _, _, _, rfl, rfl, SqT.of (sm _ _ h2), atI_nat (j := 0) rfl, ?_⟩
        refine ⟨A.dj, _, rfl, DPut.k (k := Sum.inr nm) j1 (by rw [sizeLine_eq]; omega), ?_⟩
        refine k.1 _ hen _ _ (R4.tellJ (putK_names j2 nm (.ref t)) (Nat.le_trans (putN_len _ _) (Nat.succ_le_succ z4)))
    · have hq : q1.isEmpty = false := by
        have := pr.length
        cases q1 with
        | nil => exact absurd (List.eq_nil_of_length_eq_zero this.symm) c1
        | cons _ _ => rfl
      rw [hq]
      refine iteF ?_
      rw [if_neg c1] at hen
      obtain ⟨dx, f, r, l, a, xs, ys, zs, h1, _⟩ := id B3.ex
      refine ⟨_, rfl, p, A.dx, _, rfl, R3.ob, r_no (by decide +kernel), _, rfl, q, dx, _, rfl, h1, b_made, q, A.lb, A.lg, H0, n, e, rfl, B3, by omega, fun t H' sm => ?_⟩
      exact ⟨p, .ref t, H0, n, _, _, rfl, R3.mono sm (Nat.le_refl n), by omega, c1, fun H'' R'' => k.1 _ hen _ _ R''⟩
theorem RdAt.toldAt {H0 H : Hp} {n : Nat} {p : Addr} {A : Ads} {s : Rs} {wd : Str} (R : RdAt K H0 H n p A s) (hw : wd = "walk" ∨ wd = "job") : ∃ d kv, DGet H A.dt (.str wd) (some (.ref d)) ∧ H d = some (.dK kv) ∧ kv.map (·.1) = (s.told wd).map Sum.inr := by
  rcases hw with rfl | rfl
  · obtain ⟨kv, h1, h2⟩ := R.wk
    refine ⟨A.dw, kv, (told_w ▸ DGet.k (k := Sum.inr "walk") R.told : DGet _ A.dt (.str "walk") (some (.ref A.dw))), h1, ?_⟩
    unfold Rs.told
    rw [if_pos rfl]
    exact h2
  · obtain ⟨kv, h1, h2⟩ := R.jb
    refine ⟨A.dj, kv, (told_j ▸ DGet.k (k := Sum.inr "job") R.told : DGet _ A.dt (.str "job") (some (.ref A.dj))), h1, ?_⟩
    unfold Rs.told
    rw [if_neg (by decide +kernel)]
    exact h2
def spDefn (K : PySem.W.Frag) : Sp := fun vs H Q _ => ∃ (p : Addr) (wd nm : Str) (at_ : Int) (H0 : Hp) (n : Nat) (A : Ads) (s : Rs), vs = [.ref p, .str wd, .int at_, .str nm] ∧ (wd = "walk" ∨ wd = "job") ∧ nm.length < 1000000 ∧ RdAt K H0 H n p A s ∧ n < 90000 ∧ Fin K H0 (n + 1) p (s.defn wd nm) Q
theorem sc_defn : FnScope ["self", "sort", "at", "name"] ["self", "sort", "at", "name"] (defScope s_Reader_opened_definition) := ⟨rfl, rfl, rfl, by decide +kernel, rfl, by decide +kernel, by decide +kernel⟩
theorem ok_defn (T : Hd K mg) : LyC.Me CX0 P w K mg base 3 (c_Reader K) "opened_definition" (spDefn K) [] := by
  obtain ⟨fd, F⟩ := T.f_Reader_opened_definition
  refine ⟨_, fd, ["self", "sort", "at", "name"], [], T.cl_Reader, T.me_Reader_opened_definition, F.ok sc_defn (fun vs H Q E h => ?_) (fun cdv A outer s H vs Q E hr h => ?_), F.bindsN fun _ _ _ _ _ _ us hl => match us, hl with | [_, _, _, _], _ => rfl, .nil⟩
  · obtain ⟨p, wd, nm, at_, H0, n, A, s, rfl, _⟩ := h
    rfl
  · obtain ⟨p, wd, nm, at_, H0, n, A, s, rfl, hw, hnm, R, hn, k⟩ := h
    have hu2 := Nat.lt_of_le_of_lt (Nat.le_add_right _ 64) hr.units
    obtain ⟨fB, mkB, FB⟩ := ok_bi (P := P) (w := w) (base := base) T
    refine ⟨_, pss_cons (ps_if (PW.pt (pw_or (pt_cmpR (LyC.op_neNil hu2) (pe_fld (pv 0) rfl) (pe_lst pa_nil) (nomark _)) (pw_or (pt_not (pt_val (LyC.pe_f (ok_name T) hr (pa_cons (pv 3) pa_nil)))) (pw_or1 (pt_cmp (pc_din (hu_of hr) (pv 3) (pe_dget (hu_of hr) (pe_fld (pv 0) rfl) (pv 1) (fun _ _ => rfl)))))))) (pss_one (ps_ret pe_bl)) pss_nil)
      (pss_cons (ps_expr (pe_bm PySem.F.plainAttrs_list PySem.F.slot_list_append PySem.F.type_list_append mt_append (pe_fld (pv 0) rfl) (pa_cons (StX.pe_makeR mkB FB hr rfl T.g_Block pass0 (pa_cons (pv 1) (pa_cons (pv 2) (pa_cons (pv 3) pa_nil)))) pa_nil)))
      (pss_one (ps_ret pe_bl))), ?_⟩
    refine ⟨_, rfl, p, _, A.dx, _, _, rfl, R.ob, T.cl_Reader, T.na_Reader_blocks, r_blocks, Nat.zero_le _, fun l0 hl0 => ?_⟩
    have R1 := R.mono (LyC.same_new (o := .lst []) hl0) (Nat.le_refl n)
    refine ⟨A.lb, l0, _, rfl, rfl, SqL.of R1.bl, SqL.of upd_same, _, rfl, ?_⟩
    rw [isEmpty_map]
    by_cases hs : s.stack = []
    · have hq : A.qs = [] := by
        have := R.blk.length
        rw [hs] at this
        exact List.eq_nil_of_length_eq_zero this
      rw [hq]
      refine iteF ?_
      refine ⟨_, rfl, nm, rfl, hnm, fun H2 sm2 => ⟨_, rfl, ?_⟩⟩
      have R2 := R1.mono sm2 (Nat.le_refl n)
      cases cn : isName nm with
      | false =>
        refine iteT ?_
        exact k.2 (by unfold Rs.defn; exact if_neg (fun z => by rw [cn] at z; exact absurd z.2.1 (by decide))) _ R2.same
      | true =>
        refine iteF ?_
        obtain ⟨d, kv, g1, g2, g3⟩ := R2.toldAt hw
        have em := valV_mem g3 nm
        refine ⟨_, rfl, _, rfl, p, _, A.dx, _, _, rfl, R2.ob, T.cl_Reader, T.na_Reader_told, r_told, _, rfl, A.dt, _, rfl, g1, d, _, rfl, DGet.k (k := Sum.inr nm) g2, _, rfl, ?_⟩
        by_cases cm : nm ∈ s.told wd
        · rw [decide_eq_true cm] at em
          rw [em]
          refine iteT ?_
          exact k.2 (by unfold Rs.defn; exact if_neg (fun z => z.2.2 cm)) _ R2.same
        · rw [decide_eq_false cm] at em
          rw [em]
          refine iteF ?_
          have hen : s.defn wd nm = some { s with stack := [if wd = "walk" then .walk nm else .job nm] } := by
            unfold Rs.defn
            exact if_pos ⟨hs, cn, cm⟩
          refine ⟨_, rfl, p, _, A.dx, _, _, rfl, R2.ob, T.cl_Reader, T.na_Reader_blocks, r_blocks, .inl ⟨rfl, _, SqL.of R2.bl⟩, _, rfl, _, rfl, _, rfl, ?_⟩
          refine mk_block (wd := wd) (at_ := at_) (rest := [V.str nm]) (by show 1 ≤ 3; decide) fun q H3 B => ?_
          have R3 := R2.mono B.same (Nat.le_refl n)
          have hb : BlkAt K H0 H3 A.lb A.lg n q (if wd = "walk" then .walk nm else .job nm) ∧ ¬ q ∈ A.qs := by
            rcases hw with rfl | rfl
            · rw [if_pos rfl]
              exact B.blk R2 rfl rfl rfl (by show 1 ≤ 3; decide)
            · rw [if_neg (by decide +kernel)]
              exact B.blk R2 rfl rfl rfl (by show 1 ≤ 3; decide)
          have R4 := R3.pushed hb.1 hb.2
          refine ⟨A.lb, _, _, rfl, rfl, R3.bl, ?_, ?_⟩
          · rw [hq]
            decide
          · rw [hs] at R4
            exact k.1 _ hen _ _ R4
    · have he : A.qs.isEmpty = false := by
        have := R.blk.length
        cases z : A.qs with
        | nil =>
          rw [z] at this
          exact absurd (List.eq_nil_of_length_eq_zero this.symm) hs
        | cons _ _ => rfl
      rw [he]
      refine iteT ?_
      exact k.2 (by unfold Rs.defn; exact if_neg (fun z => hs z.1)) _ R1.same
end

end Ly
namespace Ly
open PySem PySem.Spec PyProof.Rows L2
/-! ### Reader: may_give, may_pull, pulled -/
theorem part_late (e : En) : decide (e.part = V.str "late") = decide (e = .late) := by
  cases e <;> first | rfl | (simp [En.part]; try decide +kernel)
theorem word_walk (e : En) : decide (V.str e.word = V.str "walk") = e.isWalk := by
  rw [vstr_eq]
  cases e <;> first | rfl | (simp only [En.word, En.isWalk]; decide +kernel)
theorem word_job (e : En) : decide (V.str e.word = V.str "job") = e.isJob := by
  rw [vstr_eq]
  cases e <;> first | rfl | (simp only [En.word, En.isJob]; decide +kernel)
theorem any_mem {st : List En} {x : En} : (st.map fun e => decide (e = x)).any id = decide (x ∈ st) := by
  induction st with
  | nil => rfl
  | cons e st ih =>
    rw [List.map_cons, List.any_cons, ih]
    by_cases c : e = x
    · subst c
      simp
    · have c2 : ¬ x = e := fun z => c z.symm
      simp [c, c2]
theorem paired_get {α β : Type} {F : α → β → Prop} {xs : List α} {ys : List β} (h : Paired F xs ys) : ∀ {i : Nat} {a : α}, xs[i]? = some a → ∃ b, ys[i]? = some b ∧ F a b := by
  induction h with
  | nil => intro i a e; cases e
  | @cons a b as bs hb _ ih =>
    intro i a' e
    cases i with
    | zero =>
      cases e
      exact ⟨b, rfl, hb⟩
    | succ i => exact ih e
def Rs.mayGive (s : Rs) : Bool := s.stack.head?.any En.isWalk && !decide (En.late ∈ s.stack)
def Rs.mayPull (s : Rs) (wk h : Str) : Bool := decide (wk ∈ s.walks) && (decide (h ∈ k_HOWS) && (!decide (h = "kept") || (s.stack.head?.any En.isJob && !decide (En.each wk "kept" ∈ s.stack))))
section
variable {P : Program} {w : World} {K : PySem.W.Frag} {mg : Str → Option Value} {base : Heap}
def spMayGive (K : PySem.W.Frag) : Sp := fun vs H Q _ => ∃ (p : Addr) (H0 : Hp) (n : Nat) (A : Ads) (s : Rs), vs = [.ref p] ∧ RdAt K H0 H n p A s ∧ n < 90000 ∧ s.stack ≠ [] ∧ ∀ H', Same H H' → Q (.bl s.mayGive) H'
theorem sc_mayg : FnScope ["self", "block"] ["self"] (defScope s_Reader_may_give) := ⟨rfl, rfl, rfl, by decide +kernel, rfl, by decide +kernel, by decide +kernel⟩
theorem ok_mayg (T : Hd K mg) : LyC.Me CX0 P w K mg base 2 (c_Reader K) "may_give" (spMayGive K) [] := by
  obtain ⟨fd, F⟩ := T.f_Reader_may_give
  refine ⟨_, fd, ["self"], [], T.cl_Reader, T.me_Reader_may_give, F.ok sc_mayg (fun vs H Q E h => ?_) (fun cdv A outer s H vs Q E hr h => ?_), F.bindsN fun _ _ _ _ _ _ us hl => match us, hl with | [_], _ => rfl, .nil⟩
  · obtain ⟨p, H0, n, A, s, rfl, _⟩ := h
    rfl
  · obtain ⟨p, H0, n, A, s, rfl, R, hn, hs, k⟩ := h
    refine ⟨_, pss_one (ps_ret (pe_and (pe_cmpR op_eq (pe_fld (pe_ix ix_list (pe_fld (pv 0) rfl) pe_int (fun _ _ => rfl)) rfl) pe_str (nomark _))
      (pe_one (pe_not (pe_callB (cr_any rfl) (by rfl) T.n_any (by decide +kernel) (pa_cons (pe_lc (own := [("block", 1)]) (g := gName 1) (tt := tYes) (te := tOp rEq (tFld K (tVar 1) "part") (tC (.str "late"))) rfl sc_mayg.nd (pi_list (pe_fld (pv 0) rfl)) (blkOk_by (N := ["self", "block"]) (sc := defScope s_Reader_may_give) (by decide +kernel)) (fun _ _ _ _ _ => pg_name (i := 1) sc_mayg.nd rfl (Or.inl rfl)) (fun _ _ _ _ _ => pts_nil) (fun _ _ _ _ _ => pe_cmpR op_eq (pe_fld (pv 1) rfl) pe_str (nomark _))) pa_nil)))))), ?_⟩
    have hb := R.blk
    cases hst : s.stack with
    | nil => exact absurd hst hs
    | cons e st =>
      rw [hst] at hb
      generalize hqs : A.qs = qs at hb
      cases hb with
      | @cons q _ qs _ B _ =>
        have hl := R.bl
        rw [hqs] at hl
        obtain ⟨dx, f, r, l, a, xs, ys, zs, h1, _⟩ := id B.ex
        refine ⟨_, rfl, p, _, A.dx, _, _, rfl, R.ob, T.cl_Reader, T.na_Reader_blocks, r_blocks, A.lb, _, _, _, rfl, rfl, SqL.of hl, atI_nat (j := 0) rfl, q, _, dx, _, _, rfl, h1, T.cl_Block, T.na_Block_word, b_word, rfl, _, rfl, ?_⟩
        rw [word_walk]
        have eg : s.mayGive = (e.isWalk && !decide (En.late ∈ s.stack)) := by
          unfold Rs.mayGive
          rw [hst]
          rfl
        cases cw : e.isWalk with
        | false =>
          refine iteF ?_
          rw [cw, Bool.false_and] at eg
          rw [eg] at k
          exact k H (Same.refl H)
        | true =>
          refine iteT ?_
          rw [cw, Bool.true_and] at eg
          refine ⟨_, rfl, p, _, A.dx, _, _, rfl, R.ob, T.cl_Reader, T.na_Reader_blocks, r_blocks, A.lb, rfl, ⟨_, SqL.of R.bl⟩, fun D hD => ?_⟩
          have hq := R.blk.length
          have hz := R.z1
          refine lc_it (walk_list (xs := A.qs.map V.ref)) (LyC.LcP H D (LyC.mapTo (fun e : En => .bl (decide (e = .late))) s.stack)) (LyC.lcp0 hD rfl) (fun _ _ _ z => SqL.of (z.1 _ _ R.bl)) ?_ ?_
          · rintro i x H1 H2 hi ⟨s1, d1⟩ ⟨rfl, hx⟩
            rw [List.getElem?_map] at hx
            cases hqi : A.qs[i]? with
            | none =>
              rw [hqi] at hx
              cases hx
            | some q =>
              rw [hqi] at hx
              cases hx
              obtain ⟨e, he, B⟩ := paired_get R.blk hqi
              obtain ⟨dx, f, r, l, a, xs, ys, zs, h1, _⟩ := (B.mono s1 (Nat.le_refl n)).ex
              refine ⟨rfl, _, rfl, q, _, dx, _, _, rfl, h1, T.cl_Block, T.na_Block_part, b_part, ?_⟩
              refine ⟨by cases e <;> rfl, ?_⟩
              rw [part_late]
              exact LyC.lcp_next hD s1 d1 (Nat.lt_of_le_of_lt (LyC.mapTo_len _ _ _) (by rw [sizeLine_eq]; omega)) (LyC.mapTo_next he)
          · rintro H1 ⟨s1, d1⟩
            have e2 : (A.qs.map V.ref).length = s.stack.length := by rw [List.length_map, hq]
            rw [e2, LyC.mapTo_all] at d1
            refine ⟨D, s.stack.map fun e => decide (e = .late), rfl, ?_, ?_⟩
            · rw [List.map_map]
              exact SqL.of d1
            · rw [any_mem]
              refine ⟨_, rfl, ?_⟩
              rw [← eg]
              exact k H1 s1
def spMayPull (K : PySem.W.Frag) : Sp := fun vs H Q _ => ∃ (p : Addr) (wk h : Str) (H0 : Hp) (n : Nat) (A : Ads) (s : Rs), vs = [.ref p, .str wk, .str h] ∧ RdAt K H0 H n p A s ∧ n < 90000 ∧ s.stack ≠ [] ∧ ∀ H', Same H H' → Q (.bl (s.mayPull wk h)) H'
theorem sc_mayp : FnScope ["self", "walk", "how", "block"] ["self", "walk", "how"] (defScope s_Reader_may_pull) := ⟨rfl, rfl, rfl, by decide +kernel, rfl, by decide +kernel, by decide +kernel⟩
theorem ok_mayp (T : Hd K mg) : LyC.Me CX0 P w K mg base 2 (c_Reader K) "may_pull" (spMayPull K) [] := by
  obtain ⟨fd, F⟩ := T.f_Reader_may_pull
  refine ⟨_, fd, ["self", "walk", "how"], [], T.cl_Reader, T.me_Reader_may_pull, F.ok sc_mayp (fun vs H Q E h => ?_) (fun cdv A outer s H vs Q E hr h => ?_), F.bindsN fun _ _ _ _ _ _ us hl => match us, hl with | [_, _, _], _ => rfl, .nil⟩
  · obtain ⟨p, wk, h, H0, n, A, s, rfl, _⟩ := h
    rfl
  · obtain ⟨p, wk, h, H0, n, A, s, rfl, R, hn, hs, k⟩ := h
    refine ⟨_, pss_cons (ps_if (PW.pt (pw_or (pt_cmp (pc_dnotin (hu_of hr) (pv 1) (pe_dget (hu_of hr) (pe_fld (pv 0) rfl) pe_str (fun _ _ => rfl)))) (pw_or1 (pt_cmpR op_notIn_seq (pv 2) (LyC.pe_gR T.g_HOWS) rfl)))) (pss_one (ps_ret pe_bl)) pss_nil)
      (pss_cons (ps_if (pt_cmpR op_ne (pv 2) pe_str (nomark _)) (pss_one (ps_ret pe_bl)) pss_nil)
      (pss_one (ps_ret (pe_and (pe_cmpR op_eq (pe_fld (pe_ix ix_list (pe_fld (pv 0) rfl) pe_int (fun _ _ => rfl)) rfl) pe_str (nomark _))
      (pe_one (pe_not (pe_callB (cr_any rfl) (by rfl) T.n_any (by decide +kernel) (pa_cons (pe_lc (own := [("block", 3)]) (g := gName 3) (tt := tYes) rfl sc_mayp.nd (pi_list (pe_fld (pv 0) rfl)) (blkOk_by (N := ["self", "walk", "how", "block"]) (sc := defScope s_Reader_may_pull) (by decide +kernel)) (fun _ _ _ _ _ => pg_name (i := 3) sc_mayp.nd rfl (Or.inl rfl)) (fun _ _ _ _ _ => pts_nil) (fun _ _ _ _ _ => LyC.pe_m (ok_keeps T) hr (pv 3) (pa_cons (pv 1) pa_nil))) pa_nil)))))))), ?_⟩
    obtain ⟨d, kv, g1, g2, g3⟩ := R.toldAt (wd := "walk") (.inl rfl)
    have em := valV_mem g3 wk
    have et : s.told "walk" = s.walks := if_pos rfl
    rw [et] at em
    refine ⟨_, rfl, _, rfl, p, _, A.dx, _, _, rfl, R.ob, T.cl_Reader, T.na_Reader_told, r_told, A.dt, _, rfl, g1, d, _, rfl, DGet.k (k := Sum.inr wk) g2, _, rfl, ?_⟩
    rw [em]
    by_cases cm : wk ∈ s.walks
    · rw [decide_eq_true cm]
      refine iteF ?_
      refine ⟨_, rfl, _, _, rfl, .inr (T.t_HOWS H), rfl, LyC.flat_strs _, _, rfl, ?_⟩
      rw [LyC.inV_strs]
      by_cases ch : h ∈ k_HOWS
      · have ep : s.mayPull wk h = (!decide (h = "kept") || (s.stack.head?.any En.isJob && !decide (En.each wk "kept" ∈ s.stack))) := by
          unfold Rs.mayPull
          rw [decide_eq_true cm, decide_eq_true ch, Bool.true_and, Bool.true_and]
        rw [decide_eq_true ch]
        refine iteF ?_
        refine ⟨_, rfl, rfl, _, rfl, ?_⟩
        rw [vstr_eq]
        by_cases ck : h = "kept"
        · rw [decide_eq_true ck]
          refine iteF ?_
          rw [decide_eq_true ck, Bool.not_true, Bool.false_or] at ep
          have hb := R.blk
          cases hst : s.stack with
          | nil => exact absurd hst hs
          | cons e st =>
            rw [hst] at hb
            generalize hqs : A.qs = qs at hb
            cases hb with
            | @cons q _ qs _ B _ =>
              have hl := R.bl
              rw [hqs] at hl
              obtain ⟨dx, f, r, l, a, xs, ys, zs, h1, _⟩ := id B.ex
              refine ⟨_, rfl, p, _, A.dx, _, _, rfl, R.ob, T.cl_Reader, T.na_Reader_blocks, r_blocks, A.lb, _, _, _, rfl, rfl, SqL.of hl, atI_nat (j := 0) rfl, q, _, dx, _, _, rfl, h1, T.cl_Block, T.na_Block_word, b_word, rfl, _, rfl, ?_⟩
              rw [word_job]
              have eg : s.mayPull wk h = (e.isJob && !decide (En.each wk "kept" ∈ s.stack)) := by
                rw [ep, hst]
                rfl
              cases cw : e.isJob with
              | false =>
                refine iteF ?_
                rw [cw, Bool.false_and] at eg
                rw [eg] at k
                exact k H (Same.refl H)
              | true =>
                refine iteT ?_
                rw [cw, Bool.true_and] at eg
                refine ⟨_, rfl, p, _, A.dx, _, _, rfl, R.ob, T.cl_Reader, T.na_Reader_blocks, r_blocks, A.lb, rfl, ⟨_, SqL.of R.bl⟩, fun D hD => ?_⟩
                have hq := R.blk.length
                have hz := R.z1
                refine lc_it (walk_list (xs := A.qs.map V.ref)) (LyC.LcP H D (LyC.mapTo (fun e : En => .bl (decide (e = .each wk "kept"))) s.stack)) (LyC.lcp0 hD rfl) (fun _ _ _ z => SqL.of (z.1 _ _ R.bl)) ?_ ?_
                · rintro i x H1 H2 hi ⟨s1, d1⟩ ⟨rfl, hx⟩
                  rw [List.getElem?_map] at hx
                  cases hqi : A.qs[i]? with
                  | none =>
                    rw [hqi] at hx
                    cases hx
                  | some q =>
                    rw [hqi] at hx
                    cases hx
                    obtain ⟨e, he, B⟩ := paired_get R.blk hqi
                    have B1 := B.mono s1 (Nat.le_refl n)
                    obtain ⟨dx, f, r, l, a, xs, ys, zs, h1, _⟩ := id B1.ex
                    refine ⟨rfl, _, rfl, q, dx, _, rfl, h1, b_keeps, _, rfl, q, A.lb, A.lg, wk, H0, n, e, rfl, B1, fun H2 s2 => ?_⟩
                    exact LyC.lcp_next hD (s1.trans s2) (s2 _ _ d1) (Nat.lt_of_le_of_lt (LyC.mapTo_len _ _ _) (by rw [sizeLine_eq]; omega)) (LyC.mapTo_next he)
                · rintro H1 ⟨s1, d1⟩
                  have e2 : (A.qs.map V.ref).length = s.stack.length := by rw [List.length_map, hq]
                  rw [e2, LyC.mapTo_all] at d1
                  refine ⟨D, s.stack.map fun e => decide (e = .each wk "kept"), rfl, ?_, ?_⟩
                  · rw [List.map_map]
                    exact SqL.of d1
                  · rw [any_mem]
                    refine ⟨_, rfl, ?_⟩
                    rw [← eg]
                    exact k H1 s1
        · rw [decide_eq_false ck]
          refine iteT ?_
          rw [decide_eq_false ck, Bool.not_false, Bool.true_or] at ep
          rw [ep] at k
          exact k H (Same.refl H)
      · have ep : s.mayPull wk h = false := by
          unfold Rs.mayPull
          rw [decide_eq_false ch, Bool.false_and, Bool.and_false]
        rw [decide_eq_false ch]
        refine iteT ?_
        rw [ep] at k
        exact k H (Same.refl H)
    · have ep : s.mayPull wk h = false := by
        unfold Rs.mayPull
        rw [decide_eq_false cm, Bool.false_and]
      rw [decide_eq_false cm]
      refine iteT ?_
      rw [ep] at k
      exact k H (Same.refl H)
end

end Ly
namespace Ly
open PySem PySem.Spec PyProof.Rows L2
/-! ### Reader: pulled, alone, within, take -/
theorem Fin.weak {K : PySem.W.Frag} {H0 : Hp} {m m' : Nat} {p : Addr} {o : Option Rs} {Q : VK} (k : Fin K H0 m p o Q) (h : m' ≤ m) : Fin K H0 m' p o Q := ⟨fun s' e A' H' R => k.1 s' e A' H' (R.mono (Same.refl _) h), k.2⟩
theorem times_int {z : Str} (h : isTimes z = true) : ∃ i, PySem.intText? z = some i ∧ z.length ≤ 640 := by
  unfold isTimes madeOf at h
  rw [Bool.and_eq_true, Bool.and_eq_true, Bool.and_eq_true] at h
  obtain ⟨⟨h1, h2, h3⟩, _⟩ := h
  have h1 := of_decide_eq_true h1
  have h2 := of_decide_eq_true h2
  obtain ⟨cs⟩ := z
  have hs : cs.size = 1 := by
    have e1 : ((Str.length ⟨cs⟩ : Nat) : Int) = ((cs.size : Nat) : Int) := rfl
    omega
  obtain ⟨xs⟩ := cs
  have hx : xs.length = 1 := hs
  match xs, hx with
  | [c], _ =>
    have hc : c ∈ (Str.ofString "0123456789").cps.toList := by
      have := List.all_eq_true.mp h3 c List.mem_cons_self
      exact of_decide_eq_true this
    have hc2 : c ∈ ([48, 49, 50, 51, 52, 53, 54, 55, 56, 57] : List Nat) := hc
    refine ⟨(c : Int) - 48, ?_, by show 1 ≤ 640; decide⟩
    simp only [List.mem_cons, List.not_mem_nil, or_false] at hc2
    rcases hc2 with rfl | rfl | rfl | rfl | rfl | rfl | rfl | rfl | rfl | rfl <;> decide +kernel
def Rs.pulled (s : Rs) (wk h : Str) (ts : List Str) : Option Rs := if (s.mayPull wk h && ts.all isTimes) = true then some (s.push (.each wk h)) else none
def Rs.alone (s : Rs) (wd : Str) : Option Rs :=
  if wd = "late" then s.turned .late else if wd = "mend" then s.turned .mend else if wd = "guard" then some (s.push .guard)
  else if wd = "give" then (if s.mayGive = true then some s else none) else if wd = "pause" then some s else none
def Rs.w0 (s : Rs) (wd : Str) : List Str → Option Rs
  | [n] => s.defn wd n
  | _ => none
def Rs.w1 (s : Rs) (wd : Str) : List Str → Option Rs
  | [n] => if isName n = true then some (s.named wd n) else none
  | _ => none
def Rs.w2 (s : Rs) : List Str → Option Rs
  | [n] => if isTimes n = true then some (s.push .rep) else none
  | _ => none
def Rs.w3 (s : Rs) : List Str → Option Rs
  | [wk, h] => s.pulled wk h []
  | [wk, h, t] => s.pulled wk h [t]
  | _ => none
def Rs.within (s : Rs) (wd : Str) (rest : List Str) : Option Rs :=
  if wd ∈ k_NAMED then s.w1 wd rest
  else if wd = "repeat" then s.w2 rest
  else if wd = "each" then s.w3 rest
  else if rest = [] then s.alone wd else none
def Rs.take (s : Rs) (wd : Str) (rest : List Str) : Option Rs :=
  if wd ∈ (["walk", "job"] : List Str) then s.w0 wd rest
  else if wd = "end" then (if rest = [] then s.ended else none)
  else if s.stack = [] then none else s.within wd rest
section
variable {P : Program} {w : World} {K : PySem.W.Frag} {mg : Str → Option Value} {base : Heap}
def spPulled (K : PySem.W.Frag) : Sp := fun vs H Q _ => ∃ (p a : Addr) (at_ : Int) (wk h : Str) (ts : List Str) (H0 : Hp) (n : Nat) (A : Ads) (s : Rs), vs = [.ref p, .int at_, .ref a] ∧ H a = some (.lst ((wk :: h :: ts).map V.str)) ∧ ts.length ≤ 1 ∧ (∀ t ∈ ts, t.length < 1000000) ∧ RdAt K H0 H n p A s ∧ n < 90000 ∧ s.stack ≠ [] ∧ Fin K H0 (n + 1) p (s.pulled wk h ts) Q
theorem sc_pulled : FnScope ["self", "at", "rest", "walk", "how", "times", "figure"] ["self", "at", "rest"] (defScope s_Reader_pulled) := ⟨rfl, rfl, rfl, by decide +kernel, rfl, by decide +kernel, by decide +kernel⟩
theorem ok_pulled (T : Hd K mg) : LyC.Me CX0 P w K mg base 3 (c_Reader K) "pulled" (spPulled K) [] := by
  obtain ⟨fd, F⟩ := T.f_Reader_pulled
  refine ⟨_, fd, ["self", "at", "rest"], [], T.cl_Reader, T.me_Reader_pulled, F.ok sc_pulled (fun vs H Q E h => ?_) (fun cdv A outer s H vs Q E hr h => ?_), F.bindsN fun _ _ _ _ _ _ us hl => match us, hl with | [_, _, _], _ => rfl, .nil⟩
  · obtain ⟨p, a, at_, wk, h, ts, H0, n, A, s, rfl, _⟩ := h
    rfl
  · obtain ⟨p, a, at_, wk, h, ts, H0, n, A, s, rfl, ha, hts, hlen, R, hn, hs, k⟩ := h
    have hu2 := Nat.lt_of_le_of_lt (Nat.le_add_right _ 64) hr.units
    obtain ⟨fB, mkB, FB⟩ := ok_bi (P := P) (w := w) (base := base) T
    refine ⟨_, pss_cons (ps_asg (pv 2) (LyR.pg_star (i := 2) rfl (pgs_cons (pg_name (i := 3) sc_pulled.nd rfl (Or.inl rfl)) (pgs_cons (pg_name (i := 4) sc_pulled.nd rfl (Or.inl rfl)) (LyR.pgs_star (pg_name (i := 5) sc_pulled.nd rfl (Or.inl rfl)) pgs_nil)))))
      (pss_cons (ps_if (PW.pt (pw_or (pt_not (pt_val (LyC.pe_m (ok_mayp T) hr (pv 0) (pa_cons (pv 3) (pa_cons (pv 4) pa_nil))))) (pw_or1 (pt_not (pt_val (pe_callB (cr_all rfl) (by rfl) T.n_all (by decide +kernel) (pa_cons
          (pe_lc (own := [("figure", 6)]) (g := gName 6) (tt := tYes) rfl sc_pulled.nd (pi_list (pv 5)) (blkOk_by (N := ["self", "at", "rest", "walk", "how", "times", "figure"]) (sc := defScope s_Reader_pulled) (by decide +kernel))
            (fun _ _ _ _ _ => pg_name (i := 6) sc_pulled.nd rfl (Or.inl rfl)) (fun _ _ _ _ _ => pts_nil) (fun _ _ _ _ _ => LyC.pe_f (ok_times T) hr (pa_cons (pv 6) pa_nil))) pa_nil))))))) (pss_one (ps_ret pe_bl)) pss_nil)
      (pss_one (ps_ret (LyC.pe_m (ok_opened T) hr (pv 0) (pa_cons (StX.pe_makeR mkB FB hr rfl T.g_Block pass0 (pa_cons pe_str (pa_cons (pv 1) (pa_cons (pv 3) (pa_cons (pv 4) (pa_cons
        (pe_ifExp (pt_cmpR (LyC.op_neNil hu2) (pv 5) (pe_lst pa_nil) (nomark _)) (pe_callTy call_int_str (by rfl) T.n_int (by decide +kernel) (pa_cons (pe_ix ix_list (pv 5) pe_int (fun _ _ => rfl)) pa_nil)) pe_non) pa_nil)))))) pa_nil))))), ?_⟩
    refine ⟨_, rfl, a, _, rfl, SqL.of ha, (by rw [List.length_map, List.length_cons, List.length_cons]; omega), fun D hD => ?_⟩
    refine ⟨_, _, rfl, _, _, rfl, _, _, rfl, rfl, ?_⟩
    have sD := LyC.same_new (o := .lst (ts.map V.str)) hD
    have R1 := R.mono sD (Nat.le_refl n)
    have hDD : (upd H D (.lst (ts.map V.str))) D = some (.lst (ts.map V.str)) := upd_same
    refine ⟨_, rfl, p, A.dx, _, rfl, R1.ob, r_no (by decide +kernel), _, rfl, _, rfl, p, wk, h, H0, n, A, s, rfl, R1, hn, hs, fun H2 s2 => ⟨_, rfl, ?_⟩⟩
    have R2 := R1.mono s2 (Nat.le_refl n)
    have hD2 := s2 _ _ hDD
    cases cp : s.mayPull wk h with
    | false =>
      refine iteT ?_
      exact k.2 (by unfold Rs.pulled; rw [cp]; rfl) _ R2.same
    | true =>
      refine iteF ?_
      refine ⟨_, rfl, D, rfl, ⟨_, SqL.of hD2⟩, fun D2 n2 => ?_⟩
      refine lc_it (walk_list (xs := ts.map V.str)) (LyC.LcP H2 D2 (LyC.mapTo (fun z : Str => .bl (isTimes z)) ts)) (LyC.lcp0 n2 rfl) (fun _ _ _ z => SqL.of (z.1 _ _ hD2)) ?_ ?_
      · rintro i x H3 H4 hi ⟨s3, d3⟩ ⟨rfl, hx⟩
        rw [List.getElem?_map] at hx
        cases hz : ts[i]? with
        | none =>
          rw [hz] at hx
          cases hx
        | some z =>
          rw [hz] at hx
          cases hx
          refine ⟨rfl, _, rfl, z, rfl, hlen z (List.mem_of_getElem? hz), fun H5 s5 => ?_⟩
          exact LyC.lcp_next n2 (s3.trans s5) (s5 _ _ d3) (Nat.lt_of_le_of_lt (LyC.mapTo_len _ _ _) (by rw [sizeLine_eq]; omega)) (LyC.mapTo_next hz)
      · rintro H3 ⟨s3, d3⟩
        rw [List.length_map, LyC.mapTo_all] at d3
        have R3 := R2.mono s3 (Nat.le_refl n)
        have hD3 := s3 _ _ hD2
        refine ⟨D2, ts.map isTimes, rfl, by rw [List.map_map]; exact SqL.of d3, ?_⟩
        have ea : (ts.map isTimes).all id = ts.all isTimes := by rw [List.all_map]; rfl
        rw [ea]
        cases ca : ts.all isTimes with
        | false =>
          refine ⟨_, rfl, iteT ?_⟩
          exact k.2 (by unfold Rs.pulled; rw [cp, ca]; rfl) _ R3.same
        | true =>
          refine ⟨_, rfl, iteF ?_⟩
          have hen : s.pulled wk h ts = some (s.push (.each wk h)) := by
            unfold Rs.pulled
            rw [cp, ca]
            rfl
          refine ⟨_, rfl, p, A.dx, _, rfl, R3.ob, r_no (by decide +kernel), _, rfl, _, rfl, _, rfl, _, rfl, Nat.zero_le _, fun l0 hl0 => ?_⟩
          have s0 := LyC.same_new (o := .lst []) hl0
          have R4 := R3.mono s0 (Nat.le_refl n)
          refine ⟨D, l0, _, rfl, rfl, SqL.of (s0 _ _ hD3), SqL.of upd_same, _, rfl, ?_⟩
          have go : ∀ v : V, ∀ x dx, (upd H3 l0 (.lst [])) x = Option.none → (upd H3 l0 (.lst [])) dx = Option.none → dx ≠ x → _ := fun v => mk_block (K := K) (H1 := upd H3 l0 (.lst [])) (wd := "each") (at_ := at_) (rest := [.str wk, .str h, v]) (E := E0) (Q := fun q H' => spOpened K [.ref p, .ref q] H' Q E0) (by show 3 ≤ 3; decide) (fun q H5 B => by
            obtain ⟨b1, b2⟩ := B.blk R4 (e := .each wk h) rfl rfl ⟨v, rfl⟩ (by show 3 ≤ 3; decide)
            exact ⟨p, q, H0, n, A, s, .each wk h, rfl, R4.mono B.same (Nat.le_refl n), by omega, b1, b2, fun A' H' R' => k.1 _ hen _ _ R'⟩)
          match ts, hts, hD3, ca with
          | [], _, _, _ =>
            refine iteF ?_
            exact go .non
          | [t], _, hD3, ca =>
            refine iteT ?_
            have ct : isTimes t = true := by
              rw [List.all_cons, Bool.and_eq_true] at ca
              exact ca.1
            obtain ⟨i, hi, hl⟩ := times_int ct
            refine ⟨_, rfl, D, _, _, _, rfl, rfl, SqL.of (s0 _ _ hD3), atI_nat (j := 0) rfl, t, i, rfl, hi, hl, ?_⟩
            exact go (.int i)
def spAlone (K : PySem.W.Frag) : Sp := fun vs H Q _ => ∃ (p : Addr) (at_ : Int) (wd : Str) (H0 : Hp) (n : Nat) (A : Ads) (s : Rs), vs = [.ref p, .int at_, .str wd] ∧ RdAt K H0 H n p A s ∧ n < 90000 ∧ s.stack ≠ [] ∧ Fin K H0 (n + 1) p (s.alone wd) Q
theorem sc_alone : FnScope ["self", "at", "word"] ["self", "at", "word"] (defScope s_Reader_alone) := ⟨rfl, rfl, rfl, by decide +kernel, rfl, by decide +kernel, by decide +kernel⟩
theorem ok_alone (T : Hd K mg) : LyC.Me CX0 P w K mg base 3 (c_Reader K) "alone" (spAlone K) [] := by
  obtain ⟨fd, F⟩ := T.f_Reader_alone
  refine ⟨_, fd, ["self", "at", "word"], [], T.cl_Reader, T.me_Reader_alone, F.ok sc_alone (fun vs H Q E h => ?_) (fun cdv A outer s H vs Q E hr h => ?_), F.bindsN fun _ _ _ _ _ _ us hl => match us, hl with | [_, _, _], _ => rfl, .nil⟩
  · obtain ⟨p, at_, wd, H0, n, A, s, rfl, _⟩ := h
    rfl
  · obtain ⟨p, at_, wd, H0, n, A, s, rfl, R, hn, hs, k⟩ := h
    obtain ⟨fB, mkB, FB⟩ := ok_bi (P := P) (w := w) (base := base) T
    refine ⟨_, pss_cons (ps_if (pt_cmpR op_in_seq (pv 2) (pe_tup (pa_cons pe_str (pa_cons pe_str pa_nil))) rfl) (pss_one (ps_ret (LyC.pe_m (ok_turned T) hr (pv 0) (pa_cons (pv 2) pa_nil)))) pss_nil)
      (pss_cons (ps_if (pt_cmpR op_eq (pv 2) pe_str (nomark _)) (pss_one (ps_ret (LyC.pe_m (ok_opened T) hr (pv 0) (pa_cons (StX.pe_makeR mkB FB hr rfl T.g_Block pass0 (pa_cons pe_str (pa_cons (pv 1) pa_nil))) pa_nil)))) pss_nil)
      (pss_cons (ps_if (pt_cmpR op_eq (pv 2) pe_str (nomark _)) (pss_one (ps_ret (pe_and (LyC.pe_mz (ok_mayg T) hr (pv 0)) (pe_one (LyC.pe_m (ok_added T) hr (pv 0) (pa_cons (pe_tup (pa_cons pe_str (pa_cons (pv 1) pa_nil))) pa_nil)))))) pss_nil)
      (pss_one (ps_ret (pe_and (pe_cmpR op_eq (pv 2) pe_str (nomark _)) (pe_one (LyC.pe_m (ok_added T) hr (pv 0) (pa_cons (pe_tup (pa_cons pe_str (pa_cons (pv 1) pa_nil))) pa_nil)))))))), ?_⟩
    refine ⟨_, rfl, by show 2 ≤ sizeLine; decide, fun t ht => ?_⟩
    have R0 := R.mono (LyC.same_new (o := .tup [.str "late", .str "mend"]) ht) (Nat.le_refl n)
    refine ⟨t, _, rfl, .inr (SqT.of upd_same), rfl, rfl, _, rfl, ?_⟩
    rw [show (if false = true then _ else inV (V.str wd) [V.str "late", V.str "mend"]) = inV (V.str wd) ((["late", "mend"] : List Str).map V.str) from rfl, LyC.inV_strs]
    by_cases c1 : wd ∈ (["late", "mend"] : List Str)
    · rw [decide_eq_true c1]
      refine iteT ?_
      refine ⟨_, rfl, p, A.dx, _, rfl, R0.ob, r_no (by decide +kernel), _, rfl, ?_⟩
      by_cases c2 : wd = "late"
      · subst c2
        have e : s.alone "late" = s.turned .late := if_pos rfl
        rw [e] at k
        exact ⟨p, .late, "late", H0, n, A, s, rfl, rfl, rfl, fun _ => trivial, R0, hn, hs, k.weak (Nat.le_succ n)⟩
      · have c3 : wd = "mend" := by
          rcases List.mem_cons.mp c1 with c | c
          · exact absurd c c2
          · rcases List.mem_cons.mp c with c | c
            · exact c
            · cases c
        subst c3
        have e : s.alone "mend" = s.turned .mend := by
          unfold Rs.alone
          rw [if_neg c2, if_pos rfl]
        rw [e] at k
        exact ⟨p, .mend, "mend", H0, n, A, s, rfl, rfl, rfl, fun _ => trivial, R0, hn, hs, k.weak (Nat.le_succ n)⟩
    · rw [decide_eq_false c1]
      refine iteF ?_
      have n1 : ¬ wd = "late" := fun z => c1 (by rw [z]; exact List.mem_cons_self)
      have n2 : ¬ wd = "mend" := fun z => c1 (by rw [z]; exact List.mem_cons_of_mem _ List.mem_cons_self)
      have e : s.alone wd = if wd = "guard" then some (s.push .guard) else if wd = "give" then (if s.mayGive = true then some s else none) else if wd = "pause" then some s else none := by
        unfold Rs.alone
        rw [if_neg n1, if_neg n2]
      rw [e] at k
      refine ⟨_, rfl, rfl, _, rfl, ?_⟩
      rw [vstr_eq]
      by_cases c2 : wd = "guard"
      · rw [decide_eq_true c2]
        rw [if_pos c2] at k
        refine iteT ?_
        refine ⟨_, rfl, p, A.dx, _, rfl, R0.ob, r_no (by decide +kernel), _, rfl, ?_⟩
        refine mk_block (K := K) (wd := "guard") (at_ := at_) (rest := []) (E := E0) (Q := fun q H' => spOpened K [.ref p, .ref q] H' Q E0) (Nat.zero_le _) (fun q H5 B => ?_)
        obtain ⟨b1, b2⟩ := B.blk R0 (e := .guard) rfl rfl trivial (Nat.zero_le _)
        exact ⟨p, q, H0, n, A, s, .guard, rfl, R0.mono B.same (Nat.le_refl n), by omega, b1, b2, fun A' H' R' => k.1 _ rfl _ _ R'⟩
      · rw [decide_eq_false c2]
        rw [if_neg c2] at k
        refine iteF ?_
        refine ⟨_, rfl, rfl, _, rfl, ?_⟩
        rw [vstr_eq]
        by_cases c3 : wd = "give"
        · rw [decide_eq_true c3]
          rw [if_pos c3] at k
          refine iteT ?_
          refine ⟨_, rfl, p, A.dx, _, rfl, R0.ob, r_no (by decide +kernel), p, H0, n, A, s, rfl, R0, hn, hs, fun H2 s2 => ⟨_, rfl, ?_⟩⟩
          have R2 := R0.mono s2 (Nat.le_refl n)
          cases cg : s.mayGive with
          | false =>
            refine iteF ?_
            rw [cg] at k
            exact k.2 rfl _ R2.same
          | true =>
            refine iteT ?_
            rw [cg] at k
            refine ⟨_, rfl, p, A.dx, _, rfl, R2.ob, r_no (by decide +kernel), _, rfl, by show 2 ≤ sizeLine; decide, fun t2 ht2 => ?_⟩
            exact ⟨p, .ref t2, H0, n, A, s, rfl, R2.mono (LyC.same_new ht2) (Nat.le_refl n), by omega, hs, fun H' R' => k.1 _ rfl _ _ R'⟩
        · rw [decide_eq_false c3]
          rw [if_neg c3] at k
          refine iteF ?_
          refine ⟨_, rfl, rfl, _, rfl, ?_⟩
          rw [vstr_eq]
          by_cases c4 : wd = "pause"
          · rw [decide_eq_true c4]
            rw [if_pos c4] at k
            refine iteT ?_
            refine ⟨_, rfl, p, A.dx, _, rfl, R0.ob, r_no (by decide +kernel), _, rfl, by show 2 ≤ sizeLine; decide, fun t2 ht2 => ?_⟩
            exact ⟨p, .ref t2, H0, n, A, s, rfl, R0.mono (LyC.same_new ht2) (Nat.le_refl n), by omega, hs, fun H' R' => k.1 _ rfl _ _ R'⟩
          · rw [decide_eq_false c4]
            rw [if_neg c4] at k
            refine iteF ?_
            exact k.2 rfl _ R0.same
def spWithin (K : PySem.W.Frag) : Sp := fun vs H Q _ => ∃ (p a : Addr) (at_ : Int) (wd : Str) (rest : List Str) (H0 : Hp) (n : Nat) (A : Ads) (s : Rs), vs = [.ref p, .int at_, .str wd, .ref a] ∧ H a = some (.lst (rest.map V.str)) ∧ (∀ t ∈ rest, t.length < 1000000) ∧ RdAt K H0 H n p A s ∧ n < 90000 ∧ s.stack ≠ [] ∧ Fin K H0 (n + 2) p (s.within wd rest) Q
theorem sc_within : FnScope ["self", "at", "word", "rest"] ["self", "at", "word", "rest"] (defScope s_Reader_within) := ⟨rfl, rfl, rfl, by decide +kernel, rfl, by decide +kernel, by decide +kernel⟩
theorem len_one (rest : List Str) : decide (V.int ((rest.map V.str).length : Int) = V.int 1) = true → ∃ r, rest = [r] := by
  intro h
  have h1 : ((rest.map V.str).length : Int) = 1 := V.int.inj (of_decide_eq_true h)
  rw [List.length_map] at h1
  match rest with
  | [r] => exact ⟨r, rfl⟩
  | [] => exact absurd h1 (by decide)
  | _ :: _ :: _ =>
    rw [List.length_cons, List.length_cons] at h1
    omega
theorem len_23 (rest : List Str) : inV (V.int ((rest.map V.str).length : Int)) [V.int 2, V.int 3] = true → (∃ a b, rest = [a, b]) ∨ ∃ a b c, rest = [a, b, c] := by
  intro h
  rw [List.length_map] at h
  have h1 : ((2 : Int) == (rest.length : Int) || ((3 : Int) == (rest.length : Int) || false)) = true := h
  match rest with
  | [a, b] => exact .inl ⟨a, b, rfl⟩
  | [a, b, c] => exact .inr ⟨a, b, c, rfl⟩
  | [] => exact absurd h1 (by decide)
  | [_] => exact absurd h1 (show ¬ ((2 : Int) == ((1 : Nat) : Int) || ((3 : Int) == ((1 : Nat) : Int) || false)) = true by decide)
  | _ :: _ :: _ :: _ :: _ =>
    simp only [List.length_cons, Bool.or_false, Bool.or_eq_true, beq_iff_eq] at h1
    omega
theorem ok_within (T : Hd K mg) : LyC.Me CX0 P w K mg base 4 (c_Reader K) "within" (spWithin K) [] := by
  obtain ⟨fd, F⟩ := T.f_Reader_within
  refine ⟨_, fd, ["self", "at", "word", "rest"], [], T.cl_Reader, T.me_Reader_within, F.ok sc_within (fun vs H Q E h => ?_) (fun cdv A outer s H vs Q E hr h => ?_), F.bindsN fun _ _ _ _ _ _ us hl => match us, hl with | [_, _, _, _], _ => rfl, .nil⟩
  · obtain ⟨p, a, at_, wd, rest, H0, n, A, s, rfl, _⟩ := h
    rfl
  · obtain ⟨p, a, at_, wd, rest, H0, n, A, s, rfl, ha, hlen, R, hn, hs, k⟩ := h
    have hu2 := Nat.lt_of_le_of_lt (Nat.le_add_right _ 64) hr.units
    obtain ⟨fB, mkB, FB⟩ := ok_bi (P := P) (w := w) (base := base) T
    refine ⟨_, pss_cons (ps_if (pt_cmpR op_in_seq (pv 2) (LyC.pe_gR T.g_NAMED) rfl) (pss_one (ps_ret (pe_and (pe_cmpR op_eq (pe_callB call_len_seq (by rfl) T.n_len PySem.boot_len (pa_cons (pv 3) pa_nil)) pe_int (nomark _))
        (pe_and (LyC.pe_f (ok_name T) hr (pa_cons (pe_ix ix_list (pv 3) pe_int (fun _ _ => rfl)) pa_nil)) (pe_one (LyC.pe_m (ok_named T) hr (pv 0) (pa_cons (pv 2) (pa_cons (pv 1) (pa_cons (pe_ix ix_list (pv 3) pe_int (fun _ _ => rfl)) pa_nil))))))))) pss_nil)
      (pss_cons (ps_if (pt_cmpR op_eq (pv 2) pe_str (nomark _)) (pss_one (ps_ret (pe_and (pe_cmpR op_eq (pe_callB call_len_seq (by rfl) T.n_len PySem.boot_len (pa_cons (pv 3) pa_nil)) pe_int (nomark _))
        (pe_and (LyC.pe_f (ok_times T) hr (pa_cons (pe_ix ix_list (pv 3) pe_int (fun _ _ => rfl)) pa_nil)) (pe_one (LyC.pe_m (ok_opened T) hr (pv 0) (pa_cons (StX.pe_makeR mkB FB (hr.mono (by decide)) rfl T.g_Block pass0 (pa_cons pe_str (pa_cons (pv 1) (pa_cons (pe_callTy call_int_str (by rfl) T.n_int (by decide +kernel) (pa_cons (pe_ix ix_list (pv 3) pe_int (fun _ _ => rfl)) pa_nil)) pa_nil)))) pa_nil))))))) pss_nil)
      (pss_cons (ps_if (pt_cmpR op_eq (pv 2) pe_str (nomark _)) (pss_one (ps_ret (pe_and (pe_cmpR op_in_seq (pe_callB call_len_seq (by rfl) T.n_len PySem.boot_len (pa_cons (pv 3) pa_nil)) (pe_tup (pa_cons pe_int (pa_cons pe_int pa_nil))) rfl)
        (pe_one (LyC.pe_m (ok_pulled T) hr (pv 0) (pa_cons (pv 1) (pa_cons (pv 3) pa_nil))))))) pss_nil)
      (pss_one (ps_ret (pe_and (pe_cmpR (LyC.op_eqNil hu2) (pv 3) (pe_lst pa_nil) (nomark _)) (pe_one (LyC.pe_m (ok_alone T) hr (pv 0) (pa_cons (pv 1) (pa_cons (pv 2) pa_nil))))))))), ?_⟩
    refine ⟨_, rfl, _, _, rfl, .inr (T.t_NAMED H), rfl, LyC.flat_strs _, _, rfl, ?_⟩
    rw [show (if false = true then _ else inV (V.str wd) (k_NAMED.map V.str)) = inV (V.str wd) (k_NAMED.map V.str) from rfl, LyC.inV_strs]
    by_cases c1 : wd ∈ k_NAMED
    · rw [decide_eq_true c1]
      refine iteT ?_
      have e : s.within wd rest = s.w1 wd rest := if_pos c1
      rw [e] at k
      refine ⟨_, rfl, a, _, rfl, .inl (SqL.of ha), rfl, _, rfl, ite2 (fun c => ?_) (fun c => ?_)⟩
      · obtain ⟨r, rfl⟩ := len_one rest c
        refine ⟨_, rfl, a, _, _, _, rfl, rfl, SqL.of ha, atI_nat (j := 0) rfl, r, rfl, hlen r List.mem_cons_self, fun H2 s2 => ⟨_, rfl, ?_⟩⟩
        have R2 := R.mono s2 (Nat.le_refl n)
        cases cn : isName r with
        | false =>
          refine iteF ?_
          exact k.2 (by show (if isName r = true then _ else _) = _; rw [cn]; rfl) _ R2.same
        | true =>
          refine iteT ?_
          refine ⟨_, rfl, p, A.dx, _, rfl, R2.ob, r_no (by decide +kernel), _, rfl, _, rfl, _, rfl, a, _, _, _, rfl, rfl, SqL.of (s2 _ _ ha), atI_nat (j := 0) rfl, ?_⟩
          exact ⟨p, wd, r, at_, H0, n, A, s, rfl, R2, hn, hs, fun H' R' => k.1 _ (by show (if isName r = true then _ else _) = _; rw [cn]; rfl) _ _ R'⟩
      · refine k.2 ?_ _ R.same
        match rest, c with
        | [], _ => rfl
        | [_], c => exact absurd (decide_eq_true rfl) c
        | _ :: _ :: _, _ => rfl
    · rw [decide_eq_false c1]
      refine iteF ?_
      refine ⟨_, rfl, rfl, _, rfl, ?_⟩
      rw [vstr_eq]
      by_cases c2 : wd = "repeat"
      · rw [decide_eq_true c2]
        refine iteT ?_
        have e : s.within wd rest = s.w2 rest := by
          unfold Rs.within
          rw [if_neg c1, if_pos c2]
        rw [e] at k
        refine ⟨_, rfl, a, _, rfl, .inl (SqL.of ha), rfl, _, rfl, ite2 (fun c => ?_) (fun c => ?_)⟩
        · obtain ⟨r, rfl⟩ := len_one rest c
          refine ⟨_, rfl, a, _, _, _, rfl, rfl, SqL.of ha, atI_nat (j := 0) rfl, r, rfl, hlen r List.mem_cons_self, fun H2 s2 => ⟨_, rfl, ?_⟩⟩
          have R2 := R.mono s2 (Nat.le_refl n)
          cases cn : isTimes r with
          | false =>
            refine iteF ?_
            exact k.2 (by show (if isTimes r = true then _ else _) = _; rw [cn]; rfl) _ R2.same
          | true =>
            refine iteT ?_
            obtain ⟨i, hi, hl⟩ := times_int cn
            refine ⟨_, rfl, p, A.dx, _, rfl, R2.ob, r_no (by decide +kernel), _, rfl, _, rfl, a, _, _, _, rfl, rfl, SqL.of (s2 _ _ ha), atI_nat (j := 0) rfl, r, i, rfl, hi, hl, ?_⟩
            refine mk_block (K := K) (wd := "repeat") (at_ := at_) (rest := [.int i]) (E := E0) (Q := fun q H' => spOpened K [.ref p, .ref q] H' Q E0) (by show 1 ≤ 3; decide) (fun q H5 B => ?_)
            obtain ⟨b1, b2⟩ := B.blk R2 (e := .rep) rfl rfl trivial (by show 1 ≤ 3; decide)
            exact ⟨p, q, H0, n, A, s, .rep, rfl, R2.mono B.same (Nat.le_refl n), by omega, b1, b2, fun A' H' R' => k.1 _ (by show (if isTimes r = true then _ else _) = _; rw [cn]; rfl) _ _ (R'.mono (Same.refl _) (Nat.le_succ _))⟩
        · refine k.2 ?_ _ R.same
          match rest, c with
          | [], _ => rfl
          | [_], c => exact absurd (decide_eq_true rfl) c
          | _ :: _ :: _, _ => rfl
      · rw [decide_eq_false c2]
        refine iteF ?_
        refine ⟨_, rfl, rfl, _, rfl, ?_⟩
        rw [vstr_eq]
        by_cases c3 : wd = "each"
        · rw [decide_eq_true c3]
          refine iteT ?_
          have e : s.within wd rest = s.w3 rest := by
            unfold Rs.within
            rw [if_neg c1, if_neg c2, if_pos c3]
          rw [e] at k
          refine ⟨_, rfl, a, _, rfl, .inl (SqL.of ha), by show 2 ≤ sizeLine; decide, fun t ht => ?_⟩
          have st := LyC.same_new (o := .tup [V.int 2, V.int 3]) ht
          have R2 := R.mono st (Nat.le_refl n)
          refine ⟨t, _, rfl, .inr (SqT.of upd_same), rfl, rfl, _, rfl, ite2 (fun c => ?_) (fun c => ?_)⟩
          · refine ⟨_, rfl, p, A.dx, _, rfl, R2.ob, r_no (by decide +kernel), _, rfl, _, rfl, ?_⟩
            rcases len_23 rest c with ⟨wk, h, rfl⟩ | ⟨wk, h, tm, rfl⟩
            · exact ⟨p, a, at_, wk, h, [], H0, n, A, s, rfl, st _ _ ha, Nat.zero_le _, (fun _ z => nomatch z), R2, hn, hs, k.weak (Nat.le_succ _)⟩
            · exact ⟨p, a, at_, wk, h, [tm], H0, n, A, s, rfl, st _ _ ha, Nat.le_refl _, (fun z hz => hlen z (List.mem_cons_of_mem _ (List.mem_cons_of_mem _ hz))), R2, hn, hs, k.weak (Nat.le_succ _)⟩
          · refine k.2 ?_ _ R2.same
            match rest, c with
            | [], _ => rfl
            | [_], _ => rfl
            | [_, _], c => exact absurd rfl c
            | [_, _, _], c => exact absurd rfl c
            | _ :: _ :: _ :: _ :: _, _ => rfl
        · rw [decide_eq_false c3]
          refine iteF ?_
          have e : s.within wd rest = (if rest = [] then s.alone wd else none) := by
            unfold Rs.within
            rw [if_neg c1, if_neg c2, if_neg c3]
          rw [e] at k
          refine ⟨_, rfl, Nat.zero_le _, fun l0 hl0 => ?_⟩
          have s0 := LyC.same_new (o := .lst []) hl0
          have R2 := R.mono s0 (Nat.le_refl n)
          refine ⟨a, l0, _, rfl, rfl, SqL.of (s0 _ _ ha), SqL.of upd_same, _, rfl, ?_⟩
          cases rest with
          | nil =>
            refine iteT ?_
            rw [if_pos rfl] at k
            exact ⟨_, rfl, p, A.dx, _, rfl, R2.ob, r_no (by decide +kernel), _, rfl, _, rfl, p, at_, wd, H0, n, A, s, rfl, R2, hn, hs, k.weak (Nat.le_succ _)⟩
          | cons r rest =>
            refine iteF ?_
            rw [if_neg (List.cons_ne_nil _ _)] at k
            exact k.2 rfl _ R2.same
def spTake (K : PySem.W.Frag) : Sp := fun vs H Q _ => ∃ (p a : Addr) (at_ : Int) (wd : Str) (rest : List Str) (H0 : Hp) (n : Nat) (A : Ads) (s : Rs), vs = [.ref p, .int at_, .ref a] ∧ H a = some (.lst ((wd :: rest).map V.str)) ∧ (∀ t ∈ rest, t.length < 1000000) ∧ RdAt K H0 H n p A s ∧ n < 90000 ∧ s.top ∧ Fin K H0 (n + 2) p (s.take wd rest) Q
theorem sc_take : FnScope ["self", "at", "parts", "word", "rest"] ["self", "at", "parts"] (defScope s_Reader_take) := ⟨rfl, rfl, rfl, by decide +kernel, rfl, by decide +kernel, by decide +kernel⟩
theorem ok_take (T : Hd K mg) : LyC.Me CX0 P w K mg base 5 (c_Reader K) "take" (spTake K) [] := by
  obtain ⟨fd, F⟩ := T.f_Reader_take
  refine ⟨_, fd, ["self", "at", "parts"], [], T.cl_Reader, T.me_Reader_take, F.ok sc_take (fun vs H Q E h => ?_) (fun cdv A outer s H vs Q E hr h => ?_), F.bindsN fun _ _ _ _ _ _ us hl => match us, hl with | [_, _, _], _ => rfl, .nil⟩
  · obtain ⟨p, a, at_, wd, rest, H0, n, A, s, rfl, _⟩ := h
    rfl
  · obtain ⟨p, a, at_, wd, rest, H0, n, A, s, rfl, ha, hlen, R, hn, htop, k⟩ := h
    have hu2 := Nat.lt_of_le_of_lt (Nat.le_add_right _ 64) hr.units
    refine ⟨_, pss_cons (ps_asg (pv 2) (LyR.pg_star (i := 1) rfl (pgs_cons (pg_name (i := 3) sc_take.nd rfl (Or.inl rfl)) (LyR.pgs_star (pg_name (i := 4) sc_take.nd rfl (Or.inl rfl)) pgs_nil))))
      (pss_cons (ps_if (pt_cmpR op_in_seq (pv 3) (pe_tup (pa_cons pe_str (pa_cons pe_str pa_nil))) rfl) (pss_one (ps_ret (pe_and (pe_cmpR op_eq (pe_callB call_len_seq (by rfl) T.n_len PySem.boot_len (pa_cons (pv 4) pa_nil)) pe_int (nomark _))
        (pe_one (LyC.pe_m (ok_defn T) hr (pv 0) (pa_cons (pv 3) (pa_cons (pv 1) (pa_cons (pe_ix ix_list (pv 4) pe_int (fun _ _ => rfl)) pa_nil)))))))) pss_nil)
      (pss_cons (ps_if (pt_cmpR op_eq (pv 3) pe_str (nomark _)) (pss_one (ps_ret (pe_and (pe_cmpR (LyC.op_eqNil hu2) (pv 4) (pe_lst pa_nil) (nomark _)) (pe_one (LyC.pe_mz (ok_ended T) hr (pv 0)))))) pss_nil)
      (pss_one (ps_ret (pe_and (pe_cmpR (LyC.op_neNil hu2) (pe_fld (pv 0) rfl) (pe_lst pa_nil) (nomark _)) (pe_one (LyC.pe_m (ok_within T) hr (pv 0) (pa_cons (pv 1) (pa_cons (pv 3) (pa_cons (pv 4) pa_nil)))))))))), ?_⟩
    refine ⟨_, rfl, a, _, rfl, SqL.of ha, (by rw [List.length_map, List.length_cons]; omega), fun D hD => ?_⟩
    refine ⟨_, _, rfl, _, _, rfl, rfl, ?_⟩
    have sD := LyC.same_new (o := .lst (rest.map V.str)) hD
    have R1 := R.mono sD (Nat.le_refl n)
    have hDD : (upd H D (.lst (rest.map V.str))) D = some (.lst (rest.map V.str)) := upd_same
    refine ⟨_, rfl, by show 2 ≤ sizeLine; decide, fun t ht => ?_⟩
    have st := LyC.same_new (o := .tup [V.str "walk", V.str "job"]) ht
    have R2 := R1.mono st (Nat.le_refl n)
    have hD2 := st _ _ hDD
    refine ⟨t, _, rfl, .inr (SqT.of upd_same), rfl, rfl, _, rfl, ?_⟩
    rw [show (if false = true then _ else inV (V.str wd) [V.str "walk", V.str "job"]) = inV (V.str wd) ((["walk", "job"] : List Str).map V.str) from rfl, LyC.inV_strs]
    by_cases c1 : wd ∈ (["walk", "job"] : List Str)
    · rw [decide_eq_true c1]
      refine iteT ?_
      have e : s.take wd rest = s.w0 wd rest := if_pos c1
      rw [e] at k
      refine ⟨_, rfl, D, _, rfl, .inl (SqL.of hD2), rfl, _, rfl, ite2 (fun c => ?_) (fun c => ?_)⟩
      · obtain ⟨r, rfl⟩ := len_one rest c
        refine ⟨_, rfl, p, A.dx, _, rfl, R2.ob, r_no (by decide +kernel), _, rfl, _, rfl, _, rfl, D, _, _, _, rfl, rfl, SqL.of hD2, atI_nat (j := 0) rfl, ?_⟩
        have cw : wd = "walk" ∨ wd = "job" := by
          rcases List.mem_cons.mp c1 with c | c
          · exact .inl c
          · rcases List.mem_cons.mp c with c | c
            · exact .inr c
            · cases c
        exact ⟨p, wd, r, at_, H0, n, A, s, rfl, cw, hlen r List.mem_cons_self, R2, hn, k.weak (Nat.le_succ _)⟩
      · refine k.2 ?_ _ R2.same
        match rest, c with
        | [], _ => rfl
        | [_], c => exact absurd (decide_eq_true rfl) c
        | _ :: _ :: _, _ => rfl
    · rw [decide_eq_false c1]
      refine iteF ?_
      refine ⟨_, rfl, rfl, _, rfl, ?_⟩
      rw [vstr_eq]
      by_cases c2 : wd = "end"
      · rw [decide_eq_true c2]
        refine iteT ?_
        have e : s.take wd rest = (if rest = [] then s.ended else none) := by
          unfold Rs.take
          rw [if_neg c1, if_pos c2]
        rw [e] at k
        refine ⟨_, rfl, Nat.zero_le _, fun l0 hl0 => ?_⟩
        have s0 := LyC.same_new (o := .lst []) hl0
        have R3 := R2.mono s0 (Nat.le_refl n)
        refine ⟨D, l0, _, rfl, rfl, SqL.of (s0 _ _ hD2), SqL.of upd_same, _, rfl, ?_⟩
        cases rest with
        | nil =>
          refine iteT ?_
          rw [if_pos rfl] at k
          exact ⟨_, rfl, p, A.dx, _, rfl, R3.ob, r_no (by decide +kernel), p, H0, n, A, s, rfl, R3, hn, htop, k.weak (Nat.le_succ _)⟩
        | cons r rest =>
          refine iteF ?_
          rw [if_neg (List.cons_ne_nil _ _)] at k
          exact k.2 rfl _ R3.same
      · rw [decide_eq_false c2]
        refine iteF ?_
        have e : s.take wd rest = (if s.stack = [] then none else s.within wd rest) := by
          unfold Rs.take
          rw [if_neg c1, if_neg c2]
        rw [e] at k
        refine ⟨_, rfl, p, _, A.dx, _, _, rfl, R2.ob, T.cl_Reader, T.na_Reader_blocks, r_blocks, Nat.zero_le _, fun l0 hl0 => ?_⟩
        have s0 := LyC.same_new (o := .lst []) hl0
        have R3 := R2.mono s0 (Nat.le_refl n)
        refine ⟨A.lb, l0, _, rfl, rfl, SqL.of R3.bl, SqL.of upd_same, _, rfl, ?_⟩
        rw [isEmpty_map]
        have hq := R.blk.length
        by_cases c3 : s.stack = []
        · rw [if_pos c3] at k
          have hq2 : A.qs = [] := by
            rw [c3] at hq
            exact List.eq_nil_of_length_eq_zero hq
          rw [hq2]
          refine iteF ?_
          exact k.2 rfl _ R3.same
        · rw [if_neg c3] at k
          have he : A.qs.isEmpty = false := by
            cases z : A.qs with
            | nil =>
              rw [z] at hq
              exact absurd (List.eq_nil_of_length_eq_zero hq.symm) c3
            | cons _ _ => rfl
          rw [he]
          refine iteT ?_
          exact ⟨_, rfl, p, A.dx, _, rfl, R3.ob, r_no (by decide +kernel), _, rfl, _, rfl, _, rfl, p, D, at_, wd, rest, H0, n, A, s, rfl, s0 _ _ hD2, hlen, R3, hn, c3, k⟩
end

end Ly
namespace Ly
open PySem PySem.Spec PyProof.Rows L2
/-! ### read_rows, look_at_names, look_at_size -/
theorem split_piece {x y z : Str} (h : z ∈ Txt.split x y) : z.length ≤ x.length := by
  unfold Txt.split at h
  split at h
  · rw [List.mem_singleton] at h
    rw [h]
    exact Nat.le_refl _
  · split at h
    · rw [List.mem_singleton] at h
      rw [h]
      exact Nat.le_refl _
    · unfold Builtin.Str.partsBetween at h
      obtain ⟨ij, _, rfl⟩ := List.mem_map.mp h
      exact le_strSub x ij.1 ij.2
def Rs.step (s : Rs) : List Str → Option Rs
  | [] => none
  | wd :: rest => s.take wd rest
def runR : Rs → Nat → List (List Str) → Sum Nat Rs
  | s, _, [] => .inr s
  | s, i, p :: ps => match s.step p with
    | none => .inl i
    | some s' => runR s' (i + 1) ps
theorem runR_some {s s' : Rs} {i : Nat} {p : List Str} {ps : List (List Str)} (h : s.step p = some s') : runR s i (p :: ps) = runR s' (i + 1) ps := by
  rw [runR, h]
theorem runR_none {s : Rs} {i : Nat} {p : List Str} {ps : List (List Str)} (h : s.step p = none) : runR s i (p :: ps) = .inl i := by
  rw [runR, h]
def partsOf (z : Str) : List (List Str) := (Txt.split z "\n").map fun r => Txt.split r " "
theorem top_init : Rs.init.top := fun e h => nomatch h
theorem top_push {s : Rs} (h : s.stack ≠ []) (t : s.top) (e : En) : (s.push e).top := by
  intro e' h'
  refine t e' ?_
  unfold Rs.push at h'
  cases hs : s.stack with
  | nil => exact absurd hs h
  | cons a as =>
    rw [hs] at h'
    exact h'
theorem top_take {s s' : Rs} (t : s.top) {wd : Str} {rest : List Str} (h : s.take wd rest = some s') : s'.top := by
  unfold Rs.take at h
  split at h
  · -- a definition
    unfold Rs.w0 at h
    split at h
    · unfold Rs.defn at h
      split at h
      · cases h
        intro e he
        cases he
        split
        · exact .inl ⟨_, rfl⟩
        · exact .inr ⟨_, rfl⟩
      · cases h
    · cases h
  · split at h
    · split at h
      · unfold Rs.ended at h
        split at h
        · cases h
        · cases h
        · split at h
          · split at h
            · cases h
              exact fun e he => nomatch he
            · cases h
              exact fun e he => nomatch he
            · cases h
          · rename_i hd
            cases h
            intro e he
            refine t e ?_
            have he2 : s.stack.dropLast.head? = some e := he
            cases hs : s.stack with
            | nil =>
              rw [hs] at he2
              cases he2
            | cons a as =>
              rw [hs] at he2
              cases as with
              | nil => cases he2
              | cons b bs => exact he2
      · cases h
    · split at h
      · cases h
      · rename_i hs
        unfold Rs.within at h
        split at h
        · unfold Rs.w1 at h
          split at h
          · split at h
            · cases h
              exact t
            · cases h
          · cases h
        · split at h
          · unfold Rs.w2 at h
            split at h
            · split at h
              · cases h
                exact top_push hs t _
              · cases h
            · cases h
          · split at h
            · unfold Rs.w3 at h
              split at h
              · unfold Rs.pulled at h
                split at h
                · cases h
                  exact top_push hs t _
                · cases h
              · unfold Rs.pulled at h
                split at h
                · cases h
                  exact top_push hs t _
                · cases h
              · cases h
            · split at h
              · have tn : ∀ {e : En} {s' : Rs}, s.turned e = some s' → s'.top := by
                  intro e s' h
                  unfold Rs.turned at h
                  split at h
                  · rename_i hg
                    cases h
                    intro e' he
                    cases hs2 : s.stack with
                    | nil => exact absurd hs2 hs
                    | cons a as =>
                      cases as with
                      | nil =>
                        rw [hs2] at hg
                        cases hg
                        rcases t .guard (by rw [hs2]; rfl) with ⟨_, z⟩ | ⟨_, z⟩ <;> cases z
                      | cons b bs =>
                        refine t e' ?_
                        have he2 : (s.stack.dropLast ++ [e]).head? = some e' := he
                        rw [hs2] at he2
                        rw [hs2]
                        exact he2
                  · cases h
                unfold Rs.alone at h
                split at h
                · exact tn h
                · split at h
                  · exact tn h
                  · split at h
                    · cases h
                      exact top_push hs t _
                    · split at h
                      · split at h
                        · cases h
                          exact t
                        · cases h
                      · split at h
                        · cases h
                          exact t
                        · cases h
              · cases h
theorem top_step {s s' : Rs} (t : s.top) {p : List Str} (h : s.step p = some s') : s'.top := by
  cases p with
  | nil => cases h
  | cons a b => exact top_take t h
section
variable {K : PySem.W.Frag} {H0 H0' H : Hp} {lb lg : Addr} {n : Nat} {p q : Addr} {A : Ads} {s : Rs} {e : En}
theorem RdAt.less (R : RdAt K H0' H n p A s) (sm : Same H0 H0') : RdAt K H0 H n p A s :=
  { R with
    same := sm.trans R.same
    blk := Paired.mapP R.blk fun q e b => by
      obtain ⟨dx, f, r, l, a, xs, ys, zs, h1, h2, h3, h4, h5, h6, h7, h8, h9, h10, h11, h12, h13, h14⟩ := b.ex
      exact ⟨⟨dx, f, r, l, a, xs, ys, zs, h1, h2, h3, h4, h5, h6, h7, h8, h9, h10, h11, h12, same_none sm h13, same_none sm h14⟩, same_none sm b.fr⟩
    f0 := same_none sm R.f0
    f2 := same_none sm R.f2
    f3 := same_none sm R.f3
    f4 := same_none sm R.f4
    f5 := same_none sm R.f5
    f6 := same_none sm R.f6 }
end
section
variable {P : Program} {w : World} {K : PySem.W.Frag} {mg : Str → Option Value} {base : Heap}
/-- what an error of our own leaves behind -/
def Raised (E : XK) (C : Addr) (H : Hp) (f : Str) (v : V) : Prop := ∀ d H', Same H H' → H' d = some (.xd [(f, v)]) → E (.ref C) (some d) H'
theorem raised_go {E : XK} {C : Addr} {H H1 : Hp} {f : Str} {v : V} (k : Raised E C H f v) (sm : Same H H1) : ∀ d, H1 d = none → E (.ref C) (some d) (upd H1 d (.xd [(f, v)])) := fun d hd => k d _ (sm.trans (LyC.same_new hd)) upd_same
def spRows (K : PySem.W.Frag) : Sp := fun vs H Q E => ∃ z : Str, vs = [.str z] ∧ z.length < 40000 ∧
  (∀ i, runR Rs.init 0 (partsOf z) = .inl i → Raised E (c_BadRow K) H "at" (.int (i : Nat))) ∧
  (∀ s, runR Rs.init 0 (partsOf z) = .inr s → s.stack ≠ [] → Raised E (c_BadRow K) H "at" (.int ((partsOf z).length : Nat))) ∧
  (∀ s, runR Rs.init 0 (partsOf z) = .inr s → s.stack = [] → ∀ p A H', RdAt K H H' (2 * (partsOf z).length) p A s → Q (.ref p) H')
theorem sc_rows : FnScope ["text", "reader", "rows", "at", "row"] ["text"] (defScope s_read_rows) := ⟨rfl, rfl, rfl, by decide +kernel, rfl, by decide +kernel, by decide +kernel⟩
theorem ok_rows (T : Hd K mg) : LyC.Cl (L2.CX P w) P w K mg base 6 "read_rows" (spRows K) [] := by
  obtain ⟨fd, F⟩ := T.f_read_rows
  refine ⟨_, fd, ["text"], [], F.ok sc_rows (fun vs H Q E h => ?_) (fun cdv A outer s H vs Q E hr h => ?_), T.g_read_rows, F.kp, F.bindsN fun _ _ _ _ _ _ us hl => match us, hl with | [_], _ => rfl, .nil⟩
  · obtain ⟨z, rfl, _⟩ := h
    rfl
  · obtain ⟨z, rfl, hz, k1, k2, k3⟩ := h
    have hu2 := Nat.lt_of_le_of_lt (Nat.le_add_right _ 64) hr.units
    refine ⟨_, pss_cons (ps_set (i := 1) sc_rows.nd rfl (Or.inl rfl) (LyC.pe_kz (ok_ri T) hr))
      (pss_cons (ps_set (i := 2) sc_rows.nd rfl (Or.inl rfl) (pe_split (pv 0) pe_str))
      (pss_cons (ps_for (passes_of rfl) rfl (pi_enum (by rfl) T.n_enumerate (pa_cons (pv 2) pa_nil)) (pg_tup (n := 2) rfl (pgs_cons (pg_name (i := 3) sc_rows.nd rfl (Or.inl rfl)) (pgs_cons (pg_name (i := 4) sc_rows.nd rfl (Or.inl rfl)) pgs_nil)))
        (pss_one (ps_if (pt_not (pt_val (LyC.pe_m (ok_take T) hr (pv 1) (pa_cons (pv 3) (pa_cons (pe_split (pv 4) pe_str) pa_nil))))) (pss_one (LyC.ps_rz (ok_x_BadRow T) hr (takes_of rfl rfl rfl rfl) (pa_cons (pv 3) pa_nil))) pss_nil)))
      (pss_cons (ps_if (pt_cmpR (LyC.op_neNil hu2) (pe_fld (pv 1) rfl) (pe_lst pa_nil) (nomark _)) (pss_one (LyC.ps_rz (ok_x_BadRow T) hr (takes_of rfl rfl rfl rfl) (pa_cons (pe_callB call_len_seq (by rfl) T.n_len PySem.boot_len (pa_cons (pv 2) pa_nil)) pa_nil))) pss_nil)
      (pss_one (ps_ret (pv 1)))))), ?_⟩
    have hz2 : z.length + 2 ≤ sizeLine := by
      rw [sizeLine_eq]
      omega
    have hrows : (Txt.split z "\n").length ≤ z.length + 2 := PyProof.Rows.split_le z _
    have hpl : (partsOf z).length = (Txt.split z "\n").length := List.length_map _
    intro x dx nx ndx nex
    refine ⟨x, dx, H, rfl, upd_same, LyC.Same.upd (LyC.same_new ndx) nx, nx, fun A1 H1 R1 => ⟨rfl, ?_⟩⟩
    refine ⟨_, rfl, ⟨_, rfl⟩, z, _, rfl, rfl, (by decide +kernel), hz2, fun a ha => ?_⟩
    have R2 := R1.beside (o := .lst ((Txt.split z "\n").map V.str)) ha
    have sm0 : Same H (upd H a (.lst ((Txt.split z "\n").map V.str))) := LyC.same_new (same_none R1.same ha)
    have hrow : (upd H a (.lst ((Txt.split z "\n").map V.str))) a = some (.lst ((Txt.split z "\n").map V.str)) := upd_same
    refine ⟨_, rfl, a, _, rfl, SqL.of upd_same, ?_⟩
    refine for_it (walk_enum (xs := (Txt.split z "\n").map V.str)) (fun i σ Hc => ∃ v1 v2 A s, σ = [some (.str z), some (.ref x), some (.ref a), v1, v2] ∧ s.top ∧ runR s i ((partsOf z).drop i) = runR Rs.init 0 (partsOf z) ∧ RdAt K (upd H a (.lst ((Txt.split z "\n").map V.str))) Hc (2 * i) x A s)
      ⟨none, none, A1, Rs.init, rfl, top_init, rfl, R2⟩ (fun i σ Hc _ hp => ?_) ?_ ?_
    · obtain ⟨v1, v2, A, s, rfl, tp, er, R⟩ := hp
      exact SqL.of (R.same _ _ hrow)
    · rintro i v σ Hc Hc' hi ⟨v1, v2, A, s, rfl, tp, er, R⟩ ⟨Tt, xi, row, rfl, hT, rfl, e1, e2⟩
      cases e1
      rw [List.length_map] at hi
      have e2' : ((Txt.split z "\n").map V.str)[i]? = some row := e2
      rw [List.getElem?_map] at e2'
      cases hr2 : (Txt.split z "\n")[i]? with
      | none =>
        rw [hr2] at e2'
        cases e2'
      | some r =>
        rw [hr2] at e2'
        cases e2'
        have hrl : r.length ≤ z.length := split_piece (List.mem_of_getElem? hr2)
        have sT := LyC.same_new (o := .tup [V.int (i : Nat), V.str r]) hT
        have R3 := R.mono sT (Nat.le_refl _)
        refine ⟨Tt, _, rfl, SqT.of upd_same, rfl, _, _, rfl, _, _, rfl, rfl, ?_⟩
        refine ⟨_, rfl, x, A.dx, _, rfl, R3.ob, r_no (by decide +kernel), _, rfl, _, rfl, ⟨_, rfl⟩, r, _, rfl, rfl, (by decide +kernel), (by rw [sizeLine_eq]; omega), fun b hb => ?_⟩
        have hpos := PyProof.Rows.split_pos r " "
        have hpi : (partsOf z)[i]? = some (Txt.split r " ") := by
          unfold partsOf
          rw [List.getElem?_map, hr2]
          rfl
        have hdrop : (partsOf z).drop i = Txt.split r " " :: (partsOf z).drop (i + 1) := by
          obtain ⟨h1, h2⟩ := List.getElem?_eq_some_iff.mp hpi
          rw [← h2]
          exact List.drop_eq_getElem_cons h1
        have sb := LyC.same_new (o := .lst ((Txt.split r " ").map V.str)) hb
        have R4 := R3.mono sb (Nat.le_refl _)
        cases hw : Txt.split r " " with
        | nil =>
          rw [hw] at hpos
          exact absurd hpos (by decide)
        | cons wd rest =>
          rw [hdrop, hw] at er
          rw [hw] at R4
          have est : s.step (wd :: rest) = s.take wd rest := rfl
          refine ⟨x, b, _, wd, rest, _, 2 * i, A, s, rfl, upd_same, (fun t ht => ?_), R4, by omega, tp, fun s' es A' H' R' => ?_, fun es H' sm' => ?_⟩
          · have := split_piece (x := r) (y := " ") (z := t) (by rw [hw]; exact List.mem_cons_of_mem _ ht)
            omega
          · refine ⟨true, rfl, iteF ?_⟩
            refine ⟨_, _, A', s', rfl, top_take tp es, ?_, R'.mono (Same.refl _) (by omega)⟩
            rw [← er]
            exact (runR_some (est.trans es)).symm
          · refine ⟨false, rfl, iteT ?_⟩
            have er2 : runR Rs.init 0 (partsOf z) = .inl i := by
              rw [← er]
              exact runR_none (est.trans es)
            exact ⟨_, rfl, LyC.mkx_go rfl (raised_go (k1 i er2) (sm0.trans sm'))⟩
    · rintro σ Hc ⟨v1, v2, A, s, rfl, tp, er, R⟩
      rw [List.length_map] at er R
      rw [← hpl, List.drop_length] at er
      have er2 : runR Rs.init 0 (partsOf z) = .inr s := er.symm
      refine ⟨_, rfl, x, _, A.dx, _, _, rfl, R.ob, T.cl_Reader, T.na_Reader_blocks, r_blocks, Nat.zero_le _, fun l0 hl0 => ?_⟩
      have s0 := LyC.same_new (o := .lst []) hl0
      have R3 := R.mono s0 (Nat.le_refl _)
      refine ⟨A.lb, l0, _, rfl, rfl, SqL.of R3.bl, SqL.of upd_same, _, rfl, ?_⟩
      rw [isEmpty_map]
      have hq := R.blk.length
      by_cases c3 : s.stack = []
      · have hq2 : A.qs = [] := by
          rw [c3] at hq
          exact List.eq_nil_of_length_eq_zero hq
        rw [hq2]
        refine iteF ?_
        refine ⟨_, rfl, k3 s er2 c3 x A _ ?_⟩
        rw [hpl]
        exact R3.less sm0
      · have he : A.qs.isEmpty = false := by
          cases zq : A.qs with
          | nil =>
            rw [zq] at hq
            exact absurd (List.eq_nil_of_length_eq_zero hq.symm) c3
          | cons _ _ => rfl
        rw [he]
        refine iteT ?_
        have k4 := k2 s er2 c3
        rw [hpl] at k4
        refine ⟨_, rfl, a, _, rfl, .inl (SqL.of (R3.same _ _ hrow)), LyC.mkx_go rfl ?_⟩
        rw [List.length_map]
        exact raised_go k4 (sm0.trans R3.same)
end

end Ly
namespace Ly
open PySem PySem.Spec PyProof.Rows L2
/-! ### look_at_names, look_at_size -/
def namesOf (s : Rs) : List Str := "main" :: s.begun
def lacking (s : Rs) : Option Str := (namesOf s).find? fun n => !decide (n ∈ s.jobs)
def sizesOf (s : Rs) (many : Int) : List (Str × Int × Int) := [("rows", many, 100), ("jobs", (s.jobs.length : Nat), 6), ("walks", (s.walks.length : Nat), 6), ("deep", s.deep, 6)]
def tooMany (s : Rs) (many : Int) : Option (Str × Int × Int) := (sizesOf s many).find? fun z => decide (z.2.1 > z.2.2)
section
variable {P : Program} {w : World} {K : PySem.W.Frag} {mg : Str → Option Value} {base : Heap}
def spNames (K : PySem.W.Frag) : Sp := fun vs H Q E => ∃ (p : Addr) (H0 : Hp) (n : Nat) (A : Ads) (s : Rs), vs = [.ref p] ∧ RdAt K H0 H n p A s ∧ n < 90000 ∧
  (∀ nm, lacking s = some nm → Raised E (c_Unknown K) H "name" (.str nm)) ∧ (lacking s = none → ∀ H', Same H H' → Q .non H')
theorem sc_names : FnScope ["reader", "name"] ["reader"] (defScope s_look_at_names) := ⟨rfl, rfl, rfl, by decide +kernel, rfl, by decide +kernel, by decide +kernel⟩
theorem ok_names (T : Hd K mg) : LyC.Cl (L2.CX P w) P w K mg base 5 "look_at_names" (spNames K) [] := by
  obtain ⟨fd, F⟩ := T.f_look_at_names
  refine ⟨_, fd, ["reader"], [], F.ok sc_names (fun vs H Q E h => ?_) (fun cdv A outer s H vs Q E hr h => ?_), T.g_look_at_names, F.kp, F.bindsN fun _ _ _ _ _ _ us hl => match us, hl with | [_], _ => rfl, .nil⟩
  · obtain ⟨p, H0, n, A, s, rfl, _⟩ := h
    rfl
  · obtain ⟨p, H0, n, A, s, rfl, R, hn, k1, k2⟩ := h
    refine ⟨_, pss_one (ps_for (passes_of rfl) rfl (pi_tup (pe_tup (pa_cons pe_str (StX.pa_star (pe_fld (pv 0) rfl) pa_nil)))) (pg_name (i := 1) sc_names.nd rfl (Or.inl rfl))
      (pss_one (ps_if (pt_cmp (pc_dnotin (hu_of hr) (pv 1) (pe_dget (hu_of hr) (pe_fld (pv 0) rfl) pe_str (fun _ _ => rfl)))) (pss_one (LyC.ps_rz (ok_x_Unknown T) hr (takes_of rfl rfl rfl rfl) (pa_cons (pv 1) pa_nil))) pss_nil))), ?_⟩
    have hb := R.z2
    refine ⟨_, rfl, p, _, A.dx, _, _, rfl, R.ob, T.cl_Reader, T.na_Reader_begun, r_begun, A.lg, _, rfl, .inr (SqL.of R.bg), ?_, fun t ht => ?_⟩
    · show (V.str "main" :: (s.begun.map V.str ++ [])).length ≤ _
      rw [List.append_nil, List.length_cons, List.length_map, sizeLine_eq]
      omega
    have et : (V.str "main" :: (s.begun.map V.str ++ [])) = (namesOf s).map V.str := by
      rw [List.append_nil]
      rfl
    rw [et]
    have st := LyC.same_new (o := .tup ((namesOf s).map V.str)) ht
    refine ⟨t, rfl, ⟨_, SqT.of upd_same⟩, ?_⟩
    refine for_it (walk_tup (xs := (namesOf s).map V.str)) (fun i σ Hc => ∃ v, σ = [some (.ref p), v] ∧ Same (upd H t (.tup ((namesOf s).map V.str))) Hc ∧ ((namesOf s).drop i).find? (fun n => !decide (n ∈ s.jobs)) = lacking s)
      ⟨none, rfl, Same.refl _, rfl⟩ (fun i σ Hc _ hp => ?_) ?_ ?_
    · obtain ⟨v, rfl, sm, _⟩ := hp
      exact SqT.of (sm _ _ upd_same)
    · rintro i v σ Hc Hc' hi ⟨v0, rfl, sm, er⟩ ⟨rfl, e2⟩
      rw [List.getElem?_map] at e2
      cases hr2 : (namesOf s)[i]? with
      | none =>
        rw [hr2] at e2
        cases e2
      | some nm =>
        rw [hr2] at e2
        cases e2
        have R3 := R.mono (st.trans sm) (Nat.le_refl _)
        obtain ⟨d, kv, g1, g2, g3⟩ := R3.toldAt (wd := "job") (.inr rfl)
        have em := valV_mem g3 nm
        have etd : s.told "job" = s.jobs := if_neg (by decide +kernel)
        rw [etd] at em
        have hdrop : (namesOf s).drop i = nm :: (namesOf s).drop (i + 1) := by
          obtain ⟨h1, h2⟩ := List.getElem?_eq_some_iff.mp hr2
          rw [← h2]
          exact List.drop_eq_getElem_cons h1
        rw [hdrop, List.find?_cons] at er
        refine ⟨_, rfl, _, rfl, p, _, A.dx, _, _, rfl, R3.ob, T.cl_Reader, T.na_Reader_told, r_told, A.dt, _, rfl, g1, d, _, rfl, DGet.k (k := Sum.inr nm) g2, _, rfl, ?_⟩
        rw [em]
        by_cases c : nm ∈ s.jobs
        · rw [decide_eq_true c]
          rw [decide_eq_true c] at er
          refine iteF ?_
          exact ⟨_, rfl, sm, er⟩
        · rw [decide_eq_false c]
          rw [decide_eq_false c] at er
          refine iteT ?_
          exact ⟨_, rfl, LyC.mkx_go rfl (raised_go (k1 nm er.symm) (st.trans sm))⟩
    · rintro σ Hc ⟨v, rfl, sm, er⟩
      rw [List.length_map, List.drop_length] at er
      exact k2 er.symm _ (st.trans sm)
def spSize (K : PySem.W.Frag) : Sp := fun vs H Q E => ∃ (p : Addr) (many : Int) (H0 : Hp) (n : Nat) (A : Ads) (s : Rs), vs = [.ref p, .int many] ∧ RdAt K H0 H n p A s ∧ n < 90000 ∧
  (∀ z, tooMany s many = some z → Raised E (c_TooMany K) H "word" (.str z.1)) ∧ (tooMany s many = none → ∀ H', Same H H' → Q .non H')
theorem sc_size : FnScope ["reader", "many", "sizes", "word", "size", "most"] ["reader", "many"] (defScope s_look_at_size) := ⟨rfl, rfl, rfl, by decide +kernel, rfl, by decide +kernel, by decide +kernel⟩
theorem merge4 {a b c d : V} : mergeK [] [((Sum.inr "rows" : Key), a), (Sum.inr "jobs", b), (Sum.inr "walks", c), (Sum.inr "deep", d)] = [((Sum.inr "rows" : Key), a), (Sum.inr "jobs", b), (Sum.inr "walks", c), (Sum.inr "deep", d)] := by kernel_rfl
theorem ok_size (T : Hd K mg) : LyC.Cl (L2.CX P w) P w K mg base 5 "look_at_size" (spSize K) [] := by
  obtain ⟨fd, F⟩ := T.f_look_at_size
  refine ⟨_, fd, ["reader", "many"], [], F.ok sc_size (fun vs H Q E h => ?_) (fun cdv A outer s H vs Q E hr h => ?_), T.g_look_at_size, F.kp, F.bindsN fun _ _ _ _ _ _ us hl => match us, hl with | [_, _], _ => rfl, .nil⟩
  · obtain ⟨p, many, H0, n, A, s, rfl, _⟩ := h
    rfl
  · obtain ⟨p, many, H0, n, A, s, rfl, R, hn, k1, k2⟩ := h
    refine ⟨_, pss_cons (ps_set (i := 2) sc_size.nd rfl (Or.inl rfl) (pe_disp
        (pps_cons pe_str (pe_tup (pa_cons (pv 1) (pa_cons (LyC.pe_gI T.g_MOST_ROWS) pa_nil)))
        (pps_cons pe_str (pe_tup (pa_cons (pe_callB call_lenD (by rfl) T.n_len PySem.boot_len (pa_cons (pe_dget (hu_of hr) (pe_fld (pv 0) rfl) pe_str (fun _ _ => rfl)) pa_nil)) (pa_cons (LyC.pe_gI T.g_MOST_JOBS) pa_nil)))
        (pps_cons pe_str (pe_tup (pa_cons (pe_callB call_lenD (by rfl) T.n_len PySem.boot_len (pa_cons (pe_dget (hu_of hr) (pe_fld (pv 0) rfl) pe_str (fun _ _ => rfl)) pa_nil)) (pa_cons (LyC.pe_gI T.g_MOST_WALKS) pa_nil)))
        (pps_cons pe_str (pe_tup (pa_cons (pe_fld (pv 0) rfl) (pa_cons (LyC.pe_gI T.g_MOST_DEEP) pa_nil))) pps_nil)))) rfl rfl (List.cons_ne_nil _ _) (by decide)))
      (pss_one (ps_lock (ps_for (passes_of rfl) rfl (pi_items (pv 2)) (pg_tup (n := 2) rfl (pgs_cons (pg_name (i := 3) sc_size.nd rfl (Or.inl rfl)) (pgs_cons (pg_tup (n := 2) rfl (pgs_cons (pg_name (i := 4) sc_size.nd rfl (Or.inl rfl)) (pgs_cons (pg_name (i := 5) sc_size.nd rfl (Or.inl rfl)) pgs_nil))) pgs_nil)))
        (pss_one (ps_if (pt_cmpR op_gt (pv 4) (pv 5) (nomark _)) (pss_one (LyC.ps_rz (ok_x_TooMany T) hr (takes_of rfl rfl rfl rfl) (pa_cons (pv 3) pa_nil))) pss_nil))))), ?_⟩
    intro d hd
    have s0 := LyC.same_new (o := .dK []) hd
    refine ⟨_, rfl, by show 2 ≤ sizeLine; decide, fun t1 h1 => ?_⟩
    have s1 := s0.trans (LyC.same_new (o := .tup [V.int many, V.int 100]) h1)
    have R1 := R.mono s1 (Nat.le_refl _)
    obtain ⟨kj, j1, j2⟩ := R1.jb
    have lj : kj.length = s.jobs.length := by
      have := congrArg List.length j2
      rw [List.length_map, List.length_map] at this
      exact this
    refine ⟨_, rfl, p, _, A.dx, _, _, rfl, R1.ob, T.cl_Reader, T.na_Reader_told, r_told, A.dt, _, rfl, (told_j ▸ DGet.k (k := Sum.inr "job") R1.told : DGet _ A.dt (.str "job") (some (.ref A.dj))), A.dj, kj, rfl, j1, by show 2 ≤ sizeLine; decide, fun t2 h2 => ?_⟩
    have s2 := s1.trans (LyC.same_new (o := .tup [V.int (kj.length : Nat), V.int 6]) h2)
    have R2 := R.mono s2 (Nat.le_refl _)
    obtain ⟨kw, w1, w2⟩ := R2.wk
    have lw : kw.length = s.walks.length := by
      have := congrArg List.length w2
      rw [List.length_map, List.length_map] at this
      exact this
    refine ⟨_, rfl, p, _, A.dx, _, _, rfl, R2.ob, T.cl_Reader, T.na_Reader_told, r_told, A.dt, _, rfl, (told_w ▸ DGet.k (k := Sum.inr "walk") R2.told : DGet _ A.dt (.str "walk") (some (.ref A.dw))), A.dw, kw, rfl, w1, by show 2 ≤ sizeLine; decide, fun t3 h3 => ?_⟩
    have s3 := s2.trans (LyC.same_new (o := .tup [V.int (kw.length : Nat), V.int 6]) h3)
    have R3 := R.mono s3 (Nat.le_refl _)
    refine ⟨_, rfl, p, _, A.dx, _, _, rfl, R3.ob, T.cl_Reader, T.na_Reader_deepest, r_deepest, by show 2 ≤ sizeLine; decide, fun t4 h4 => ?_⟩
    obtain ⟨a1, _⟩ := upd_no h1
    obtain ⟨b1, h2b⟩ := upd_no h2
    obtain ⟨b2, _⟩ := upd_no h2b
    obtain ⟨c1, h3b⟩ := upd_no h3
    obtain ⟨c2, h3c⟩ := upd_no h3b
    obtain ⟨c3, _⟩ := upd_no h3c
    obtain ⟨d1, h4b⟩ := upd_no h4
    obtain ⟨d2, h4c⟩ := upd_no h4b
    obtain ⟨d3, h4d⟩ := upd_no h4c
    obtain ⟨d4, _⟩ := upd_no h4d
    have s4 := s3.trans (LyC.same_new (o := .tup [V.int s.deep, V.int 6]) h4)
    refine ⟨?_, [(Sum.inr "rows", .ref t1), (Sum.inr "jobs", .ref t2), (Sum.inr "walks", .ref t3), (Sum.inr "deep", .ref t4)], rfl, (by show 4 ≤ 15; decide), ?_⟩
    · rw [upd_ne (Ne.symm d4), upd_ne (Ne.symm c3), upd_ne (Ne.symm b2), upd_ne (Ne.symm a1), upd_same]
    rw [merge4]
    refine ⟨d, _, upd_same, trivial, fun od => ?_⟩
    rw [upd_upd]
    generalize hH6 : upd (upd (upd (upd (upd (upd H d (HO.dK [])) t1 (HO.tup [V.int many, V.int 100])) t2 (HO.tup [V.int (kj.length : Nat), V.int 6])) t3 (HO.tup [V.int (kw.length : Nat), V.int 6])) t4 (HO.tup [V.int s.deep, V.int 6])) d (HO.frz od (HO.dK [((Sum.inr "rows" : Key), V.ref t1), (Sum.inr "jobs", V.ref t2), (Sum.inr "walks", V.ref t3), (Sum.inr "deep", V.ref t4)])) = H6
    have sH : Same H H6 := by
      rw [← hH6]
      exact LyC.Same.upd s4 hd
    have q0 : H6 d = some (HO.frz od (HO.dK [((Sum.inr "rows" : Key), V.ref t1), (Sum.inr "jobs", V.ref t2), (Sum.inr "walks", V.ref t3), (Sum.inr "deep", V.ref t4)])) := by
      rw [← hH6, upd_same]
    have q1 : H6 t1 = some (.tup [V.int many, V.int 100]) := by
      rw [← hH6, upd_ne a1, upd_ne (Ne.symm d3), upd_ne (Ne.symm c2), upd_ne (Ne.symm b1), upd_same]
    have q2 : H6 t2 = some (.tup [V.int (kj.length : Nat), V.int 6]) := by
      rw [← hH6, upd_ne b2, upd_ne (Ne.symm d2), upd_ne (Ne.symm c1), upd_same]
    have q3 : H6 t3 = some (.tup [V.int (kw.length : Nat), V.int 6]) := by
      rw [← hH6, upd_ne c3, upd_ne (Ne.symm d1), upd_same]
    have q4 : H6 t4 = some (.tup [V.int s.deep, V.int 6]) := by
      rw [← hH6, upd_ne d4, upd_same]
    rw [lj] at q2
    rw [lw] at q3
    have tab : ∀ i, i < 4 → ∃ (k : Str) (ti : Addr) (sz mo : Int), ([((Sum.inr "rows" : Key), V.ref t1), (Sum.inr "jobs", V.ref t2), (Sum.inr "walks", V.ref t3), (Sum.inr "deep", V.ref t4)] : List (Key × V))[i]? = some (Sum.inr k, .ref ti) ∧ (sizesOf s many)[i]? = some (k, sz, mo) ∧ H6 ti = some (.tup [V.int sz, V.int mo]) := by
      intro i hi
      match i, hi with
      | 0, _ => exact ⟨_, _, _, _, rfl, rfl, q1⟩
      | 1, _ => exact ⟨_, _, _, _, rfl, rfl, q2⟩
      | 2, _ => exact ⟨_, _, _, _, rfl, rfl, q3⟩
      | 3, _ => exact ⟨_, _, _, _, rfl, rfl, q4⟩
    refine ⟨_, rfl, d, od, _, rfl, q0, ?_⟩
    refine for_it walk_items (fun i σ Hc => ∃ v1 v2 v3, σ = [some (.ref p), some (.int many), some (.ref d), v1, v2, v3] ∧ Same H6 Hc ∧ ((sizesOf s many).drop i).find? (fun z => decide (z.2.1 > z.2.2)) = tooMany s many)
      ⟨none, none, none, rfl, Same.refl _, rfl⟩ (fun i σ Hc _ hp => ?_) ?_ ?_
    · obtain ⟨v1, v2, v3, rfl, sm, _⟩ := hp
      exact sm _ _ q0
    · rintro i v σ Hc Hc' hi ⟨v1, v2, v3, rfl, sm, er⟩ ⟨Tt, xk, xv, rfl, hT, rfl, e1, e2⟩
      obtain ⟨k, ti, sz, mo, g1, g2, g3⟩ := tab i hi
      simp only [g1, Option.map_some, Option.some.injEq] at e1 e2
      subst e1 e2
      have sT := LyC.same_new (o := .tup [kV (Sum.inr k), V.ref ti]) hT
      have hdrop : (sizesOf s many).drop i = (k, sz, mo) :: (sizesOf s many).drop (i + 1) := by
        obtain ⟨h1, h2⟩ := List.getElem?_eq_some_iff.mp g2
        rw [← h2]
        exact List.drop_eq_getElem_cons h1
      rw [hdrop, List.find?_cons] at er
      refine ⟨Tt, _, rfl, SqT.of upd_same, rfl, _, _, rfl, _, _, rfl, ti, _, rfl, SqT.of (sT _ _ (sm _ _ g3)), rfl, _, _, rfl, _, _, rfl, rfl, rfl, ?_⟩
      refine ⟨_, rfl, _, rfl, _, _, rfl, rfl, _, rfl, ite2 (fun c => ?_) (fun c => ?_)⟩
      · have er2 : tooMany s many = some (k, sz, mo) := by
          rw [← er]
          show (match decide (sz > mo) with | true => some (k, sz, mo) | false => _) = _
          rw [c]
        exact ⟨_, rfl, LyC.mkx_go rfl (raised_go (k1 _ er2) (sH.trans (sm.trans sT)))⟩
      · refine ⟨_, _, _, rfl, sm.trans sT, ?_⟩
        rw [← er]
        show _ = (match decide (sz > mo) with | true => some (k, sz, mo) | false => _)
        rw [Bool.eq_false_iff.mpr c]
    · rintro σ Hc ⟨v1, v2, v3, rfl, sm, er⟩
      refine ⟨sm _ _ q0, ?_⟩
      exact k2 er.symm _ (LyC.Same.upd (sH.trans sm) hd)
end

end Ly
namespace Ly
open PySem PySem.Spec PyProof.Rows L2
/-! ### Program: init, read, str -/
def pflds (z : Str) (dj dw tj tw tg : Addr) : List (Str × V) := [("text", .str z), ("job_rows", .ref dj), ("walk_rows", .ref dw), ("jobs", .ref tj), ("walks", .ref tw), ("gates", .ref tg)]
theorem p_text {z dj dw tj tw tg} : (pflds z dj dw tj tw tg).lookup ("text" : Str) = some (.str z) := by kernel_rfl
/-- a program that was read -/
structure ProgAt (K : PySem.W.Frag) (H : Hp) (x : Addr) (z : Str) (s : Rs) : Prop where
  ex : ∃ (dx dj dw tj tw tg : Addr) (yj yw yg : List Str), H x = some (.ins (c_Program K) dx (pflds z dj dw tj tw tg)) ∧ H tj = some (.tup (yj.map V.str)) ∧ H tw = some (.tup (yw.map V.str)) ∧ H tg = some (.tup (yg.map V.str)) ∧
    yj.Perm s.jobs ∧ yw.Perm s.walks ∧ yg.Perm s.gates ∧ sortedS yj = true ∧ sortedS yw = true ∧ sortedS yg = true
inductive Out where
  | row (i : Nat) | unk (n : Str) | many (w : Str) | ok
def readOut (z : Str) : Out := match runR Rs.init 0 (partsOf z) with
  | .inl i => .row i
  | .inr s => if s.stack = [] then (match lacking s with
      | some n => .unk n
      | none => match tooMany s ((partsOf z).length : Nat) with
        | some t => .many t.1
        | none => .ok) else .row (partsOf z).length
section
variable {P : Program} {w : World} {K : PySem.W.Frag} {mg : Str → Option Value} {base : Heap}
def spPI (K : PySem.W.Frag) : Sp := fun vs H Q _ => ∃ (x dx p : Addr) (z : Str) (H0 : Hp) (n : Nat) (A : Ads) (s : Rs), vs = [.ref x, .str z, .ref p] ∧ H x = some (.ins (c_Program K) dx []) ∧ RdAt K H0 H n p A s ∧ s.jobs.length < 64 ∧ s.walks.length < 64 ∧ s.gates.length < 64 ∧
  ∀ H', ProgAt K H' x z s → (∀ b o, H b = some o → b ≠ x → H' b = some o) → Q .non H'
theorem sc_pi : FnScope ["self", "text", "reader"] ["self", "text", "reader"] (defScope s_Program_init) := ⟨rfl, rfl, rfl, by decide +kernel, rfl, by decide +kernel, by decide +kernel⟩
theorem ok_pi (T : Hd K mg) : LyC.Ma CX0 P w K mg base 2 "Program" (c_Program K) (spPI K) [] := by
  obtain ⟨fd, F⟩ := T.f_Program_init
  refine ⟨_, fd, ["self", "text", "reader"], [], T.mk_Program, F.ok sc_pi (fun vs H Q E h => ?_) (fun cdv A outer s H vs Q E hr h => ?_), T.g_Program, F.bindsN fun _ _ _ _ _ _ us hl => match us, hl with | [_, _, _], _ => rfl, .nil⟩
  · obtain ⟨x, dx, p, z, H0, n, A, s, rfl, _⟩ := h
    rfl
  · obtain ⟨x, dx, p, z, H0, n, A, s, rfl, hx, R, lj, lw, lg, k⟩ := h
    refine ⟨_, pss_cons (ps_fld (pv 0) (pv 1) rfl)
      (pss_cons (ps_fld (pv 0) (pe_dget (hu_of hr) (pe_fld (pv 2) rfl) pe_str (fun _ _ => rfl)) rfl)
      (pss_cons (ps_fld (pv 0) (pe_dget (hu_of hr) (pe_fld (pv 2) rfl) pe_str (fun _ _ => rfl)) rfl)
      (pss_cons (ps_fld (pv 0) (pe_callTy call_tuple_of (by rfl) T.n_tuple (by decide +kernel) (pa_cons (pe_callB (call_sortedD rfl) (by rfl) T.n_sorted (by decide +kernel) (pa_cons (pe_dget (hu_of hr) (pe_fld (pv 2) rfl) pe_str (fun _ _ => rfl)) pa_nil)) pa_nil)) rfl)
      (pss_cons (ps_fld (pv 0) (pe_callTy call_tuple_of (by rfl) T.n_tuple (by decide +kernel) (pa_cons (pe_callB (call_sortedD rfl) (by rfl) T.n_sorted (by decide +kernel) (pa_cons (pe_dget (hu_of hr) (pe_fld (pv 2) rfl) pe_str (fun _ _ => rfl)) pa_nil)) pa_nil)) rfl)
      (pss_one (ps_fld (pv 0) (pe_callTy call_tuple_of (by rfl) T.n_tuple (by decide +kernel) (pa_cons (pe_callB (call_sortedD rfl) (by rfl) T.n_sorted (by decide +kernel) (pa_cons (pe_fld (pv 2) rfl) pa_nil)) pa_nil)) rfl)))))), ?_⟩
    have l0 : ([] : List (Str × V)).length ≤ 0 := Nat.le_refl 0
    have npx : p ≠ x := ne_of R.ob hx (by
      intro z
      injection z with _ _ z3
      cases z3)
    have kpx : ∀ {Hc : Hp} {o : HO}, (∀ b u, H b = some u → b ≠ x → Hc b = some u) → ∀ b u, H b = some u → b ≠ x → upd Hc x o b = some u := fun kp b u hb nb => by
      rw [upd_ne nb]
      exact kp b u hb nb
    have kpn : ∀ {Hc : Hp} {q : Addr} {o : HO}, (∀ b u, H b = some u → b ≠ x → Hc b = some u) → Hc q = none → ∀ b u, H b = some u → b ≠ x → upd Hc q o b = some u := fun kp hq b u hb nb => by
      have := kp b u hb nb
      rw [upd_ne (ne_of_none this hq)]
      exact this
    have ndx : ∀ {b : Addr} {kv : List (Key × V)}, H b = some (.dK kv) → b ≠ x := fun hb => ne_of hb hx (fun z => nomatch z)
    obtain ⟨kj, j1, j2⟩ := R.jb
    obtain ⟨kw, w1, w2⟩ := R.wk
    obtain ⟨kg, g1, g2⟩ := R.gt
    have kp0 : ∀ b u, H b = some u → b ≠ x → H b = some u := fun _ _ h _ => h
    refine ⟨_, rfl, _, rfl, x, _, dx, _, rfl, hx, T.cl_Program, T.na_Program_text, LyC.few l0, ?_⟩
    have kp1 := kpx (o := .ins (c_Program K) dx (putF "text" (.str z) [])) kp0
    refine ⟨_, rfl, p, _, A.dx, _, _, rfl, kp1 _ _ R.ob npx, T.cl_Reader, T.na_Reader_told, r_told, A.dt, _, rfl, (told_j ▸ DGet.k (k := Sum.inr "job") (kp1 _ _ R.told (ndx R.told)) : DGet _ A.dt (.str "job") (some (.ref A.dj))), _, rfl, x, _, dx, _, rfl, upd_same, T.cl_Program, T.na_Program_job_rows, LyC.few (LyC.few_put l0), ?_⟩
    rw [upd_upd]
    have kp2 := kpx (o := .ins (c_Program K) dx (putF "job_rows" (.ref A.dj) (putF "text" (.str z) []))) kp0
    refine ⟨_, rfl, p, _, A.dx, _, _, rfl, kp2 _ _ R.ob npx, T.cl_Reader, T.na_Reader_told, r_told, A.dt, _, rfl, (told_w ▸ DGet.k (k := Sum.inr "walk") (kp2 _ _ R.told (ndx R.told)) : DGet _ A.dt (.str "walk") (some (.ref A.dw))), _, rfl, x, _, dx, _, rfl, upd_same, T.cl_Program, T.na_Program_walk_rows, LyC.few (LyC.few_put (LyC.few_put l0)), ?_⟩
    rw [upd_upd]
    have kp3 := kpx (o := .ins (c_Program K) dx (putF "walk_rows" (.ref A.dw) (putF "job_rows" (.ref A.dj) (putF "text" (.str z) [])))) kp0
    -- jobs
    refine ⟨_, rfl, p, _, A.dx, _, _, rfl, kp3 _ _ R.ob npx, T.cl_Reader, T.na_Reader_told, r_told, A.dt, _, rfl, (told_j ▸ DGet.k (k := Sum.inr "job") (kp3 _ _ R.told (ndx R.told)) : DGet _ A.dt (.str "job") (some (.ref A.dj))), A.dj, kj, s.jobs, rfl, .inl (kp3 _ _ j1 (ndx j1)), j2, lj, fun yj q1 pj sj hq1 => ?_⟩
    have kp4 := kpn (o := .lst (yj.map V.str)) kp3 hq1
    refine ⟨q1, _, rfl, .inl ⟨SqL.of upd_same, fun tj htj => ?_⟩⟩
    have kp5 := kpn (o := .tup (yj.map V.str)) kp4 htj
    obtain ⟨a1, htj2⟩ := upd_no htj
    obtain ⟨a2, _⟩ := upd_no htj2
    obtain ⟨a3, _⟩ := upd_no hq1
    refine ⟨_, rfl, x, _, dx, _, rfl, (by rw [upd_ne (Ne.symm a2), upd_ne (Ne.symm a3), upd_same]), T.cl_Program, T.na_Program_jobs, LyC.few (LyC.few_put (LyC.few_put (LyC.few_put l0))), ?_⟩
    have kp6 := kpx (o := .ins (c_Program K) dx (putF "jobs" (.ref tj) (putF "walk_rows" (.ref A.dw) (putF "job_rows" (.ref A.dj) (putF "text" (.str z) []))))) kp5
    have t1 : ∀ {o : HO}, upd (upd (upd (upd H x (.ins (c_Program K) dx (putF "walk_rows" (.ref A.dw) (putF "job_rows" (.ref A.dj) (putF "text" (.str z) []))))) q1 (.lst (yj.map V.str))) tj (.tup (yj.map V.str))) x o tj = some (.tup (yj.map V.str)) := by
      intro o
      rw [upd_ne a2, upd_same]
    generalize hH6 : upd (upd (upd (upd H x (.ins (c_Program K) dx (putF "walk_rows" (.ref A.dw) (putF "job_rows" (.ref A.dj) (putF "text" (.str z) []))))) q1 (.lst (yj.map V.str))) tj (.tup (yj.map V.str))) x (.ins (c_Program K) dx (putF "jobs" (.ref tj) (putF "walk_rows" (.ref A.dw) (putF "job_rows" (.ref A.dj) (putF "text" (.str z) []))))) = H6
    have x6 : H6 x = some (.ins (c_Program K) dx (putF "jobs" (.ref tj) (putF "walk_rows" (.ref A.dw) (putF "job_rows" (.ref A.dj) (putF "text" (.str z) []))))) := by rw [← hH6, upd_same]
    have t6 : H6 tj = some (.tup (yj.map V.str)) := by rw [← hH6]; exact t1
    rw [hH6] at kp6
    -- walks
    refine ⟨_, rfl, p, _, A.dx, _, _, rfl, kp6 _ _ R.ob npx, T.cl_Reader, T.na_Reader_told, r_told, A.dt, _, rfl, (told_w ▸ DGet.k (k := Sum.inr "walk") (kp6 _ _ R.told (ndx R.told)) : DGet _ A.dt (.str "walk") (some (.ref A.dw))), A.dw, kw, s.walks, rfl, .inl (kp6 _ _ w1 (ndx w1)), w2, lw, fun yw q2 pw sw hq2 => ?_⟩
    have kp7 := kpn (o := .lst (yw.map V.str)) kp6 hq2
    refine ⟨q2, _, rfl, .inl ⟨SqL.of upd_same, fun tw htw => ?_⟩⟩
    have kp8 := kpn (o := .tup (yw.map V.str)) kp7 htw
    obtain ⟨b1, htw2⟩ := upd_no htw
    have b2 : x ≠ tw := ne_of_none x6 htw2
    have b3 : x ≠ q2 := ne_of_none x6 hq2
    have b4 : tj ≠ tw := ne_of_none t6 htw2
    have b5 : tj ≠ q2 := ne_of_none t6 hq2
    refine ⟨_, rfl, x, _, dx, _, rfl, (by rw [upd_ne b2, upd_ne b3]; exact x6), T.cl_Program, T.na_Program_walks, LyC.few (LyC.few_put (LyC.few_put (LyC.few_put (LyC.few_put l0)))), ?_⟩
    have kp9 := kpx (o := .ins (c_Program K) dx (putF "walks" (.ref tw) (putF "jobs" (.ref tj) (putF "walk_rows" (.ref A.dw) (putF "job_rows" (.ref A.dj) (putF "text" (.str z) [])))))) kp8
    generalize hH9 : upd (upd (upd H6 q2 (.lst (yw.map V.str))) tw (.tup (yw.map V.str))) x (.ins (c_Program K) dx (putF "walks" (.ref tw) (putF "jobs" (.ref tj) (putF "walk_rows" (.ref A.dw) (putF "job_rows" (.ref A.dj) (putF "text" (.str z) [])))))) = H9
    have x9 : H9 x = some (.ins (c_Program K) dx (putF "walks" (.ref tw) (putF "jobs" (.ref tj) (putF "walk_rows" (.ref A.dw) (putF "job_rows" (.ref A.dj) (putF "text" (.str z) [])))))) := by rw [← hH9, upd_same]
    have t9 : H9 tj = some (.tup (yj.map V.str)) := by
      rw [← hH9, upd_ne a2, upd_ne b4, upd_ne b5]
      exact t6
    have v9 : H9 tw = some (.tup (yw.map V.str)) := by rw [← hH9, upd_ne (Ne.symm b2), upd_same]
    rw [hH9] at kp9
    -- gates
    refine ⟨_, rfl, p, _, A.dx, _, _, rfl, kp9 _ _ R.ob npx, T.cl_Reader, T.na_Reader_gates, r_gates, A.dg, kg, s.gates, rfl, .inl (kp9 _ _ g1 (ndx g1)), g2, lg, fun yg q3 pg sg hq3 => ?_⟩
    have kp10 := kpn (o := .lst (yg.map V.str)) kp9 hq3
    refine ⟨q3, _, rfl, .inl ⟨SqL.of upd_same, fun tg htg => ?_⟩⟩
    have kp11 := kpn (o := .tup (yg.map V.str)) kp10 htg
    obtain ⟨c1, htg2⟩ := upd_no htg
    have c2 : x ≠ tg := ne_of_none x9 htg2
    have c3 : x ≠ q3 := ne_of_none x9 hq3
    have c4 : tj ≠ tg := ne_of_none t9 htg2
    have c5 : tj ≠ q3 := ne_of_none t9 hq3
    have c6 : tw ≠ tg := ne_of_none v9 htg2
    have c7 : tw ≠ q3 := ne_of_none v9 hq3
    refine ⟨_, rfl, x, _, dx, _, rfl, (by rw [upd_ne c2, upd_ne c3]; exact x9), T.cl_Program, T.na_Program_gates, LyC.few (LyC.few_put (LyC.few_put (LyC.few_put (LyC.few_put (LyC.few_put l0))))), ?_⟩
    refine k _ ⟨dx, A.dj, A.dw, tj, tw, tg, yj, yw, yg, ?_, ?_, ?_, ?_, pj, pw, pg, sj, sw, sg⟩ (kpx kp11)
    · rw [upd_same]
      exact congrArg (fun z => some (HO.ins (c_Program K) dx z)) (by kernel_rfl)
    · rw [upd_ne a2, upd_ne c4, upd_ne c5]
      exact t9
    · rw [upd_ne (Ne.symm b2), upd_ne c6, upd_ne c7]
      exact v9
    · rw [upd_ne (Ne.symm c2), upd_same]
/-- Program.read -/
def spRead (K : PySem.W.Frag) : Sp := fun vs H Q E => ∃ z : Str, vs = [.str z] ∧ z.length < 40000 ∧ (∀ s, runR Rs.init 0 (partsOf z) = .inr s → s.gates.length < 64) ∧
  (∀ i, readOut z = .row i → Raised E (c_BadRow K) H "at" (.int (i : Nat))) ∧ (∀ n, readOut z = .unk n → Raised E (c_Unknown K) H "name" (.str n)) ∧ (∀ n, readOut z = .many n → Raised E (c_TooMany K) H "word" (.str n)) ∧
  (readOut z = .ok → ∀ x s H', runR Rs.init 0 (partsOf z) = .inr s → Same H H' → H x = none → ProgAt K H' x z s → Q (.ref x) H')
theorem sc_read : FnScope ["text", "reader"] ["text"] (defScope s_Program_read) := ⟨rfl, rfl, rfl, by decide +kernel, rfl, by decide +kernel, by decide +kernel⟩
theorem Raised.more {E : XK} {C : Addr} {H H1 : Hp} {f : Str} {v : V} (k : Raised E C H f v) (sm : Same H H1) : Raised E C H1 f v := fun d H' s e => k d H' (sm.trans s) e
theorem ok_read (T : Hd K mg) : LyC.Sm (L2.CX P w) P w K mg base 7 "Program" (c_Program K) "read" (spRead K) [] := by
  obtain ⟨fd, F⟩ := T.f_Program_read
  obtain ⟨h1, rest, h2⟩ := T.sm_Program_read
  refine ⟨_, _, fd, ["text"], [], rest, _, T.g_Program, T.cr_Program, h1, h2, F.kp, F.ok sc_read (fun vs H Q E h => ?_) (fun cdv A outer s H vs Q E hr h => ?_), F.bindsN fun _ _ _ _ _ _ us hl => match us, hl with | [_], _ => rfl, .nil⟩
  · obtain ⟨z, rfl, _⟩ := h
    rfl
  · obtain ⟨z, rfl, hz, hg, k1, k2, k3, k4⟩ := h
    refine ⟨_, pss_cons (ps_set (i := 1) sc_read.nd rfl (Or.inl rfl) (LyC.pe_fX (ok_rows T) hr (takes_of rfl rfl rfl rfl) (pa_cons (pv 0) pa_nil)))
      (pss_cons (ps_expr (LyC.pe_fX (ok_names T) hr (takes_of rfl rfl rfl rfl) (pa_cons (pv 1) pa_nil)))
      (pss_cons (ps_expr (LyC.pe_fX (ok_size T) hr (takes_of rfl rfl rfl rfl) (pa_cons (pv 1) (pa_cons (pe_callB call_len_seq (by rfl) T.n_len PySem.boot_len (pa_cons (pe_split (pv 0) pe_str) pa_nil)) pa_nil))))
      (pss_one (ps_ret (LyC.pe_k (ok_pi T) hr (pa_cons (pv 0) (pa_cons (pv 1) pa_nil))))))), ?_⟩
    have hz2 : z.length + 2 ≤ sizeLine := by
      rw [sizeLine_eq]
      omega
    have hrows : (Txt.split z "\n").length ≤ z.length + 2 := PyProof.Rows.split_le z _
    have hpl : (partsOf z).length = (Txt.split z "\n").length := List.length_map _
    refine ⟨_, rfl, z, rfl, hz, fun i e => k1 i (by unfold readOut; rw [e]), fun s e hs => k1 _ (by unfold readOut; rw [e]; exact if_neg hs), fun s e hs p A H1 R1 => ?_⟩
    have eo : readOut z = (match lacking s with
      | some n => .unk n
      | none => match tooMany s ((partsOf z).length : Nat) with
        | some t => .many t.1
        | none => .ok) := by
      unfold readOut
      rw [e]
      exact if_pos hs
    refine ⟨_, rfl, p, H, _, A, s, rfl, R1, by omega, fun nm en => (k2 nm (by rw [eo, en])).more R1.same, fun en H2 s2 => ?_⟩
    rw [en] at eo
    have R2 := R1.mono s2 (Nat.le_refl _)
    refine ⟨_, rfl, _, rfl, ⟨_, rfl⟩, z, _, rfl, rfl, (by decide +kernel), hz2, fun a ha => ?_⟩
    have sa := LyC.same_new (o := .lst ((Txt.split z "\n").map V.str)) ha
    have R3 := R2.mono sa (Nat.le_refl _)
    refine ⟨a, _, rfl, .inl (SqL.of upd_same), p, _, H, _, A, s, rfl, R3, by omega, fun t et => ?_, fun et H4 s4 => ?_⟩
    · rw [List.length_map, ← hpl] at et
      rw [et] at eo
      exact (k3 t.1 eo).more R3.same
    · rw [List.length_map, ← hpl] at et
      rw [et] at eo
      have R4 := R3.mono s4 (Nat.le_refl _)
      refine ⟨_, rfl, _, rfl, fun x dx nx ndx nex => ?_⟩
      have sx : Same H4 (upd (upd H4 dx (.own x)) x (.ins (c_Program K) dx [])) := LyC.Same.upd (LyC.same_new ndx) nx
      have few : ∀ k ∈ sizesOf s ((partsOf z).length : Nat), ¬ (k.2.1 > k.2.2) := by
        intro k hk
        have := List.find?_eq_none.mp et k hk
        simpa using this
      have fj : s.jobs.length ≤ 6 := by
        have : ¬ (((s.jobs.length : Nat) : Int) > 6) := few ("jobs", (s.jobs.length : Nat), 6) (by unfold sizesOf; simp)
        omega
      have fw : s.walks.length ≤ 6 := by
        have : ¬ (((s.walks.length : Nat) : Int) > 6) := few ("walks", (s.walks.length : Nat), 6) (by unfold sizesOf; simp)
        omega
      refine ⟨x, dx, p, z, H, _, A, s, rfl, upd_same, R4.mono sx (Nat.le_refl _), by omega, by omega, hg s e, fun H' pa kp => ⟨rfl, ?_⟩⟩
      refine k4 eo x s H' e (fun b o hb => kp b o (sx _ _ (R4.same _ _ hb)) (ne_of_none (R4.same _ _ hb) nx)) (same_none R4.same nx) pa
def spStr (K : PySem.W.Frag) : Sp := fun vs H Q _ => ∃ (x : Addr) (z : Str) (s : Rs), vs = [.ref x] ∧ ProgAt K H x z s ∧ Q (.str z) H
theorem sc_str : FnScope ["self"] ["self"] (defScope s_Program_str) := ⟨rfl, rfl, rfl, by decide +kernel, rfl, by decide +kernel, by decide +kernel⟩
theorem ok_str (T : Hd K mg) : ∃ (f : Addr) (fd : FuncData) (ps : List Str), PySem.W.findIn K (.ref (c_Program K)) "__str__" = some (some (.ref f)) ∧ PySem.W.isFn K (.ref f) = true ∧ FnOk P w K mg base CX0 1 f fd ps (spStr K) ∧ Binds K fd ps [] := by
  obtain ⟨fd, F⟩ := T.f_Program_str
  refine ⟨_, fd, ["self"], T.sp_Program_str.1, T.sp_Program_str.2, F.ok sc_str (fun vs H Q E h => ?_) (fun cdv A outer s H vs Q E hr h => ?_), F.bindsN fun _ _ _ _ _ _ us hl => match us, hl with | [_], _ => rfl⟩
  · obtain ⟨x, z, s, rfl, _⟩ := h
    rfl
  · obtain ⟨x, z, s, rfl, B, k⟩ := h
    obtain ⟨dx, dj, dw, tj, tw, tg, yj, yw, yg, h1, _⟩ := B.ex
    refine ⟨_, pss_one (ps_ret (pe_callTy SkE.call_str_str (by rfl) T.n_str (by decide +kernel) (pa_cons (pe_fld (pv 0) rfl) pa_nil))), ?_⟩
    exact ⟨_, rfl, x, _, dx, _, _, rfl, h1, T.cl_Program, T.na_Program_text, p_text, z, rfl, k⟩
end

end Ly
namespace Ly
open PySem PySem.Spec PyProof.Rows L2
/-! ### the law's box of digits: _law_box, _law_take, _law_mixed, _law_pick -/
/-- the box at b may have changed, all else stays -/
structure Bx (b : Addr) (H H' : Hp) : Prop where
  keep : ∀ x o, x ≠ b → H x = some o → H' x = some o
  bx : ∃ c s n : Int, H' b = some (.lst [.int c, .int s, .int n])
section
variable {b : Addr} {H H1 H2 : Hp}
theorem Bx.refl (h : ∃ c s n : Int, H b = some (.lst [.int c, .int s, .int n])) : Bx b H H := ⟨fun _ _ _ e => e, h⟩
theorem Bx.trans (x : Bx b H H1) (y : Bx b H1 H2) : Bx b H H2 := ⟨fun a o n e => y.keep a o n (x.keep a o n e), y.bx⟩
theorem Bx.same (x : Bx b H H1) (s : Same H1 H2) : Bx b H H2 := by
  obtain ⟨c, z, n, e⟩ := x.bx
  exact ⟨fun a o m q => s _ _ (x.keep a o m q), c, z, n, s _ _ e⟩
theorem Bx.new (x : Bx b H H1) {p : Addr} {o : HO} (h : H1 p = none) : Bx b H (upd H1 p o) := x.same (LyC.same_new h)
/-- an object new behind H is written -/
theorem Bx.put (x : Bx b H H1) {p : Addr} {o : HO} (h : H p = none) (hb : p ≠ b) : Bx b H (upd H1 p o) := by
  obtain ⟨c, z, n, e⟩ := x.bx
  refine ⟨fun a u m q => ?_, c, z, n, by rw [upd_ne (Ne.symm hb)]; exact e⟩
  rw [upd_ne (ne_of_none q h)]
  exact x.keep a u m q
end
section
variable {P : Program} {w : World} {K : PySem.W.Frag} {mg : Str → Option Value} {base : Heap}
theorem at2 (b : Bool) (c : Int) : atI [V.int 0, V.int c] (if b = true then 1 else 0) = some (V.int (if b = true then c else 0)) := by cases b <;> rfl
theorem atI_mod {ns : List Int} {i : Int} (h : ns ≠ []) : ∃ z, atI (ns.map V.int) (i % ((ns.map V.int).length : Int)) = some (V.int z) := by
  have hp : 0 < (ns.length : Int) := by
    have := List.length_pos_iff.mpr h
    omega
  rw [List.length_map]
  have h1 := Int.emod_nonneg i (Int.ne_of_gt hp)
  have h2 := Int.emod_lt_of_pos i hp
  obtain ⟨j, hj⟩ := Int.eq_ofNat_of_zero_le h1
  rw [hj] at h2 ⊢
  have h3 : j < ns.length := by omega
  exact ⟨ns[j], atI_nat (by rw [List.getElem?_map, List.getElem?_eq_getElem h3]; rfl)⟩
theorem atI_lt {ns : List Int} {i : Int} (h0 : 0 ≤ i) (h : i < ((ns.map V.int).length : Int)) : ∃ z, atI (ns.map V.int) i = some (V.int z) := by
  rw [List.length_map] at h
  obtain ⟨j, hj⟩ := Int.eq_ofNat_of_zero_le h0
  rw [hj] at h ⊢
  have h3 : j < ns.length := by omega
  exact ⟨ns[j], atI_nat (by rw [List.getElem?_map, List.getElem?_eq_getElem h3]; rfl)⟩
def spBox (K : PySem.W.Frag) : Sp := fun vs H Q _ => ∃ (a : Addr) (ns : List Int) (k own : Int), vs = [.ref a, .int k, .int own] ∧ SqL K H a (ns.map V.int) ∧ ns.length ≤ 1000 ∧ 0 ≤ k ∧ k < 1000000 ∧ 0 ≤ own ∧ own < 1000000 ∧ ∀ b H' c s n, H b = none → Same H H' → H' b = some (.lst [.int c, .int s, .int n]) → Q (.ref b) H'
theorem sc_box : FnScope ["_law_script", "_law_k", "_law_own", "_law_cell", "_law_seed"] ["_law_script", "_law_k", "_law_own"] (defScope s_law_box) := ⟨rfl, rfl, rfl, by decide +kernel, rfl, by decide +kernel, by decide +kernel⟩
theorem ok_box (T : Hd K mg) : LyC.Cl CX0 P w K mg base 1 "_law_box" (spBox K) [] := by
  obtain ⟨fd, F⟩ := T.f_law_box
  refine ⟨_, fd, ["_law_script", "_law_k", "_law_own"], [], F.ok sc_box (fun vs H Q E h => ?_) (fun cdv A outer s H vs Q E hr h => ?_), T.g_law_box, F.kp, F.bindsN fun _ _ _ _ _ _ us hl => match us, hl with | [_, _, _], _ => rfl, .nil⟩
  · obtain ⟨a, ns, k, own, rfl, _⟩ := h
    rfl
  · obtain ⟨a, ns, k, own, rfl, ha, hl, k0, k1, o0, o1, kk⟩ := h
    refine ⟨_, pss_cons (ps_set (i := 3) sc_box.nd rfl (Or.inl rfl) (pe_op op_add (pe_op op_add (pe_op op_mul pe_int (pv 1)) (pe_op op_mul pe_int (pv 2))) pe_int))
      (pss_cons (ps_if (pt_cmpR op_lt (pv 1) (pe_callB call_len_seq (by rfl) T.n_len PySem.boot_len (pa_cons (pv 0) pa_nil)) (nomark _))
        (pss_one (ps_set (i := 3) sc_box.nd rfl (Or.inl rfl) (pe_callB call_abs (by rfl) T.n_abs (by decide +kernel) (pa_cons (pe_ix ix_list (pv 0) (pv 1) (fun _ _ => rfl)) pa_nil))))
        (pss_one (ps_if (pt_cmpR op_gt (pe_callB call_len_seq (by rfl) T.n_len PySem.boot_len (pa_cons (pv 0) pa_nil)) pe_int (nomark _))
          (pss_one (ps_set (i := 3) sc_box.nd rfl (Or.inl rfl) (pe_op op_add (pv 3) (pe_op op_mul (pe_op op_mod (pe_callTy call_int1 (by rfl) T.n_int (by decide +kernel) (pa_cons (pe_callB call_abs (by rfl) T.n_abs (by decide +kernel) (pa_cons (pe_ix ix_list (pv 0) (pe_op op_mod (pe_callTy call_int1 (by rfl) T.n_int (by decide +kernel) (pa_cons (pv 1) pa_nil)) (pe_callB call_len_seq (by rfl) T.n_len PySem.boot_len (pa_cons (pv 0) pa_nil))) (fun _ _ => rfl)) pa_nil)) pa_nil)) pe_int) pe_int))))
          pss_nil)))
      (pss_cons (ps_set (i := 4) sc_box.nd rfl (Or.inl rfl) (pe_op op_add (pe_op op_mod (pe_callTy call_int1 (by rfl) T.n_int (by decide +kernel) (pa_cons (pe_op op_add (pe_op op_mul (pe_op op_mod (pe_callTy call_int1 (by rfl) T.n_int (by decide +kernel) (pa_cons (pv 3) pa_nil)) pe_int) pe_int) (pe_op op_mul pe_int (pe_op op_add (pv 1) (pe_op op_mul pe_int (pv 2))))) pa_nil)) pe_int) pe_int))
      (pss_one (ps_ret (pe_lst (pa_cons (pe_ix ix_list (pe_lst (pa_cons pe_int (pa_cons (pv 3) pa_nil))) (pe_callTy call_int1 (by rfl) T.n_int (by decide +kernel) (pa_cons (pe_cmpR op_ge (pv 3) (pe_op op_pow pe_int pe_int) (nomark _)) pa_nil)) (fun _ _ => rfl)) (pa_cons (pv 4) (pa_cons pe_int pa_nil)))))))), ?_⟩
    refine ⟨_, rfl, _, _, rfl, rfl, .inl ⟨by decide, by decide⟩, _, rfl, _, _, rfl, rfl, .inl ⟨by decide, by decide⟩, _, _, rfl, rfl, _, _, rfl, rfl, ?_⟩
    refine ⟨_, rfl, _, rfl, a, _, rfl, .inl ha, _, _, rfl, rfl, _, rfl, ite2 (fun c => ?_) (fun c => ?_)⟩
    rotate_left
    · refine ⟨_, rfl, a, _, rfl, .inl ha, _, _, rfl, rfl, _, rfl, ite2 (fun c2 => ?_) (fun c2 => ?_)⟩
      · have hne : ns ≠ [] := by
          intro z
          subst z
          exact absurd (of_decide_eq_true c2) (by decide)
        have hp : 0 < (((ns.map V.int).length : Nat) : Int) := of_decide_eq_true c2
        obtain ⟨z, hz⟩ := atI_mod (i := k) hne
        refine ⟨_, rfl, _, rfl, _, rfl, .inl ⟨_, rfl, _, rfl, a, _, rfl, .inl ha, _, _, rfl, rfl, hp, a, _, _, _, rfl, rfl, ha, hz, _, rfl, .inl ⟨_, rfl, _, _, rfl, rfl, (show (0 : Int) < 2147483629 by decide), _, _, rfl, rfl, .inr ⟨by decide, by decide⟩, _, _, rfl, rfl, ?_⟩⟩⟩
        refine ⟨_, rfl, .inl ⟨_, rfl, _, _, rfl, rfl, (show (0 : Int) < 2147483629 by decide), _, _, rfl, rfl, .inr ⟨by decide, by decide⟩, _, rfl, _, rfl, _, _, rfl, rfl, .inl ⟨by decide, by decide⟩, _, _, rfl, rfl, _, _, rfl, rfl, .inl ⟨by decide, by decide⟩, _, _, rfl, rfl, .inl ⟨_, rfl, _, _, rfl, rfl, (show (0 : Int) < 2147483629 by decide), _, _, rfl, rfl, ?_⟩⟩⟩
        refine ⟨_, rfl, (by show 2 ≤ sizeLine; decide), fun l hl => ⟨_, rfl, _, _, rfl, rfl, ⟨by decide, by decide, by decide⟩, _, _, rfl, rfl, .inr ⟨_, rfl, l, _, _, _, rfl, rfl, SqL.of upd_same, at2 _ _, _, rfl, (by show 3 ≤ sizeLine; decide), fun b hb => ?_⟩⟩⟩
        exact kk b _ _ _ _ (upd_no hb).2 ((LyC.same_new hl).trans (LyC.same_new hb)) upd_same
      · refine ⟨_, rfl, .inl ⟨_, rfl, _, _, rfl, rfl, (show (0 : Int) < 2147483629 by decide), _, _, rfl, rfl, .inr ⟨by decide, by decide⟩, _, rfl, _, rfl, _, _, rfl, rfl, .inl ⟨by decide, by decide⟩, _, _, rfl, rfl, _, _, rfl, rfl, .inl ⟨by decide, by decide⟩, _, _, rfl, rfl, .inl ⟨_, rfl, _, _, rfl, rfl, (show (0 : Int) < 2147483629 by decide), _, _, rfl, rfl, ?_⟩⟩⟩
        refine ⟨_, rfl, (by show 2 ≤ sizeLine; decide), fun l hl => ⟨_, rfl, _, _, rfl, rfl, ⟨by decide, by decide, by decide⟩, _, _, rfl, rfl, .inr ⟨_, rfl, l, _, _, _, rfl, rfl, SqL.of upd_same, at2 _ _, _, rfl, (by show 3 ≤ sizeLine; decide), fun b hb => ?_⟩⟩⟩
        exact kk b _ _ _ _ (upd_no hb).2 ((LyC.same_new hl).trans (LyC.same_new hb)) upd_same
    · obtain ⟨z, hz⟩ := atI_lt k0 (of_decide_eq_true c)
      refine ⟨_, rfl, _, rfl, a, _, _, _, rfl, rfl, ha, hz, _, rfl, ?_⟩
      refine ⟨_, rfl, .inl ⟨_, rfl, _, _, rfl, rfl, (show (0 : Int) < 2147483629 by decide), _, _, rfl, rfl, .inr ⟨by decide, by decide⟩, _, rfl, _, rfl, _, _, rfl, rfl, .inl ⟨by decide, by decide⟩, _, _, rfl, rfl, _, _, rfl, rfl, .inl ⟨by decide, by decide⟩, _, _, rfl, rfl, .inl ⟨_, rfl, _, _, rfl, rfl, (show (0 : Int) < 2147483629 by decide), _, _, rfl, rfl, ?_⟩⟩⟩
      refine ⟨_, rfl, (by show 2 ≤ sizeLine; decide), fun l hl => ⟨_, rfl, _, _, rfl, rfl, ⟨by decide, by decide, by decide⟩, _, _, rfl, rfl, .inr ⟨_, rfl, l, _, _, _, rfl, rfl, SqL.of upd_same, at2 _ _, _, rfl, (by show 3 ≤ sizeLine; decide), fun b hb => ?_⟩⟩⟩
      exact kk b _ _ _ _ (upd_no hb).2 ((LyC.same_new hl).trans (LyC.same_new hb)) upd_same
/-- a digit of the box -/
def spTk : Sp := fun vs H Q _ => ∃ (b : Addr) (many : Int), vs = [.ref b, .int many] ∧ 0 < many ∧ many < 1000000 ∧ (∃ c s n : Int, H b = some (.lst [.int c, .int s, .int n])) ∧ ∀ d H', 0 ≤ d → d < many → Bx b H H' → Q (.int d) H'
theorem sc_tk : FnScope ["_law_box_here", "_law_many", "_law_digit", "_law_raw"] ["_law_box_here", "_law_many"] (defScope s_law_take) := ⟨rfl, rfl, rfl, by decide +kernel, rfl, by decide +kernel, by decide +kernel⟩
theorem bx_set {b : Addr} {H : Hp} {c s n : Int} : Bx b H (upd H b (.lst [.int c, .int s, .int n])) := ⟨fun x o nx e => by rw [upd_ne nx]; exact e, c, s, n, upd_same⟩
theorem ok_tk (T : Hd K mg) : LyC.Cl CX0 P w K mg base 1 "_law_take" spTk [] := by
  obtain ⟨fd, F⟩ := T.f_law_take
  refine ⟨_, fd, ["_law_box_here", "_law_many"], [], F.ok sc_tk (fun vs H Q E h => ?_) (fun cdv A outer s H vs Q E hr h => ?_), T.g_law_take, F.kp, F.bindsN fun _ _ _ _ _ _ us hl => match us, hl with | [_, _], _ => rfl, .nil⟩
  · obtain ⟨b, many, rfl, _⟩ := h
    rfl
  · obtain ⟨b, many, rfl, h0, h1, ⟨c, sd, n, hb⟩, k⟩ := h
    refine ⟨_, pss_cons (ps_if (pt_cmpR op_gt (pe_ix ix_list (pv 0) pe_int (fun _ _ => rfl)) pe_int (nomark _))
        (pss_cons (ps_set (i := 2) sc_tk.nd rfl (Or.inl rfl) (pe_op op_mod (pe_callTy call_int1 (by rfl) T.n_int (by decide +kernel) (pa_cons (pe_ix ix_list (pv 0) pe_int (fun _ _ => rfl)) pa_nil)) (pv 1)))
        (pss_cons (ps_asg (pe_op op_fdiv (pe_ix ix_list (pv 0) pe_int (fun _ _ => rfl)) (pv 1)) (pg_sub (pv 0) pe_int set_list)) (pss_one (ps_ret (pv 2))))) pss_nil)
      (pss_cons (ps_asg (pe_op op_add (pe_ix ix_list (pv 0) pe_int (fun _ _ => rfl)) pe_int) (pg_sub (pv 0) pe_int set_list))
      (pss_cons (ps_set (i := 3) sc_tk.nd rfl (Or.inl rfl) (pe_op op_mod (pe_callTy call_int1 (by rfl) T.n_int (by decide +kernel) (pa_cons (pe_op op_mul (pe_op op_add (pe_ix ix_list (pv 0) pe_int (fun _ _ => rfl)) (pe_op op_mul pe_int (pe_ix ix_list (pv 0) pe_int (fun _ _ => rfl)))) pe_int) pa_nil)) pe_int))
      (pss_cons (ps_asg (pe_op op_add (pe_op op_mod (pe_callTy call_int1 (by rfl) T.n_int (by decide +kernel) (pa_cons (pe_op op_add (pe_op op_mul (pv 3) pe_int) pe_int) pa_nil)) pe_int) pe_int) (pg_sub (pv 0) pe_int set_list))
      (pss_one (ps_ret (pe_op op_mod (pe_callTy call_int1 (by rfl) T.n_int (by decide +kernel) (pa_cons (pe_op op_fdiv (pe_op op_add (pe_op op_mul (pv 3) pe_int) (pe_ix ix_list (pv 0) pe_int (fun _ _ => rfl))) pe_int) pa_nil)) (pv 1))))))), ?_⟩
    refine ⟨_, rfl, b, _, _, _, rfl, rfl, SqL.of hb, atI_nat (j := 0) rfl, _, _, rfl, rfl, _, rfl, ite2 (fun _ => ?_) (fun _ => ?_)⟩
    · refine ⟨_, rfl, b, _, _, _, rfl, rfl, SqL.of hb, atI_nat (j := 0) rfl, .inl ⟨_, rfl, _, rfl, _, _, rfl, rfl, h0, ?_⟩⟩
      refine ⟨_, rfl, b, _, _, _, rfl, rfl, SqL.of hb, atI_nat (j := 0) rfl, _, rfl, _, _, rfl, rfl, ⟨h0, by omega⟩, _, rfl, b, _, _, 0, rfl, rfl, hb, rfl, ?_⟩
      refine ⟨_, rfl, k _ _ (Int.emod_nonneg _ (Int.ne_of_gt h0)) (Int.emod_lt_of_pos _ h0) bx_set⟩
    · refine ⟨_, rfl, b, _, _, _, rfl, rfl, SqL.of hb, atI_nat (j := 2) rfl, _, _, rfl, rfl, _, rfl, b, _, _, 2, rfl, rfl, hb, rfl, ?_⟩
      have hb1 : (upd H b (.lst [V.int c, V.int sd, V.int (n + 1)])) b = some (.lst [V.int c, V.int sd, V.int (n + 1)]) := upd_same
      refine ⟨_, rfl, b, _, _, _, rfl, rfl, SqL.of hb1, atI_nat (j := 1) rfl, _, rfl, b, _, _, _, rfl, rfl, SqL.of hb1, atI_nat (j := 2) rfl, _, _, rfl, rfl, .inl ⟨by decide, by decide⟩, _, _, rfl, rfl, _, _, rfl, rfl, .inr ⟨by decide, by decide⟩, .inl ⟨_, rfl, _, _, rfl, rfl, (show (0 : Int) < 2147483647 by decide), ?_⟩⟩
      refine ⟨_, rfl, _, _, rfl, rfl, .inr ⟨by decide, by decide⟩, _, _, rfl, rfl, .inl ⟨_, rfl, _, _, rfl, rfl, (show (0 : Int) < 2147483629 by decide), _, _, rfl, rfl, _, rfl, b, _, _, 1, rfl, rfl, hb1, rfl, ?_⟩⟩
      rw [upd_upd]
      refine ⟨_, rfl, _, _, rfl, rfl, .inr ⟨by decide, by decide⟩, _, rfl, b, _, _, _, rfl, rfl, SqL.of upd_same, atI_nat (j := 1) rfl, _, _, rfl, rfl, _, _, rfl, rfl, ⟨by decide, by decide⟩, .inl ⟨_, rfl, _, rfl, _, _, rfl, rfl, h0, ?_⟩⟩
      exact k _ _ (Int.emod_nonneg _ (Int.ne_of_gt h0)) (Int.emod_lt_of_pos _ h0) bx_set
/-- the items in some order -/
def spMixed (K : PySem.W.Frag) : Sp := fun vs H Q _ => ∃ (b a : Addr) (xs : List V), vs = [.ref b, .ref a] ∧ (SqL K H a xs ∨ SqT K H a xs) ∧ xs.length < 100000 ∧ (∃ c s n : Int, H b = some (.lst [.int c, .int s, .int n])) ∧ ∀ p ys H', ys.Perm xs → H p = none → Bx b H H' → H' p = some (.lst ys) → Q (.ref p) H'
theorem sc_mixed : FnScope ["_law_box_here", "_law_items", "_law_left", "_law_found"] ["_law_box_here", "_law_items"] (defScope s_law_mixed) := ⟨rfl, rfl, rfl, by decide +kernel, rfl, by decide +kernel, by decide +kernel⟩
theorem perm_erase {α : Type} : ∀ (xs : List α) (i : Nat) (x : α), xs[i]? = some x → (x :: xs.eraseIdx i).Perm xs
  | [], i, x, h => by cases h
  | y :: xs, 0, x, h => by
    cases h
    exact List.Perm.refl _
  | y :: xs, i + 1, x, h => by
    have ih := perm_erase xs i x h
    exact (List.Perm.swap y x _).trans (ih.cons y)
theorem ok_mixed (T : Hd K mg) : LyC.Cl CX0 P w K mg base 2 "_law_mixed" (spMixed K) [] := by
  obtain ⟨fd, F⟩ := T.f_law_mixed
  refine ⟨_, fd, ["_law_box_here", "_law_items"], [], F.ok sc_mixed (fun vs H Q E h => ?_) (fun cdv A outer s H vs Q E hr h => ?_), T.g_law_mixed, F.kp, F.bindsN fun _ _ _ _ _ _ us hl => match us, hl with | [_, _], _ => rfl, .nil⟩
  · obtain ⟨b, a, xs, rfl, _⟩ := h
    rfl
  · obtain ⟨b, a, xs, rfl, ha, hlen, hb, k⟩ := h
    have hu2 := Nat.lt_of_le_of_lt (Nat.le_add_right _ 64) hr.units
    refine ⟨_, pss_cons (ps_par (i := 2) (j := 3) (by rfl) sc_mixed.nd rfl rfl (by decide) rfl rfl (pa_cons (pe_callTy call_list_of (by rfl) T.n_list (by decide +kernel) (pa_cons (pv 1) pa_nil)) (pa_cons (pe_lst pa_nil) pa_nil)) (by rfl))
      (pss_cons (ps_while (passes_of rfl) (pt_cmpR (LyC.op_neNil hu2) (pv 2) (pe_lst pa_nil) (nomark _))
        (pss_one (ps_expr (pe_bm PySem.F.plainAttrs_list PySem.F.slot_list_append PySem.F.type_list_append mt_append (pv 3)
          (pa_cons (pe_bm PySem.F.plainAttrs_list PySem.F.slot_list_pop PySem.F.type_list_pop mt_popAt (pv 2) (pa_cons (LyC.pe_f (ok_tk T) hr (pa_cons (pv 0) (pa_cons (pe_callB call_len_seq (by rfl) T.n_len PySem.boot_len (pa_cons (pv 2) pa_nil)) pa_nil))) pa_nil)) pa_nil)))))
      (pss_one (ps_ret (pv 3)))), ?_⟩
    refine ⟨_, rfl, a, xs, rfl, ha, fun l hl => ⟨Nat.zero_le _, fun f hf => ?_⟩⟩
    refine ⟨_, _, rfl, ?_⟩
    obtain ⟨nfl, hf2⟩ := upd_no hf
    obtain ⟨c0, s0, n0, hb0⟩ := hb
    have nbl : l ≠ b := (ne_of_none hb0 hl).symm
    have nbf : f ≠ b := (ne_of_none hb0 hf2).symm
    refine while_by (fun σ Hc => σ = [some (.ref b), some (.ref a), some (.ref l), some (.ref f)] ∧ Bx b H Hc ∧ ∃ lf fd, Hc l = some (.lst lf) ∧ Hc f = some (.lst fd) ∧ (lf ++ fd).Perm xs)
      (fun σ Hc => match Hc l with | some (.lst lf) => lf.length | _ => 0) ⟨rfl, ((Bx.refl ⟨c0, s0, n0, hb0⟩).new hl).new hf, xs, [], ?_, upd_same, by rw [List.append_nil]⟩ ?_ ?_
    · rw [upd_ne (Ne.symm nfl), upd_same]
    · rintro σ Hc ⟨rfl, B, lf, fd, h1, h2, pm⟩
      have hsz : lf.length + fd.length < 100000 := by
        have := pm.length_eq
        rw [List.length_append] at this
        omega
      refine ⟨_, rfl, Nat.zero_le _, fun l0 hl0 => ?_⟩
      have sm := LyC.same_new (o := .lst []) hl0
      refine ⟨l, l0, _, rfl, rfl, SqL.of (sm _ _ h1), SqL.of upd_same, _, rfl, ?_⟩
      have B1 := B.same sm
      cases lf with
      | nil =>
        refine iteF ?_
        exact ⟨_, rfl, k f fd _ pm hf2 B1 (sm _ _ h2)⟩
      | cons y lf =>
        refine iteT ?_
        refine ⟨_, rfl, .inl ⟨rfl, _, SqL.of (sm _ _ h2)⟩, _, rfl, .inl ⟨rfl, _, SqL.of (sm _ _ h1)⟩, _, rfl, _, rfl, l, _, rfl, .inl (SqL.of (sm _ _ h1)), ?_⟩
        refine ⟨b, _, rfl, (by show (0 : Int) < ((lf.length + 1 : Nat) : Int); omega), (by show ((lf.length + 1 : Nat) : Int) < 1000000; rw [List.length_cons] at hsz; omega), B1.bx, fun d H3 d0 d1 B3 => ?_⟩
        have g1 : H3 l = some (.lst (y :: lf)) := B3.keep _ _ nbl (sm _ _ h1)
        have g2 : H3 f = some (.lst fd) := B3.keep _ _ nbf (sm _ _ h2)
        obtain ⟨j, rfl⟩ := Int.eq_ofNat_of_zero_le d0
        have hj : j < (y :: lf).length := by
          have : ((j : Nat) : Int) < (((y :: lf).length : Nat) : Int) := d1
          omega
        have hi : seqIndex? ((j : Nat) : Int) (y :: lf).length = some j := by
          have e : ixN (y :: lf).length ((j : Nat) : Int) = some j := by
            unfold ixN
            rw [if_pos (by omega), if_pos (by omega)]
            rfl
          exact (ixN_seq e).1
        refine ⟨l, _, _, j, (y :: lf)[j], rfl, rfl, g1, (by omega), (by rw [List.length_cons] at hj hsz; omega), hi, List.getElem?_eq_getElem hj, ?_⟩
        refine ⟨f, fd, _, rfl, rfl, (by rw [upd_ne nfl]; exact g2), (by rw [sizeLine_eq]; omega), ?_⟩
        have pe := perm_erase (y :: lf) j _ (List.getElem?_eq_getElem hj)
        refine ⟨⟨rfl, ((B1.trans B3).put hl nbl).put hf2 nbf, (y :: lf).eraseIdx j, fd ++ [(y :: lf)[j]], ?_, upd_same, ?_⟩, ?_⟩
        · rw [upd_ne (Ne.symm nfl), upd_same]
        · refine List.Perm.trans ?_ pm
          rw [← List.append_assoc]
          refine (List.perm_append_singleton _ _).trans ?_
          rw [← List.cons_append]
          exact pe.append_right fd
        · show (match upd (upd H3 l _) f _ l with | some (.lst lf) => lf.length | _ => 0) < (match Hc l with | some (.lst lf) => lf.length | _ => 0)
          rw [upd_ne (Ne.symm nfl), upd_same, h1]
          show ((y :: lf).eraseIdx j).length < (y :: lf).length
          rw [List.length_eraseIdx, if_pos hj]
          exact Nat.sub_lt (Nat.zero_lt_of_lt hj) Nat.one_pos
    · intro σ Hc Q1 Q2 himp hq
      obtain ⟨v, e, hz, hh⟩ := hq
      refine ⟨v, e, hz, fun l1 hl1 => ?_⟩
      obtain ⟨a1, b1, x1, e1, e2, g1, g2, c, e3, q⟩ := hh l1 hl1
      exact ⟨a1, b1, x1, e1, e2, g1, g2, c, e3, himp _ _ q⟩
/-- one of the items -/
def spPick (K : PySem.W.Frag) : Sp := fun vs H Q _ => ∃ (b a : Addr) (xs : List V), vs = [.ref b, .ref a] ∧ SqL K H a xs ∧ a ≠ b ∧ H a = some (.lst xs) ∧ xs ≠ [] ∧ xs.length < 100000 ∧ (∃ c s n : Int, H b = some (.lst [.int c, .int s, .int n])) ∧ ∀ x H', x ∈ xs → Bx b H H' → Q x H'
theorem sc_pick : FnScope ["_law_box_here", "_law_items"] ["_law_box_here", "_law_items"] (defScope s_law_pick) := ⟨rfl, rfl, rfl, by decide +kernel, rfl, by decide +kernel, by decide +kernel⟩
theorem ok_pick (T : Hd K mg) : LyC.Cl CX0 P w K mg base 2 "_law_pick" (spPick K) [] := by
  obtain ⟨fd, F⟩ := T.f_law_pick
  refine ⟨_, fd, ["_law_box_here", "_law_items"], [], F.ok sc_pick (fun vs H Q E h => ?_) (fun cdv A outer s H vs Q E hr h => ?_), T.g_law_pick, F.kp, F.bindsN fun _ _ _ _ _ _ us hl => match us, hl with | [_, _], _ => rfl, .nil⟩
  · obtain ⟨b, a, xs, rfl, _⟩ := h
    rfl
  · obtain ⟨b, a, xs, rfl, ha, nab, hA, hne, hlen, hb, k⟩ := h
    have hp := List.length_pos_iff.mpr hne
    refine ⟨_, pss_one (ps_ret (pe_ix ix_list (pv 1) (LyC.pe_f (ok_tk T) hr (pa_cons (pv 0) (pa_cons (pe_callB call_len_seq (by rfl) T.n_len PySem.boot_len (pa_cons (pv 1) pa_nil)) pa_nil))) (fun _ _ => rfl))), ?_⟩
    refine ⟨_, rfl, _, rfl, _, rfl, a, _, rfl, .inl ha, b, _, rfl, (by omega), (by omega), hb, fun d H3 d0 d1 B3 => ?_⟩
    obtain ⟨j, rfl⟩ := Int.eq_ofNat_of_zero_le d0
    have hj : j < xs.length := by omega
    exact ⟨a, _, _, _, rfl, rfl, SqL.of (B3.keep _ _ nab hA), atI_nat (List.getElem?_eq_getElem hj), k _ _ (List.getElem_mem hj) B3⟩
end

end Ly
namespace Ly
open PySem PySem.Spec PyProof.Rows L2
/-! ### runs: gates and begun names -/
theorem take_keep {s s' : Rs} {wd : Str} {rest : List Str} (h : s.take wd rest = some s') : (s'.gates = s.gates ∨ wd ∈ (["wait", "open"] : List Str)) ∧ (s'.begun = s.begun ∨ ∃ n, isName n = true ∧ s'.begun = s.begun ++ [n]) := by
  unfold Rs.take at h
  split at h
  · unfold Rs.w0 at h
    split at h
    · unfold Rs.defn at h
      split at h
      · cases h
        exact ⟨.inl rfl, .inl rfl⟩
      · cases h
    · cases h
  · split at h
    · split at h
      · unfold Rs.ended at h
        split at h
        · cases h
        · cases h
        · split at h
          · split at h
            · cases h
              exact ⟨.inl rfl, .inl rfl⟩
            · cases h
              exact ⟨.inl rfl, .inl rfl⟩
            · cases h
          · cases h
            exact ⟨.inl rfl, .inl rfl⟩
      · cases h
    · split at h
      · cases h
      · unfold Rs.within at h
        split at h
        · unfold Rs.w1 at h
          split at h
          · rename_i n
            split at h
            · rename_i hn
              cases h
              refine ⟨?_, ?_⟩
              · by_cases c : wd ∈ (["wait", "open"] : List Str)
                · exact .inr c
                · refine .inl ?_
                  show (if wd ∈ (["wait", "open"] : List Str) then _ else _) = _
                  rw [if_neg c]
              · by_cases c : wd = "begin"
                · refine .inr ⟨n, hn, ?_⟩
                  show (if wd = "begin" then _ else _) = _
                  rw [if_pos c]
                · refine .inl ?_
                  show (if wd = "begin" then _ else _) = _
                  rw [if_neg c]
            · cases h
          · cases h
        · split at h
          · unfold Rs.w2 at h
            split at h
            · split at h
              · cases h
                exact ⟨.inl rfl, .inl rfl⟩
              · cases h
            · cases h
          · split at h
            · unfold Rs.w3 at h
              split at h
              · unfold Rs.pulled at h
                split at h
                · cases h
                  exact ⟨.inl rfl, .inl rfl⟩
                · cases h
              · unfold Rs.pulled at h
                split at h
                · cases h
                  exact ⟨.inl rfl, .inl rfl⟩
                · cases h
              · cases h
            · split at h
              · have tn : ∀ {e : En} {s' : Rs}, s.turned e = some s' → (s'.gates = s.gates ∨ wd ∈ (["wait", "open"] : List Str)) ∧ (s'.begun = s.begun ∨ ∃ n, isName n = true ∧ s'.begun = s.begun ++ [n]) := by
                  intro e s' h
                  unfold Rs.turned at h
                  split at h
                  · cases h
                    exact ⟨.inl rfl, .inl rfl⟩
                  · cases h
                unfold Rs.alone at h
                split at h
                · exact tn h
                · split at h
                  · exact tn h
                  · split at h
                    · cases h
                      exact ⟨.inl rfl, .inl rfl⟩
                    · split at h
                      · split at h
                        · cases h
                          exact ⟨.inl rfl, .inl rfl⟩
                        · cases h
                      · split at h
                        · cases h
                          exact ⟨.inl rfl, .inl rfl⟩
                        · cases h
              · cases h
/-- how many gates rows of this sort can make -/
theorem run_gates : ∀ (ps : List (List Str)) (s s' : Rs) (i : Nat), runR s i ps = .inr s' → (∀ p ∈ ps, ¬ p.headD "" ∈ (["wait", "open"] : List Str)) → s'.gates = s.gates
  | [], s, s', i, h, _ => by
    cases h
    rfl
  | p :: ps, s, s', i, h, hp => by
    cases e : s.step p with
    | none =>
      rw [runR_none e] at h
      cases h
    | some s1 =>
      rw [runR_some e] at h
      have ih := run_gates ps s1 s' (i + 1) h (fun q hq => hp q (List.mem_cons_of_mem _ hq))
      cases p with
      | nil => cases e
      | cons wd rest =>
        rcases (take_keep e).1 with z | z
        · exact ih.trans z
        · exact absurd z (hp _ List.mem_cons_self)
theorem run_begun : ∀ (ps : List (List Str)) (s s' : Rs) (i : Nat), runR s i ps = .inr s' → (∀ n ∈ s.begun, isName n = true) → ∀ n ∈ s'.begun, isName n = true
  | [], s, s', i, h, hb => by
    cases h
    exact hb
  | p :: ps, s, s', i, h, hb => by
    cases e : s.step p with
    | none =>
      rw [runR_none e] at h
      cases h
    | some s1 =>
      rw [runR_some e] at h
      refine run_begun ps s1 s' (i + 1) h ?_
      cases p with
      | nil => cases e
      | cons wd rest =>
        rcases (take_keep e).2 with z | ⟨n, hn, z⟩
        · rw [z]
          exact hb
        · rw [z]
          intro m hm
          rcases List.mem_append.mp hm with y | y
          · exact hb m y
          · rw [List.mem_singleton.mp y]
            exact hn
theorem tw_not : ∀ a : List Nat, 32 ∉ a.takeWhile (fun c => decide (c ≠ 32))
  | [], h => nomatch h
  | c :: a, h => by
    rw [List.takeWhile_cons] at h
    by_cases hc : c = 32
    · subst hc
      cases h
    · rw [decide_eq_true hc] at h
      rcases List.mem_cons.mp h with z | z
      · exact hc z.symm
      · exact tw_not a z
/-- the first word of a row -/
theorem head_split (r : Str) : (Txt.split r " ").headD "" = SX.S (r.cps.toList.takeWhile fun c => decide (c ≠ 32)) := by
  have hr : r = SX.S r.cps.toList := (SX.S_tl r).symm
  generalize r.cps.toList = a at hr
  subst hr
  have e : Txt.split (SX.S a) " " = (TL.spl [32] 0 [] a).map SX.S := SX.split_S (b := [32]) (by decide) (by decide)
  rw [e]
  have ha : a.takeWhile (fun c => decide (c ≠ 32)) ++ a.dropWhile (fun c => decide (c ≠ 32)) = a := List.takeWhile_append_dropWhile
  have h32 : 32 ∉ a.takeWhile (fun c => decide (c ≠ 32)) := tw_not a
  cases hd : a.dropWhile (fun c => decide (c ≠ 32)) with
  | nil =>
    rw [hd, List.append_nil] at ha
    rw [ha] at h32 ⊢
    have := SX.spl_join (c := 32) (sep := []) (parts := [a]) (by simp) (by simpa using h32)
    have e2 : TL.joinL [32] [a] = a := rfl
    rw [e2] at this
    rw [this]
    rfl
  | cons c q =>
    have hc : c = 32 := by
      have := List.head?_dropWhile_not (fun c => decide (c ≠ 32)) a
      rw [hd] at this
      simpa using this
    subst hc
    have e3 : TL.spl [32] 0 [] a = a.takeWhile (fun c => decide (c ≠ 32)) :: TL.spl [32] 0 [] q := by
      have := SX.spl_free (sep := [32]) (p := a.takeWhile (fun c => decide (c ≠ 32))) q (by simp) (SX.free_head h32)
      rw [show a.takeWhile (fun c => decide (c ≠ 32)) ++ ([32] ++ q) = a by rw [hd] at ha; exact ha] at this
      exact this
    rw [e3]
    rfl

end Ly
namespace Ly
open PySem PySem.Spec PyProof.Rows L2
theorem name_short {n : Str} (h : isName n = true) : n.length ≤ 8 ∧ ∀ c ∈ n.cps.toList, c < 128 := by
  unfold isName madeOf at h
  rw [Bool.and_eq_true, Bool.and_eq_true, Bool.and_eq_true] at h
  obtain ⟨⟨_, h2, h3⟩, _⟩ := h
  have h2 := of_decide_eq_true h2
  refine ⟨by omega, fun c hc => ?_⟩
  have := of_decide_eq_true (List.all_eq_true.mp h3 c hc)
  have e : ∀ c ∈ (Str.ofString "abcdefghijklmnopqrstuvwxyz").cps.toList, c < 128 := by decide +kernel
  exact e c this

end Ly
namespace Ly
open PySem PySem.Spec PyProof.Rows L2
/-! ### the law's names: _law_names -/
theorem perm_map {α β : Type} {f : α → β} : ∀ {ys l : List β}, ys.Perm l → ∀ xs : List α, l = xs.map f → ∃ zs : List α, ys = zs.map f ∧ zs.Perm xs := by
  intro ys l h
  induction h with
  | nil =>
    intro xs e
    cases xs with
    | nil => exact ⟨[], rfl, .refl _⟩
    | cons a r => cases e
  | cons x h ih =>
    intro xs e
    cases xs with
    | nil => cases e
    | cons a r =>
      rw [List.map_cons] at e
      injection e with e1 e2
      obtain ⟨zs, h1, h2⟩ := ih r e2
      exact ⟨a :: zs, by rw [List.map_cons, h1, e1], h2.cons a⟩
  | swap x y l =>
    intro xs e
    cases xs with
    | nil => cases e
    | cons a r =>
      cases r with
      | nil =>
        rw [List.map_cons] at e
        injection e with e1 e2
        cases e2
      | cons b r =>
        rw [List.map_cons, List.map_cons] at e
        injection e with e1 e2
        injection e2 with e2 e3
        exact ⟨b :: a :: r, by rw [List.map_cons, List.map_cons, e1, e2, e3], .swap _ _ _⟩
  | trans _ _ ih1 ih2 =>
    intro xs e
    obtain ⟨zs, h1, h2⟩ := ih2 xs e
    obtain ⟨us, h3, h4⟩ := ih1 zs h1
    exact ⟨us, h3, h4.trans h2⟩
theorem cutTo (xs : List V) (n : Nat) : cutV xs none (some (n : Int)) = xs.take n := by
  unfold cutV
  show (xs.drop 0).take (HT.sIx xs.length xs.length (some ((n : Nat) : Int)) - 0) = _
  rw [HT.sIx_nat, List.drop_zero, Nat.sub_zero]
  by_cases h : n ≤ xs.length
  · rw [Nat.min_eq_left h]
  · rw [Nat.min_eq_right (by omega), List.take_of_length_le (Nat.le_refl _), List.take_of_length_le (by omega)]
def nm0 (f k : Nat) : Str := ⟨#[97 + (f + 7 * k) % 26]⟩
def nm1 (f k : Nat) : Str := Txt.mul ⟨#[97 + f]⟩ ((k : Int) + 1)
def nm2 (z : Str) : Str := Str.ofString "kqzjxvw" ++ z
def nm3 : List Str := Txt.split "main ended says gates keep jobs walks notes" " "
def nmsOf (f form : Nat) : List Str :=
  if form = 1 then (List.range 8).map (nm1 f) else if form = 2 then ((List.range 8).map (nm0 f)).map nm2 else if form = 3 then nm3 else (List.range 8).map (nm0 f)
def nodupB : List Str → Bool
  | [] => true
  | x :: xs => !decide (x ∈ xs) && nodupB xs
theorem nodupB_ok : ∀ {xs : List Str}, nodupB xs = true → xs.Nodup
  | [], _ => List.nodup_nil
  | x :: xs, h => by
    unfold nodupB at h
    rw [Bool.and_eq_true] at h
    refine List.nodup_cons.mpr ⟨fun m => ?_, nodupB_ok h.2⟩
    rw [decide_eq_true m] at h
    cases h.1
def nmsB (f form : Nat) : Bool := nodupB (nmsOf f form) && (decide ((nmsOf f form).length = 8) && (nmsOf f form).all isName)
theorem nms_all : ((List.range 26).all fun f => (List.range 5).all fun form => nmsB f form) = true := by decide +kernel
theorem nms_ok {f form : Nat} (hf : f < 26) (hm : form < 5) : (nmsOf f form).Nodup ∧ (nmsOf f form).length = 8 ∧ ∀ x ∈ nmsOf f form, isName x = true := by
  have h := List.all_eq_true.mp (List.all_eq_true.mp nms_all f (List.mem_range.mpr hf)) form (List.mem_range.mpr hm)
  unfold nmsB at h
  rw [Bool.and_eq_true, Bool.and_eq_true] at h
  exact ⟨nodupB_ok h.1, of_decide_eq_true h.2.1, fun x hx => List.all_eq_true.mp h.2.2 x hx⟩
theorem abc_at {i : Nat} (h : i < 26) : (Str.ofString "abcdefghijklmnopqrstuvwxyz").cps.toList[i]? = some (97 + i) := by
  have : ((List.range 26).all fun i => decide ((Str.ofString "abcdefghijklmnopqrstuvwxyz").cps.toList[i]? = some (97 + i))) = true := by decide +kernel
  exact of_decide_eq_true (List.all_eq_true.mp this i (List.mem_range.mpr h))
section
variable {P : Program} {w : World} {K : PySem.W.Frag} {mg : Str → Option Value} {base : Heap}
def spNms : Sp := fun vs H Q _ => ∃ (b : Addr) (many : Nat), vs = [.ref b, .int (many : Nat)] ∧ many ≤ 8 ∧ (∃ c s n : Int, H b = some (.lst [.int c, .int s, .int n])) ∧ ∀ p (xs : List Str) H', Bx b H H' → H p = none → H' p = some (.lst (xs.map V.str)) → xs.length = many → xs.Nodup → (∀ x ∈ xs, isName x = true) → Q (.ref p) H'
abbrev N_nms : List Str := ["_law_box_here", "_law_many", "_law_letters", "_law_first", "_law_form", "_law_found", "_law_k", "_law_letter"]
theorem sc_nms : FnScope N_nms ["_law_box_here", "_law_many"] (defScope s_law_names) := ⟨rfl, rfl, rfl, by decide +kernel, rfl, by decide +kernel, by decide +kernel⟩
theorem ok_nms (T : Hd K mg) : LyC.Cl CX0 P w K mg base 3 "_law_names" spNms [] := by
  obtain ⟨fd, F⟩ := T.f_law_names
  refine ⟨_, fd, ["_law_box_here", "_law_many"], [], F.ok sc_nms (fun vs H Q E h => ?_) (fun cdv A outer s H vs Q E hr h => ?_), T.g_law_names, F.kp, F.bindsN fun _ _ _ _ _ _ us hl => match us, hl with | [_, _], _ => rfl, .nil⟩
  · obtain ⟨b, many, rfl, _⟩ := h
    rfl
  · obtain ⟨b, many, rfl, hm, hb, k⟩ := h
    obtain ⟨tT, hT, gT⟩ : ∃ t, PSs (cxOf CX0 P w K mg base N_nms "_law_names" (defScope s_law_names) (d_law_names.at_ K) cdv A outer s H E) ((defBody s_law_names).drop 5) t ∧
        ∀ (v2 v3 v4 v6 v7 : Option V) (D : Addr) (xs : List Str) (Hc : Hp), Bx b H Hc → Hc D = some (.lst (xs.map V.str)) → xs.length = 8 → xs.Nodup → (∀ x ∈ xs, isName x = true) →
          t { nx := fun _ H' => Q .non H', rt := Q } [some (.ref b), some (.int (many : Nat)), v2, v3, v4, some (.ref D), v6, v7] Hc := by
      refine ⟨_, (pss_one (ps_ret (pe_slice sl_list (LyC.pe_f (ok_mixed T) hr (pa_cons (pv 0) (pa_cons (pv 5) pa_nil))) po_none (po_some (pv 1))))), ?_⟩
      intro v2 v3 v4 v6 v7 D xs Hc B hD hl hn hx
      refine ⟨_, rfl, _, rfl, b, D, _, rfl, .inl (SqL.of hD), (by rw [List.length_map]; omega), B.bx, fun p ys H1 pm np B1 hp => ?_⟩
      obtain ⟨zs, rfl, pz⟩ := perm_map pm xs rfl
      refine ⟨_, rfl, _, rfl, p, _, rfl, SqL.of hp, fun q nq => ?_⟩
      have B2 := (B.trans B1).new (o := .lst (cutV (zs.map V.str) none (some (many : Int)))) nq
      have nq0 : H q = none := by
        cases e : H q with
        | none => rfl
        | some o =>
          by_cases hqb : q = b
          · subst hqb
            obtain ⟨c, z, n, e⟩ := (B.trans B1).bx
            rw [e] at nq
            cases nq
          · rw [(B.trans B1).keep q o hqb e] at nq
            cases nq
      refine k q (zs.take many) _ B2 nq0 ?_ ?_ ?_ ?_
      · rw [upd_same, cutTo, ← List.map_take]
      · rw [List.length_take, pz.length_eq, hl]
        omega
      · exact ((pz.nodup_iff).mpr hn).sublist (List.take_sublist _ _)
      · intro x hx'
        exact hx x (pz.mem_iff.mp (List.mem_of_mem_take hx'))
    refine ⟨_, (pss_cons (ps_asg (pe_tup (pa_cons pe_str (pa_cons (LyC.pe_f (ok_tk T) hr (pa_cons (pv 0) (pa_cons pe_int pa_nil))) (pa_cons (LyC.pe_f (ok_tk T) hr (pa_cons (pv 0) (pa_cons pe_int pa_nil))) pa_nil)))) (pg_tup (n := 3) rfl (pgs_cons (pg_name (i := 2) sc_nms.nd rfl (Or.inr rfl)) (pgs_cons (pg_name (i := 3) sc_nms.nd rfl (Or.inr rfl)) (pgs_cons (pg_name (i := 4) sc_nms.nd rfl (Or.inl rfl)) pgs_nil)))))
      (pss_cons (ps_setLc (i := 5) (own := [("_law_k", 6)]) (g := gName 6) (tt := tYes) rfl sc_nms.nd rfl rfl (sw_true rfl rfl rfl (by decide +kernel)) (pi_range1 rfl T.n_range (pa_cons pe_int pa_nil)) (blkOk_by (N := N_nms) (sc := defScope s_law_names) (by decide +kernel)) (fun _ _ _ _ _ => (pg_name (i := 6) sc_nms.nd rfl (Or.inl rfl))) (fun _ _ _ _ _ => pts_nil) (fun _ _ _ _ _ => (pe_ix ix_str (pv 2) (pe_op op_mod (pe_callTy call_int1 (by rfl) T.n_int (by decide +kernel) (pa_cons (pe_op op_add (pv 3) (pe_op op_mul pe_int (pv 6))) pa_nil)) pe_int) (fun _ _ => rfl))))
      (pss_cons (ps_if (pt_cmpR op_eq (pv 4) pe_int (nomark _))
        (pss_one (ps_setLc (i := 5) (own := [("_law_k", 6)]) (g := gName 6) (tt := tYes) rfl sc_nms.nd rfl rfl (sw_true rfl rfl rfl (by decide +kernel)) (pi_range1 rfl T.n_range (pa_cons pe_int pa_nil)) (blkOk_by (N := N_nms) (sc := defScope s_law_names) (by decide +kernel)) (fun _ _ _ _ _ => (pg_name (i := 6) sc_nms.nd rfl (Or.inl rfl))) (fun _ _ _ _ _ => pts_nil) (fun _ _ _ _ _ => (pe_op LyS.op_repS (pe_ix ix_str (pv 2) (pv 3) (fun _ _ => rfl)) (pe_op op_add (pv 6) pe_int)))))
        pss_nil)
      (pss_cons (ps_if (pt_cmpR op_eq (pv 4) pe_int (nomark _))
        (pss_one (ps_setLc (i := 5) (own := [("_law_letter", 7)]) (g := gName 7) (tt := tYes) rfl sc_nms.nd rfl rfl (sw_true rfl rfl rfl (by decide +kernel)) (pi_list (pv 5)) (blkOk_by (N := N_nms) (sc := defScope s_law_names) (by decide +kernel)) (fun _ _ _ _ _ => (pg_name (i := 7) sc_nms.nd rfl (Or.inl rfl))) (fun _ _ _ _ _ => pts_nil) (fun _ _ _ _ _ => (pe_op op_add_str pe_str (pv 7)))))
        pss_nil)
      (pss_cons (ps_if (pt_cmpR op_eq (pv 4) pe_int (nomark _))
        (pss_one (ps_set (i := 5) sc_nms.nd rfl (Or.inl rfl) (pe_split pe_str pe_str)))
        pss_nil)
      hT))))), ?_⟩
    have three : 3 ≤ sizeLine := by decide
    refine ⟨_, rfl, b, 26, rfl, by decide, by decide, hb, fun d H1 d0 d1 B1 => ?_⟩
    refine ⟨_, rfl, b, 5, rfl, by decide, by decide, B1.bx, fun f H2 f0 f1 B2 => ⟨three, fun t ht => ?_⟩⟩
    obtain ⟨fi, rfl⟩ := Int.eq_ofNat_of_zero_le d0
    obtain ⟨fo, rfl⟩ := Int.eq_ofNat_of_zero_le f0
    have hfi : fi < 26 := by omega
    have hfo : fo < 5 := by omega
    obtain ⟨q1, q2, q3⟩ := nms_ok hfi hfo
    have B3 := (B1.trans B2).new (o := .tup [V.str "abcdefghijklmnopqrstuvwxyz", V.int fi, V.int fo]) ht
    refine ⟨t, _, rfl, SqT.of upd_same, rfl, _, _, rfl, _, _, rfl, _, _, rfl, rfl, ?_⟩
    refine ⟨8, rfl, by decide, by decide, fun D hD => ?_⟩
    refine lc_it walk_range (LyC.LcP _ D (LyC.mapTo (fun i => V.str (nm0 fi i)) (List.range 8))) (LyC.lcp0 hD rfl) (fun _ _ _ _ => trivial) ?_ ?_
    · rintro i x Ha Hb hi ⟨s1, e1⟩ ⟨rfl, rfl⟩
      have hi8 : i < 8 := hi
      have hat : atI (Str.ofString "abcdefghijklmnopqrstuvwxyz").cps.toList (((fi : Int) + 7 * (0 + (i : Nat))) % 26) = some (97 + (fi + 7 * i) % 26) := by
        have e : ((fi : Int) + 7 * (0 + (i : Nat))) % 26 = (((fi + 7 * i) % 26 : Nat) : Int) := by omega
        rw [e]
        exact atI_nat (abc_at (Nat.mod_lt _ (by decide)))
      refine ⟨rfl, _, rfl, _, rfl, _, rfl, _, _, rfl, rfl, .inl ⟨by decide, by decide⟩, _, _, rfl, rfl, .inl ⟨_, rfl, _, _, rfl, rfl, (show (0 : Int) < 26 by decide), _, _, _, rfl, rfl, (by decide +kernel), hat, ?_⟩⟩
      refine LyC.lcp_next hD s1 e1 (Nat.lt_of_le_of_lt (LyC.mapTo_len _ _ _) (by rw [sizeLine_eq, List.length_range]; omega)) (LyC.mapTo_next (x := i) ?_)
      exact List.getElem?_range hi
    · rintro Ha ⟨s1, e1⟩
      have e2 : Ha D = some (.lst (((List.range 8).map (nm0 fi)).map V.str)) := by
        rw [e1, show Int.toNat 8 = 8 from rfl]
        have := LyC.mapTo_all (fun i => V.str (nm0 fi i)) (List.range 8)
        rw [List.length_range] at this
        rw [this, List.map_map]
        rfl
      have B4 : Bx b H Ha := B3.same s1
      refine ⟨_, rfl, rfl, _, rfl, ?_⟩
      match fo, hfo, q1, q2, q3 with
      | 1, _, q1, q2, q3 =>
        refine iteT ⟨8, rfl, by decide, by decide, fun D2 hD2 => ?_⟩
        refine lc_it walk_range (LyC.LcP _ D2 (LyC.mapTo (fun i => V.str (nm1 fi i)) (List.range 8))) (LyC.lcp0 hD2 rfl) (fun _ _ _ _ => trivial) ?_ ?_
        · rintro i x Ha2 Hb hi ⟨s2, e3⟩ ⟨rfl, rfl⟩
          have hi8 : i < 8 := hi
          refine ⟨rfl, _, rfl, _, rfl, _, _, _, rfl, rfl, (by decide +kernel), atI_nat (abc_at hfi), _, rfl, _, _, rfl, rfl, _, _, rfl, rfl, by omega, by omega, by show 1 ≤ 1000; decide, ?_⟩
          have ee : (0 + (i : Int) + 1) = (i : Int) + 1 := by omega
          rw [ee]
          refine LyC.lcp_next hD2 s2 e3 (Nat.lt_of_le_of_lt (LyC.mapTo_len _ _ _) (by rw [sizeLine_eq, List.length_range]; omega)) (LyC.mapTo_next (x := i) ?_)
          exact List.getElem?_range hi
        · rintro Ha2 ⟨s2, e3⟩
          have e4 : Ha2 D2 = some (.lst ((nmsOf fi 1).map V.str)) := by
            rw [e3, show Int.toNat 8 = 8 from rfl]
            have := LyC.mapTo_all (fun i => V.str (nm1 fi i)) (List.range 8)
            rw [List.length_range] at this
            rw [this]
            show _ = some (HO.lst (((List.range 8).map (nm1 fi)).map V.str))
            rw [List.map_map]
            rfl
          refine ⟨_, rfl, rfl, _, rfl, iteF ⟨_, rfl, rfl, _, rfl, iteF ?_⟩⟩
          exact gT _ _ _ _ _ D2 _ Ha2 (B4.same s2) e4 q2 q1 q3
      | 2, _, q1, q2, q3 =>
        refine iteF ⟨_, rfl, rfl, _, rfl, iteT ⟨_, rfl, D, rfl, ⟨_, SqL.of e2⟩, fun D2 hD2 => ?_⟩⟩
        refine lc_it (walk_list (K := K) (a := D) (xs := ((List.range 8).map (nm0 fi)).map V.str)) (LyC.LcP _ D2 (LyC.mapTo (fun z => V.str (nm2 z)) ((List.range 8).map (nm0 fi)))) (LyC.lcp0 hD2 rfl) (fun i Hx _ z => SqL.of (z.1 _ _ e2)) ?_ ?_
        · rintro i x Ha2 Hb hi ⟨s2, e3⟩ ⟨rfl, hx⟩
          rw [List.getElem?_map] at hx
          obtain ⟨z, hz, rfl⟩ := Option.map_eq_some_iff.mp hx
          have hz1 : z.length = 1 := by
            rw [List.getElem?_map] at hz
            obtain ⟨j, _, rfl⟩ := Option.map_eq_some_iff.mp hz
            rfl
          refine ⟨rfl, _, rfl, _, _, rfl, rfl, (by rw [hz1]; decide +kernel), ?_⟩
          exact LyC.lcp_next hD2 s2 e3 (Nat.lt_of_le_of_lt (LyC.mapTo_len _ _ _) (by rw [sizeLine_eq, List.length_map, List.length_range]; omega)) (LyC.mapTo_next hz)
        · rintro Ha2 ⟨s2, e3⟩
          have e4 : Ha2 D2 = some (.lst ((nmsOf fi 2).map V.str)) := by
            rw [e3]
            have := LyC.mapTo_all (fun z => V.str (nm2 z)) ((List.range 8).map (nm0 fi))
            rw [List.length_map, List.length_range] at this
            rw [List.length_map, List.length_map, List.length_range, this]
            show _ = some (HO.lst ((((List.range 8).map (nm0 fi)).map nm2).map V.str))
            rw [List.map_map (f := nm2)]
            rfl
          refine ⟨_, rfl, rfl, _, rfl, iteF ?_⟩
          exact gT _ _ _ _ _ D2 _ Ha2 (B4.same s2) e4 q2 q1 q3
      | 3, _, q1, q2, q3 =>
        refine iteF ⟨_, rfl, rfl, _, rfl, iteF ⟨_, rfl, rfl, _, rfl, iteT ⟨⟨_, rfl⟩, _, _, rfl, rfl, (by decide +kernel), (by decide +kernel), fun D2 hD2 => ?_⟩⟩⟩
        exact gT _ _ _ _ _ D2 nm3 _ (B4.new hD2) upd_same q2 q1 q3
      | 0, _, q1, q2, q3 =>
        refine iteF ⟨_, rfl, rfl, _, rfl, iteF ⟨_, rfl, rfl, _, rfl, iteF ?_⟩⟩
        exact gT _ _ _ _ _ D _ Ha B4 e2 q2 q1 q3
      | 4, _, q1, q2, q3 =>
        refine iteF ⟨_, rfl, rfl, _, rfl, iteF ⟨_, rfl, rfl, _, rfl, iteF ?_⟩⟩
        exact gT _ _ _ _ _ D _ Ha B4 e2 q2 q1 q3
      | n + 5, h, _, _, _ => exact absurd h (by omega)
end

end Ly
namespace Ly
open PySem PySem.Spec PyProof.Rows L2
/-! ### drawn programs: what the law's generator makes -/
structure Gw where
  sort : Str
  jobs : List Str
  gates : List Str
  notes : List Str
  known : List Str
structure Wd where
  g : Gw
  walks : List Str
  left : Nat
  aj : Addr
  ak : Addr
  aw : Addr
  ag : Addr
  an : Addr
def wkv (d : Wd) : List (Key × V) := [(Sum.inr "jobs", .ref d.aj), (Sum.inr "sort", .str d.g.sort), (Sum.inr "left", .int (d.left : Nat)), (Sum.inr "deep", .int 4), (Sum.inr "known", .ref d.ak), (Sum.inr "walks", .ref d.aw), (Sum.inr "gates", .ref d.ag), (Sum.inr "notes", .ref d.an)]
/-- a row, or rows of blocks, with how many were asked for -/
inductive Gr (g : Gw) : Bool → List Str → Nat → Nat → List Str → Prop
  | nil (late kept dp) : Gr g late kept dp 0 []
  | app {late kept dp m n a b} : Gr g late kept dp m a → Gr g late kept dp n b → Gr g late kept dp (m + n) (a ++ b)
  | give (kept dp) : g.sort = "walk" → Gr g false kept dp 1 ["give"]
  | pause (late kept dp) : Gr g late kept dp 1 ["pause"]
  | begin_ (late kept dp) {j} : j ∈ g.jobs → Gr g late kept dp 1 [Str.ofString "begin " ++ j]
  | gate (late kept dp) {wd x} : wd ∈ (["wait", "open"] : List Str) → x ∈ g.gates → Gr g late kept dp 1 [(wd ++ " ") ++ x]
  | note (late kept dp) {wd x} : wd ∈ (["say", "fail"] : List Str) → x ∈ g.notes → Gr g late kept dp 1 [(wd ++ " ") ++ x]
  | rep {late kept dp n rs} {t : Str} : dp < 4 → t ∈ (["1", "2", "3"] : List Str) → Gr g late kept (dp + 1) n rs → Gr g late kept dp (n + 1) ([Str.ofString "repeat " ++ t] ++ rs ++ [Str.ofString "end"])
  | guard {late kept dp m n a b} {wd : Str} : dp < 4 → wd ∈ (["late", "mend"] : List Str) → Gr g late kept (dp + 1) m a → Gr g (late || decide (wd = "late")) kept (dp + 1) n b → Gr g late kept dp (m + n + 1) ([Str.ofString "guard"] ++ a ++ [wd] ++ b ++ [Str.ofString "end"])
  | each {late kept dp n rs} {wk how t : Str} : dp < 4 → wk ∈ g.known → how ∈ (["closed", "dropped", "kept"] : List Str) → (how = "kept" → g.sort = "job" ∧ wk ∉ kept) → t ∈ (["", " 1", " 2", " 3"] : List Str) →
      Gr g late (if how = "kept" then kept ++ [wk] else kept) (dp + 1) n rs → Gr g late kept dp (n + 1) ([(((Str.ofString "each " ++ wk) ++ " ") ++ how) ++ t] ++ rs ++ [Str.ofString "end"])
theorem Gr.len {g : Gw} {late : Bool} {kept : List Str} {dp n : Nat} {rs : List Str} (h : Gr g late kept dp n rs) : rs.length ≤ 3 * n := by
  induction h with
  | nil => exact Nat.le_refl _
  | app _ _ h1 h2 => rw [List.length_append]; omega
  | give => show 1 ≤ 3; decide
  | pause => show 1 ≤ 3; decide
  | begin_ => show 1 ≤ 3; decide
  | gate => show 1 ≤ 3; decide
  | note => show 1 ≤ 3; decide
  | rep _ _ _ h => rw [List.length_append, List.length_append]; simp only [List.length_cons, List.length_nil]; omega
  | guard _ _ _ _ h1 h2 => rw [List.length_append, List.length_append, List.length_append, List.length_append]; simp only [List.length_cons, List.length_nil]; omega
  | each _ _ _ _ _ _ h => rw [List.length_append, List.length_append]; simp only [List.length_cons, List.length_nil]; omega
/-- names that are some, and few -/
structure NmOk (xs : List Str) : Prop where
  few : xs.length ≤ 20
  nm : ∀ x ∈ xs, isName x = true
structure Wd.Ok (d : Wd) : Prop where
  jobs : NmOk d.g.jobs
  gates : NmOk d.g.gates
  notes : NmOk d.g.notes
  known : NmOk d.g.known
  j0 : d.g.jobs ≠ []
  g0 : d.g.gates ≠ []
  n0 : d.g.notes ≠ []
  left : d.left ≤ 100
theorem Wd.Ok.less {d : Wd} (h : d.Ok) {n : Nat} (hn : n ≤ d.left) : Wd.Ok { d with left := n } := ⟨h.jobs, h.gates, h.notes, h.known, h.j0, h.g0, h.n0, Nat.le_trans hn h.left⟩
/-- the world in the heap, beside the box -/
structure WS (H : Hp) (b W : Addr) (d : Wd) : Prop where
  dc : H W = some (.dK (wkv d))
  hj : H d.aj = some (.lst (d.g.jobs.map V.str))
  hk : H d.ak = some (.lst (d.g.known.map V.str))
  hw : H d.aw = some (.lst (d.walks.map V.str))
  hg : H d.ag = some (.lst (d.g.gates.map V.str))
  hn : H d.an = some (.lst (d.g.notes.map V.str))
  bx : ∃ c s n : Int, H b = some (.lst [.int c, .int s, .int n])
theorem strs_ne_box {H : Hp} {p b : Addr} {xs : List Str} (h1 : H p = some (.lst (xs.map V.str))) (h2 : ∃ c s n : Int, H b = some (.lst [.int c, .int s, .int n])) : p ≠ b := by
  rintro rfl
  obtain ⟨c, s, n, h2⟩ := h2
  rw [h1] at h2
  cases xs with
  | nil => cases h2
  | cons x xs => cases h2
theorem dk_ne_box {H : Hp} {p b : Addr} {xs : List (Key × V)} (h1 : H p = some (.dK xs)) (h2 : ∃ c s n : Int, H b = some (.lst [.int c, .int s, .int n])) : p ≠ b := by
  rintro rfl
  obtain ⟨c, s, n, h2⟩ := h2
  rw [h1] at h2
  cases h2
theorem strs_ne_dk {H : Hp} {p W : Addr} {xs : List V} {kv : List (Key × V)} (h1 : H p = some (.lst xs)) (h2 : H W = some (.dK kv)) : p ≠ W := by
  rintro rfl
  rw [h1] at h2
  cases h2
/-- the box and the world may have changed, all else stays -/
def Fw (b W : Addr) (H H' : Hp) : Prop := ∀ x o, x ≠ b → x ≠ W → H x = some o → H' x = some o
section
variable {b W p q : Addr} {H H0 H1 H2 H' : Hp} {d d0 : Wd} {xs : List Str} {o : HO}
theorem Fw.refl : Fw b W H H := fun _ _ _ _ e => e
theorem Fw.trans (x : Fw b W H H1) (y : Fw b W H1 H2) : Fw b W H H2 := fun a o n1 n2 e => y a o n1 n2 (x a o n1 n2 e)
theorem Fw.bx (x : Fw b W H H1) (y : Bx b H1 H2) : Fw b W H H2 := fun a o n1 n2 e => y.keep a o n1 (x a o n1 n2 e)
theorem Fw.same (x : Fw b W H H1) (y : Same H1 H2) : Fw b W H H2 := fun a o n1 n2 e => y a o (x a o n1 n2 e)
theorem Fw.put (x : Fw b W H H1) (h : H p = none) : Fw b W H (upd H1 p o) := fun a u n1 n2 e => by
  rw [upd_ne (ne_of_none e h)]
  exact x a u n1 n2 e
theorem Fw.world (x : Fw b W H H1) : Fw b W H (upd H1 W o) := fun a u n1 n2 e => by
  rw [upd_ne n2]
  exact x a u n1 n2 e
theorem WS.ls (S : WS H b W d) (f : Fw b W H H') (h : H q = some (.lst (xs.map V.str))) : H' q = some (.lst (xs.map V.str)) := f q _ (strs_ne_box h S.bx) (strs_ne_dk h S.dc) h
theorem WS.ls' (S : WS H b W d) (y : Bx b H H') (h : H q = some (.lst (xs.map V.str))) : H' q = some (.lst (xs.map V.str)) := y.keep q _ (strs_ne_box h S.bx) h
theorem WS.same (S : WS H b W d) (s : Same H H') : WS H' b W d := by
  obtain ⟨c, z, n, e⟩ := S.bx
  exact ⟨s _ _ S.dc, s _ _ S.hj, s _ _ S.hk, s _ _ S.hw, s _ _ S.hg, s _ _ S.hn, c, z, n, s _ _ e⟩
theorem WS.new (S : WS H b W d) (h : H p = none) : WS (upd H p o) b W d := S.same (LyC.same_new h)
theorem WS.draw (S : WS H b W d) (y : Bx b H H') : WS H' b W d := ⟨y.keep _ _ (dk_ne_box S.dc S.bx) S.dc, S.ls' y S.hj, S.ls' y S.hk, S.ls' y S.hw, S.ls' y S.hg, S.ls' y S.hn, y.bx⟩
/-- an object that is new since H0 is written -/
theorem WS.put (S : WS H b W { d0 with left := n }) (S0 : WS H0 b W d0) (h : H0 p = none) : WS (upd H p o) b W { d0 with left := n } := by
  obtain ⟨c, z, m, e⟩ := S.bx
  obtain ⟨c0, z0, m0, e0⟩ := S0.bx
  refine ⟨?_, ?_, ?_, ?_, ?_, ?_, c, z, m, ?_⟩
  · rw [upd_ne (ne_of_none S0.dc h)]; exact S.dc
  · rw [upd_ne (ne_of_none S0.hj h)]; exact S.hj
  · rw [upd_ne (ne_of_none S0.hk h)]; exact S.hk
  · rw [upd_ne (ne_of_none S0.hw h)]; exact S.hw
  · rw [upd_ne (ne_of_none S0.hg h)]; exact S.hg
  · rw [upd_ne (ne_of_none S0.hn h)]; exact S.hn
  · rw [upd_ne (ne_of_none e0 h)]; exact e
theorem put_left (d : Wd) (n : Nat) : putK (wkv d) (Sum.inr "left") (.int (n : Nat)) = wkv { d with left := n } := by kernel_rfl
theorem WS.left_ (S : WS H b W d) {v : Int} (n : Nat) (hv : v = (n : Nat)) : WS (upd H W (.dK (putK (wkv d) (Sum.inr "left") (.int v)))) b W { d with left := n } := by
  subst hv
  obtain ⟨c, z, m, e⟩ := S.bx
  refine ⟨?_, ?_, ?_, ?_, ?_, ?_, c, z, m, ?_⟩
  · rw [upd_same, put_left]
  · rw [upd_ne (strs_ne_dk S.hj S.dc)]; exact S.hj
  · rw [upd_ne (strs_ne_dk S.hk S.dc)]; exact S.hk
  · rw [upd_ne (strs_ne_dk S.hw S.dc)]; exact S.hw
  · rw [upd_ne (strs_ne_dk S.hg S.dc)]; exact S.hg
  · rw [upd_ne (strs_ne_dk S.hn S.dc)]; exact S.hn
  · rw [upd_ne (Ne.symm (dk_ne_box S.dc S.bx))]; exact e
theorem get_jobs (d : Wd) : valV (wkv d) (Sum.inr "jobs") = some (.ref d.aj) := by kernel_rfl
theorem get_sort (d : Wd) : valV (wkv d) (Sum.inr "sort") = some (.str d.g.sort) := by kernel_rfl
theorem get_left (d : Wd) : valV (wkv d) (Sum.inr "left") = some (.int (d.left : Nat)) := by kernel_rfl
theorem get_deep (d : Wd) : valV (wkv d) (Sum.inr "deep") = some (.int 4) := by kernel_rfl
theorem get_known (d : Wd) : valV (wkv d) (Sum.inr "known") = some (.ref d.ak) := by kernel_rfl
theorem get_walks (d : Wd) : valV (wkv d) (Sum.inr "walks") = some (.ref d.aw) := by kernel_rfl
theorem get_gates (d : Wd) : valV (wkv d) (Sum.inr "gates") = some (.ref d.ag) := by kernel_rfl
theorem get_notes (d : Wd) : valV (wkv d) (Sum.inr "notes") = some (.ref d.an) := by kernel_rfl
theorem WS.gJobs (S : WS H b W d) : DGet H W (.str "jobs") (some (.ref d.aj)) := get_jobs d ▸ DGet.k (k := Sum.inr "jobs") S.dc
theorem WS.gSort (S : WS H b W d) : DGet H W (.str "sort") (some (.str d.g.sort)) := get_sort d ▸ DGet.k (k := Sum.inr "sort") S.dc
theorem WS.gLeft (S : WS H b W d) : DGet H W (.str "left") (some (.int (d.left : Nat))) := get_left d ▸ DGet.k (k := Sum.inr "left") S.dc
theorem WS.gDeep (S : WS H b W d) : DGet H W (.str "deep") (some (.int 4)) := get_deep d ▸ DGet.k (k := Sum.inr "deep") S.dc
theorem WS.gKnown (S : WS H b W d) : DGet H W (.str "known") (some (.ref d.ak)) := get_known d ▸ DGet.k (k := Sum.inr "known") S.dc
theorem WS.gWalks (S : WS H b W d) : DGet H W (.str "walks") (some (.ref d.aw)) := get_walks d ▸ DGet.k (k := Sum.inr "walks") S.dc
theorem WS.gGates (S : WS H b W d) : DGet H W (.str "gates") (some (.ref d.ag)) := get_gates d ▸ DGet.k (k := Sum.inr "gates") S.dc
theorem WS.gNotes (S : WS H b W d) : DGet H W (.str "notes") (some (.ref d.an)) := get_notes d ▸ DGet.k (k := Sum.inr "notes") S.dc
end

end Ly
namespace Ly
open PySem PySem.Spec PyProof.Rows L2
/-! ### drawn programs: _law_rows, _law_row, _law_block -/
def ifThen : Stmt → List Stmt
  | .If _ b _ _ => b
  | _ => []
def forBody : Stmt → List Stmt
  | .For _ _ b _ _ => b
  | _ => []
theorem at_strs (xs : List Str) {j : Nat} (h : j < xs.length) : ∃ x ∈ xs, atI (xs.map V.str) (j : Int) = some (V.str x) :=
  ⟨xs[j], List.getElem_mem h, atI_nat (by rw [List.getElem?_map, List.getElem?_eq_getElem h]; rfl)⟩
theorem nm_len {xs : List Str} (h : NmOk xs) {x : Str} (hx : x ∈ xs) : x.length ≤ 8 := (name_short (h.nm x hx)).1
section
variable {P : Program} {w : World} {K : PySem.W.Frag} {mg : Str → Option Value} {base : Heap}
def spG (pd gd off : Nat) : Sp := fun vs H Q _ => ∃ (b W kp : Addr) (late : Bool) (kept : List Str) (d : Wd), vs = [.ref b, .ref W, .int (pd : Nat), .bl late, .ref kp] ∧ WS H b W d ∧ H kp = some (.lst (kept.map V.str)) ∧ d.Ok ∧ kept.length ≤ gd ∧
  ∀ p rs H' n, Fw b W H H' → WS H' b W { d with left := n } → n ≤ d.left → H' p = some (.lst (rs.map V.str)) → Gr d.g late kept gd (d.left - n + off) rs → Q (.ref p) H'
abbrev N_grows : List Str := ["_law_box_here", "_law_world_here", "_law_deep", "_law_is_late", "_law_kept", "_law_found", "_law_turn"]
theorem sc_grows : FnScope N_grows ["_law_box_here", "_law_world_here", "_law_deep", "_law_is_late", "_law_kept"] (defScope s_law_rows) := ⟨rfl, rfl, rfl, by decide +kernel, rfl, by decide +kernel, by decide +kernel⟩
theorem ok_grows (T : Hd K mg) {k dp : Nat} (hk1 : 1 ≤ k) (hdp : dp ≤ 4) (Rw : LyC.Cl CX0 P w K mg base k "_law_row" (spG dp dp 1) []) : LyC.Cl CX0 P w K mg base (k + 1) "_law_rows" (spG dp dp 0) [] := by
  obtain ⟨fd, F⟩ := T.f_law_rows
  refine ⟨_, fd, ["_law_box_here", "_law_world_here", "_law_deep", "_law_is_late", "_law_kept"], [], F.ok sc_grows (fun vs H Q E h => ?_) (fun cdv A outer s H vs Q E hr h => ?_), T.g_law_rows, F.kp, F.bindsN fun _ _ _ _ _ _ us hl => match us, hl with | [_, _, _, _, _], _ => rfl, .nil⟩
  · obtain ⟨b, W, kp, late, kept, d, rfl, _⟩ := h
    rfl
  · obtain ⟨b, W, kp, late, kept, d, rfl, S, hkp, ok, hkl, k⟩ := h
    refine ⟨_, (pss_cons (ps_set (i := 5) sc_grows.nd rfl (Or.inl rfl) (pe_lst pa_nil))
      (pss_cons (ps_for (passes_of rfl) rfl (pi_range1 rfl T.n_range (pa_cons (LyC.pe_f (ok_tk T) hr (pa_cons (pv 0) (pa_cons pe_int pa_nil)) (hk := hk1)) pa_nil)) (pg_name (i := 6) sc_grows.nd rfl (Or.inl rfl))
        (pss_one (ps_if (pt_cmpR op_gt (pe_dget (hu_of hr) (pv 1) pe_str (fun _ _ => rfl)) pe_int (nomark _))
          (pss_cons (ps_dput (hu_of hr) (pv 1) pe_str (pe_op op_sub (pe_dget (hu_of hr) (pv 1) pe_str (fun _ _ => rfl)) pe_int) rfl)
          (pss_one (ps_expr (pe_bm PySem.F.plainAttrs_list PySem.F.slot_list_extend PySem.F.type_list_extend mt_extend (pv 5) (pa_cons (LyC.pe_f Rw hr (pa_cons (pv 0) (pa_cons (pv 1) (pa_cons (pv 2) (pa_cons (pv 3) (pa_cons (pv 4) pa_nil))))) (hk := Nat.le_refl _)) pa_nil)))))
          pss_nil)))
      (pss_one (ps_ret (pv 5))))), ?_⟩
    refine ⟨Nat.zero_le _, fun Fd hF => ?_⟩
    have S1 : WS (upd H Fd (.lst [])) b W d := S.new hF
    refine ⟨_, rfl, b, 4, rfl, by decide, by decide, S1.bx, fun t H1 t0 t1 B1 => ?_⟩
    obtain ⟨m, rfl⟩ := Int.eq_ofNat_of_zero_le t0
    refine ⟨_, rfl, by omega, by omega, ?_⟩
    have f1 : Fw b W H H1 := (Fw.refl.put hF).bx B1
    have hF1 : H1 Fd = some (.lst (([] : List Str).map V.str)) := B1.keep _ _ (strs_ne_box (xs := []) upd_same S1.bx) upd_same
    refine for_range (n := m) (fun i σ Hc => ∃ (v6 : Option V) (n : Nat) (rs : List Str), σ = [some (.ref b), some (.ref W), some (.int (dp : Nat)), some (.bl late), some (.ref kp), some (.ref Fd), v6] ∧ Fw b W H Hc ∧ WS Hc b W { d with left := n } ∧ n ≤ d.left ∧ Hc Fd = some (.lst (rs.map V.str)) ∧ Gr d.g late kept dp (d.left - n) rs)
      ⟨none, d.left, [], rfl, f1, S1.draw B1, Nat.le_refl _, hF1, by rw [Nat.sub_self]; exact .nil _ _ _⟩ ?_ ?_
    · rintro i σ Hc hi ⟨v6, n, rs, rfl, f, Sc, hn, hFc, gr⟩
      refine ⟨_, rfl, W, _, rfl, Sc.gLeft, _, _, rfl, rfl, _, rfl, ite2 (fun c => ?_) (fun c => ?_)⟩
      · have hpos : ((n : Nat) : Int) > 0 := of_decide_eq_true c
        obtain ⟨n', rfl⟩ : ∃ n', n = n' + 1 := ⟨n - 1, by omega⟩
        refine ⟨_, rfl, W, _, rfl, Sc.gLeft, _, _, rfl, rfl, _, rfl, W, _, rfl, DPut.k (k := Sum.inr "left") Sc.dc (by show 8 < sizeLine; decide), ?_⟩
        have Sd := Sc.left_ (v := (((n' + 1 : Nat) : Int) - 1)) n' (by omega)
        have fd' : Fw b W H _ := f.world (o := .dK (putK (wkv { d with left := n' + 1 }) (Sum.inr "left") (.int (((n' + 1 : Nat) : Int) - 1))))
        have hFd : (upd Hc W (.dK (putK (wkv { d with left := n' + 1 }) (Sum.inr "left") (.int (((n' + 1 : Nat) : Int) - 1))))) Fd = some (.lst (rs.map V.str)) := by
          rw [upd_ne (strs_ne_dk hFc Sc.dc)]
          exact hFc
        refine ⟨_, rfl, .inl ⟨rfl, _, SqL.of hFd⟩, _, rfl, _, rfl, _, rfl, _, rfl, _, rfl, b, W, kp, late, kept, { d with left := n' }, rfl, Sd, S.ls fd' hkp, ok.less (by omega), hkl, fun p rs2 H2 n2 f2 S2 hn2 hp gr2 => ?_⟩
        have hn2' : n2 ≤ n' := hn2
        have hF2 := Sd.ls f2 hFd
        have l1 := gr.len
        have l2 := gr2.len
        have okl := ok.left
        have l3 : rs2.length ≤ 3 * (n' - n2 + 1) := l2
        have l4 : rs.length + rs2.length ≤ 1000 := by omega
        refine ⟨Fd, p, _, _, rfl, rfl, hF2, hp, (by rw [sizeLine_eq, List.length_map, List.length_map]; omega), ?_⟩
        refine ⟨_, n2, rs ++ rs2, rfl, (fd'.trans f2).put hF, S2.put (d0 := d) S hF, by omega, by rw [upd_same, List.map_append], ?_⟩
        have g3 := gr.app gr2
        have e2 : d.left - (n' + 1) + (n' - n2 + 1) = d.left - n2 := by omega
        have e3 : d.left - (n' + 1) + (({ d with left := n' } : Wd).left - n2 + 1) = d.left - n2 := e2
        rw [e3] at g3
        exact g3
      · exact ⟨_, n, rs, rfl, f, Sc, hn, hFc, gr⟩
    · rintro σ Hc ⟨v6, n, rs, rfl, f, Sc, hn, hFc, gr⟩
      exact ⟨_, rfl, k Fd rs Hc n f Sc hn hFc gr⟩
abbrev N_grow : List Str := ["_law_box_here", "_law_world_here", "_law_deep", "_law_is_late", "_law_kept", "_law_form", "_law_word"]
theorem sc_grow : FnScope N_grow ["_law_box_here", "_law_world_here", "_law_deep", "_law_is_late", "_law_kept"] (defScope s_law_row) := ⟨rfl, rfl, rfl, by decide +kernel, rfl, by decide +kernel, by decide +kernel⟩
theorem ok_grow (T : Hd K mg) {k dp : Nat} (hk2 : 2 ≤ k) (hdp : dp ≤ 4) {spB : Sp} (Rb : LyC.Cl CX0 P w K mg base k "_law_block" spB []) (hB : dp < 4 → ∀ vs H Q E, spG (dp + 1) dp 1 vs H Q E → spB vs H Q E) : LyC.Cl CX0 P w K mg base (k + 1) "_law_row" (spG dp dp 1) [] := by
  have hk1 : 1 ≤ k := by omega
  obtain ⟨fd, F⟩ := T.f_law_row
  refine ⟨_, fd, ["_law_box_here", "_law_world_here", "_law_deep", "_law_is_late", "_law_kept"], [], F.ok sc_grow (fun vs H Q E h => ?_) (fun cdv A outer s H vs Q E hr h => ?_), T.g_law_row, F.kp, F.bindsN fun _ _ _ _ _ _ us hl => match us, hl with | [_, _, _, _, _], _ => rfl, .nil⟩
  · obtain ⟨b, W, kp, late, kept, d, rfl, _⟩ := h
    rfl
  · obtain ⟨b, W, kp, late, kept, d, rfl, S, hkp, ok, hkl, k⟩ := h
    have one : 1 ≤ sizeLine := by decide
    have k1 : ∀ (p : Addr) (r : Str) (Hc : Hp), Bx b H Hc → Hc p = none → Gr d.g late kept dp 1 [r] → Q (.ref p) (upd Hc p (.lst [V.str r])) := fun p r Hc B hp gr =>
      k p [r] _ d.left ((Fw.refl.bx B).same (LyC.same_new hp)) ((S.draw B).new hp) (Nat.le_refl _) upd_same (by rw [Nat.sub_self]; exact gr)
    obtain ⟨tT, hT, gT⟩ : ∃ t, PSs (cxOf CX0 P w K mg base N_grow "_law_row" (defScope s_law_row) (d_law_row.at_ K) cdv A outer s H E) ((defBody s_law_row).drop 3) t ∧
        ∀ (v5 : Option V) (Hc : Hp), Bx b H Hc → t { nx := fun _ H' => Q .non H', rt := Q } [some (.ref b), some (.ref W), some (.int (dp : Nat)), some (.bl late), some (.ref kp), v5, none] Hc := by
      refine ⟨_, (pss_cons (ps_set (i := 6) sc_grow.nd rfl (Or.inl rfl) (pe_ix ix_list (pe_lst (pa_cons pe_str (pa_cons pe_str (pa_cons pe_str (pa_cons pe_str (pa_cons pe_str (pa_cons pe_str (pa_cons pe_str (pa_cons pe_str (pa_cons pe_str (pa_cons pe_str (pa_cons pe_str pa_nil)))))))))))) (LyC.pe_f (ok_tk T) hr (pa_cons (pv 0) (pa_cons pe_int pa_nil)) (hk := hk1)) (fun _ _ => rfl)))
        (pss_cons (ps_if (pt_cmpR op_eq (pv 6) pe_str (nomark _))
          (pss_one (ps_ret (pe_lst (pa_cons pe_str pa_nil))))
          pss_nil)
        (pss_cons (ps_if (pt_cmpR op_eq (pv 6) pe_str (nomark _))
          (pss_one (ps_ret (pe_lst (pa_cons (pe_op op_add_str pe_str (LyC.pe_f (ok_pick T) hr (pa_cons (pv 0) (pa_cons (pe_dget (hu_of hr) (pv 1) pe_str (fun _ _ => rfl)) pa_nil)) (hk := hk2))) pa_nil))))
          pss_nil)
        (pss_one (ps_ret (pe_lst (pa_cons (pe_op op_add_str (pe_op op_add_str (pv 6) pe_str) (LyC.pe_f (ok_pick T) hr (pa_cons (pv 0) (pa_cons (pe_dget (hu_of hr) (pv 1) (pe_ifExp (pt_cmpR op_in_seq (pv 6) (pe_tup (pa_cons pe_str (pa_cons pe_str pa_nil))) rfl) pe_str pe_str) (fun _ _ => rfl)) pa_nil)) (hk := hk2))) pa_nil))))))), ?_⟩
      intro v5 Hc B
      refine ⟨by show 11 ≤ sizeLine; decide, fun L hL => ?_⟩
      have BL := B.new (o := .lst (([ "say", "say", "say", "pause", "pause", "wait", "wait", "open", "open", "begin", "fail"] : List Str).map V.str)) hL
      refine ⟨_, rfl, b, 11, rfl, by decide, by decide, BL.bx, fun t H2 t0 t1 B2 => ?_⟩
      obtain ⟨j, rfl⟩ := Int.eq_ofNat_of_zero_le t0
      obtain ⟨wd, hwd, hat⟩ := at_strs ["say", "say", "say", "pause", "pause", "wait", "wait", "open", "open", "begin", "fail"] (j := j) (by show j < 11; omega)
      have hL2 : H2 L = some (.lst (([ "say", "say", "say", "pause", "pause", "wait", "wait", "open", "open", "begin", "fail"] : List Str).map V.str)) := B2.keep _ _ (strs_ne_box upd_same BL.bx) upd_same
      have B3 := BL.trans B2
      have S3 := S.draw B3
      refine ⟨L, _, _, _, rfl, rfl, SqL.of hL2, hat, ?_⟩
      refine ⟨_, rfl, rfl, _, rfl, ite2 (fun c => ?_) (fun c => ?_)⟩
      · exact ⟨one, fun p hp => k1 p "pause" _ B3 hp (.pause _ _ _)⟩
      · have c1 : ¬ wd = "pause" := fun z => c (decide_eq_true (by rw [z]))
        refine ⟨_, rfl, rfl, _, rfl, ite2 (fun c => ?_) (fun c => ?_)⟩
        · refine ⟨_, rfl, _, rfl, W, _, rfl, S3.gJobs, b, d.aj, _, rfl, SqL.of S3.hj, strs_ne_box S3.hj S3.bx, S3.hj, (fun z => ok.j0 (List.map_eq_nil_iff.mp z)), (by rw [List.length_map]; have := ok.jobs.few; omega), S3.bx, fun x H4 hx B4 => ?_⟩
          obtain ⟨nm, hnm, rfl⟩ := List.mem_map.mp hx
          have := nm_len ok.jobs hnm
          refine ⟨_, _, rfl, rfl, (by rw [sizeLine_eq]; show 6 + _ ≤ _; omega), one, fun p hp => k1 p _ _ (B3.trans B4) hp (.begin_ _ _ _ hnm)⟩
        · have c2 : ¬ wd = "begin" := fun z => c (decide_eq_true (by rw [z]))
          have hwl : wd.length ≤ 5 := by
            simp only [List.mem_cons, List.not_mem_nil, or_false] at hwd
            rcases hwd with rfl | rfl | rfl | rfl | rfl | rfl | rfl | rfl | rfl | rfl | rfl <;> decide +kernel
          have two : 2 ≤ sizeLine := by decide
          refine ⟨_, rfl, _, _, rfl, rfl, (by rw [sizeLine_eq]; show _ + 1 ≤ _; omega), _, rfl, _, rfl, _, rfl, two, fun q hq => ?_⟩
          have B4 := B3.new (o := .tup [V.str "wait", V.str "open"]) hq
          have S4 := S.draw B4
          refine ⟨q, _, rfl, .inr (SqT.of upd_same), rfl, rfl, _, rfl, ?_⟩
          have ei : inV (V.str wd) [V.str "wait", V.str "open"] = decide (wd ∈ (["wait", "open"] : List Str)) := LyC.inV_strs wd ["wait", "open"]
          rw [ei]
          refine ite2 (fun c => ?_) (fun c => ?_)
          · have hw := of_decide_eq_true c
            refine ⟨W, _, rfl, S4.gGates, b, d.ag, _, rfl, SqL.of S4.hg, strs_ne_box S4.hg S4.bx, S4.hg, (fun z => ok.g0 (List.map_eq_nil_iff.mp z)), (by rw [List.length_map]; have := ok.gates.few; omega), S4.bx, fun x H5 hx B5 => ?_⟩
            obtain ⟨nm, hnm, rfl⟩ := List.mem_map.mp hx
            have := nm_len ok.gates hnm
            have e : (wd ++ (" " : Str)).length = wd.length + 1 := Str.length_append _ _
            refine ⟨_, _, rfl, rfl, (by rw [sizeLine_eq, e]; omega), one, fun p hp => k1 p _ _ (B4.trans B5) hp (.gate _ _ _ hw hnm)⟩
          · have hw : ¬ wd ∈ (["wait", "open"] : List Str) := fun z => c (decide_eq_true z)
            refine ⟨W, _, rfl, S4.gNotes, b, d.an, _, rfl, SqL.of S4.hn, strs_ne_box S4.hn S4.bx, S4.hn, (fun z => ok.n0 (List.map_eq_nil_iff.mp z)), (by rw [List.length_map]; have := ok.notes.few; omega), S4.bx, fun x H5 hx B5 => ?_⟩
            obtain ⟨nm, hnm, rfl⟩ := List.mem_map.mp hx
            have := nm_len ok.notes hnm
            have e : (wd ++ (" " : Str)).length = wd.length + 1 := Str.length_append _ _
            refine ⟨_, _, rfl, rfl, (by rw [sizeLine_eq, e]; omega), one, fun p hp => k1 p _ _ (B4.trans B5) hp (.note _ _ _ ?_ hnm)⟩
            simp only [List.mem_cons, List.not_mem_nil, or_false] at hwd hw ⊢
            rcases hwd with h | h | h | h | h | h | h | h | h | h | h
            · exact .inl h
            · exact .inl h
            · exact .inl h
            · exact absurd h c1
            · exact absurd h c1
            · exact absurd (.inl h) hw
            · exact absurd (.inl h) hw
            · exact absurd (.inr h) hw
            · exact absurd (.inr h) hw
            · exact absurd h c2
            · exact .inr h
    obtain ⟨tU, hU, gU⟩ : ∃ t, PSs (cxOf CX0 P w K mg base N_grow "_law_row" (defScope s_law_row) (d_law_row.at_ K) cdv A outer s H E) ((defBody s_law_row).drop 2) t ∧
        ∀ (fo : Int) (Hc : Hp), Bx b H Hc → t { nx := fun _ H' => Q .non H', rt := Q } [some (.ref b), some (.ref W), some (.int (dp : Nat)), some (.bl late), some (.ref kp), some (.int fo), none] Hc := by
      refine ⟨_, (pss_cons (ps_if (PW.pt (pw_and (pt_cmpR op_lt (pv 5) pe_int (nomark _)) (pw_and (pt_cmpR op_eq (pe_dget (hu_of hr) (pv 1) pe_str (fun _ _ => rfl)) pe_str (nomark _)) (pw_and1 (pt_not (pt_val (pv 3)))))))
        (pss_one (ps_ret (pe_lst (pa_cons pe_str pa_nil))))
        pss_nil) hT), ?_⟩
      intro fo Hc B
      have S1 := S.draw B
      refine ⟨_, rfl, _, _, rfl, rfl, _, rfl, ite2 (fun _ => ?_) (fun _ => iteF (gT _ Hc B))⟩
      refine ⟨_, rfl, W, _, rfl, S1.gSort, rfl, _, rfl, ite2 (fun c => ?_) (fun _ => iteF (gT _ Hc B))⟩
      have hso : d.g.sort = "walk" := V.str.inj (of_decide_eq_true c)
      refine ⟨_, rfl, _, rfl, ?_⟩
      cases late with
      | true => exact iteF (gT _ Hc B)
      | false => exact iteT ⟨one, fun p hp => k1 p "give" _ B hp (.give _ _ hso)⟩
    refine ⟨_, (pss_cons (ps_set (i := 5) sc_grow.nd rfl (Or.inl rfl) (LyC.pe_f (ok_tk T) hr (pa_cons (pv 0) (pa_cons pe_int pa_nil)) (hk := hk1)))
      (pss_cons (ps_if (PW.pt (pw_and (pt_cmpR op_gt (pv 5) pe_int (nomark _)) (pw_and1 (pt_cmpR op_lt (pv 2) (pe_dget (hu_of hr) (pv 1) pe_str (fun _ _ => rfl)) (nomark _)))))
        (pss_one (ps_ret (LyC.pe_f Rb hr (pa_cons (pv 0) (pa_cons (pv 1) (pa_cons (pe_op op_add (pv 2) pe_int) (pa_cons (pv 3) (pa_cons (pv 4) pa_nil))))) (hk := Nat.le_refl _))))
        pss_nil) hU)), ?_⟩
    refine ⟨_, rfl, b, 16, rfl, by decide, by decide, S.bx, fun fo H1 _ _ B1 => ?_⟩
    have S1 := S.draw B1
    refine ⟨_, rfl, _, _, rfl, rfl, _, rfl, ite2 (fun _ => ?_) (fun _ => iteF (gU fo H1 B1))⟩
    refine ⟨_, rfl, _, rfl, W, _, rfl, S1.gDeep, _, _, rfl, rfl, _, rfl, ite2 (fun c => ?_) (fun _ => gU fo H1 B1)⟩
    have hd4 : dp < 4 := by
      have := of_decide_eq_true c
      omega
    refine ⟨_, rfl, _, rfl, _, rfl, _, _, rfl, rfl, _, rfl, _, rfl, hB hd4 _ _ _ _ ⟨b, W, kp, late, kept, d, rfl, S1, S.ls' B1 hkp, ok, hkl, fun p rs H' n f S' hn hp gr => ?_⟩⟩
    exact k p rs H' n ((Fw.refl.bx B1).trans f) S' hn hp gr
end

end Ly
namespace Ly
open PySem PySem.Spec PyProof.Rows L2
/-! ### drawn programs: _law_block -/
theorem or_late {late : Bool} {wd : Str} {σ : L2.St} {H : Hp} {Qc : VK} (h3 : σ[3]? = some (some (.bl late))) (h7 : σ[7]? = some (some (.str wd))) (hq : Qc (.bl (late || decide (wd = "late"))) H) : tOrV (tVar 3) (tOp rEq (tVar 7) (tC (.str "late"))) σ H Qc := by
  refine ⟨_, h3, late, rfl, ?_⟩
  cases late with
  | true => exact iteT hq
  | false =>
    refine iteF ⟨_, h7, rfl, ?_⟩
    have e : decide (V.str wd = V.str "late") = decide (wd = "late") := by
      by_cases c : wd = "late"
      · rw [decide_eq_true c, decide_eq_true (by rw [c])]
      · rw [decide_eq_false c, decide_eq_false (fun z => c (V.str.inj z))]
    rw [e]
    exact hq
theorem dec_str (a b : Str) : decide (V.str a = V.str b) = decide (a = b) := by
  by_cases c : a = b
  · rw [decide_eq_true c, decide_eq_true (by rw [c])]
  · rw [decide_eq_false c, decide_eq_false (fun z => c (V.str.inj z))]
theorem and_keep {K : PySem.W.Frag} {b W kp : Addr} {d : Wd} {wk : Str} {kept : List Str} {σ : L2.St} {H : Hp} {Qc : VK} (S : WS H b W d) (h1 : σ[1]? = some (some (.ref W))) (h10 : σ[10]? = some (some (.str wk))) (h4 : σ[4]? = some (some (.ref kp))) (hkp : H kp = some (.lst (kept.map V.str)))
    (hq : Qc (.bl (decide (d.g.sort = "job") && !decide (wk ∈ kept))) H) : tAndV (tOp rEq (tDGet (tVar 1) (tC (.str "sort"))) (tC (.str "job"))) (tOp (rIn K true) (tVar 10) (tVar 4)) σ H Qc := by
  refine ⟨_, h1, W, _, rfl, S.gSort, rfl, _, rfl, ?_⟩
  rw [dec_str]
  by_cases c : d.g.sort = "job"
  · rw [decide_eq_true c] at hq ⊢
    refine iteT ⟨_, h10, _, h4, kp, _, rfl, .inl (SqL.of hkp), rfl, LyC.flat_strs _, ?_⟩
    rw [LyC.inV_strs]
    exact hq
  · rw [decide_eq_false c] at hq ⊢
    exact iteF hq
def howsOf (mk : Bool) : List Str := (["closed", "dropped", "closed", "dropped"] : List Str) ++ (if mk = true then (["kept", "kept", "kept"] : List Str) else [])
theorem howsOf_ok {mk : Bool} {h : Str} (m : h ∈ howsOf mk) : h ∈ (["closed", "dropped", "kept"] : List Str) ∧ (h = "kept" → mk = true) := by
  cases mk with
  | true =>
    refine ⟨?_, fun _ => rfl⟩
    have m' : h ∈ (["closed", "dropped", "closed", "dropped", "kept", "kept", "kept"] : List Str) := m
    simp only [List.mem_cons, List.not_mem_nil, or_false] at m' ⊢
    rcases m' with r | r | r | r | r | r | r
    · exact .inl r
    · exact .inr (.inl r)
    · exact .inl r
    · exact .inr (.inl r)
    · exact .inr (.inr r)
    · exact .inr (.inr r)
    · exact .inr (.inr r)
  | false =>
    have m' : h ∈ (["closed", "dropped", "closed", "dropped"] : List Str) := m
    simp only [List.mem_cons, List.not_mem_nil, or_false] at m' ⊢
    have ne1 : ¬ (Str.ofString "closed" = Str.ofString "kept") := by decide +kernel
    have ne2 : ¬ (Str.ofString "dropped" = Str.ofString "kept") := by decide +kernel
    rcases m' with r | r | r | r
    · exact ⟨.inl r, fun z => absurd (r ▸ z) ne1⟩
    · exact ⟨.inr (.inl r), fun z => absurd (r ▸ z) ne2⟩
    · exact ⟨.inl r, fun z => absurd (r ▸ z) ne1⟩
    · exact ⟨.inr (.inl r), fun z => absurd (r ▸ z) ne2⟩
section
variable {P : Program} {w : World} {K : PySem.W.Frag} {mg : Str → Option Value} {base : Heap}
abbrev N_gblock : List Str := ["_law_box_here", "_law_world_here", "_law_deep", "_law_is_late", "_law_kept", "_law_form", "_law_times", "_law_word", "_law_first", "_law_second", "_law_walk", "_law_may_keep", "_law_hows", "_law_how", "_law_within"]
theorem sc_gblock : FnScope N_gblock ["_law_box_here", "_law_world_here", "_law_deep", "_law_is_late", "_law_kept"] (defScope s_law_block) := ⟨rfl, rfl, rfl, by decide +kernel, rfl, by decide +kernel, by decide +kernel⟩
theorem rep3 : ∀ j : Nat, j < 3 → (1 + (j : Int)).natAbs.log2 < 1920 ∧ Str.ofString (toString (1 + (j : Int))) ∈ (["1", "2", "3"] : List Str)
  | 0, _ => by decide +kernel
  | 1, _ => by decide +kernel
  | 2, _ => by decide +kernel
  | n + 3, h => absurd h (by omega)
theorem one3 {t : Str} (h : t ∈ (["1", "2", "3"] : List Str)) : t.length = 1 := by
  simp only [List.mem_cons, List.not_mem_nil, or_false] at h
  rcases h with rfl | rfl | rfl <;> rfl
theorem ok_gblock (T : Hd K mg) {k dp : Nat} (hk2 : 2 ≤ k) (hdp : dp < 4) (Rr : LyC.Cl CX0 P w K mg base k "_law_rows" (spG (dp + 1) (dp + 1) 0) []) : LyC.Cl CX0 P w K mg base (k + 1) "_law_block" (spG (dp + 1) dp 1) [] := by
  have hk1 : 1 ≤ k := by omega
  obtain ⟨fd, F⟩ := T.f_law_block
  refine ⟨_, fd, ["_law_box_here", "_law_world_here", "_law_deep", "_law_is_late", "_law_kept"], [], F.ok sc_gblock (fun vs H Q E h => ?_) (fun cdv A outer s H vs Q E hr h => ?_), T.g_law_block, F.kp, F.bindsN fun _ _ _ _ _ _ us hl => match us, hl with | [_, _, _, _, _], _ => rfl, .nil⟩
  · obtain ⟨b, W, kp, late, kept, d, rfl, _⟩ := h
    rfl
  · obtain ⟨b, W, kp, late, kept, d, rfl, S, hkp, ok, hkl, k⟩ := h
    have hu2 := Nat.lt_of_le_of_lt (Nat.le_add_right _ 64) hr.units
    have one : 1 ≤ sizeLine := by decide
    have three : 3 ≤ sizeLine := by decide
    have four : 4 ≤ sizeLine := by decide
    have five : 5 ≤ sizeLine := by decide
    have okl := ok.left
    -- the last row: an each
    obtain ⟨tE, hE, gE⟩ : ∃ t, PSs (cxOf CX0 P w K mg base N_gblock "_law_block" (defScope s_law_block) (d_law_block.at_ K) cdv A outer s H E) ((defBody s_law_block).drop 8) t ∧
        ∀ (v5 v7 v8 v9 v11 v12 : Option V) (wk how tm : Str) (wp : Addr) (wi : List Str) (Hc : Hp), Fw b W H Hc → WS Hc b W d → Hc wp = some (.lst (wi.map V.str)) → wi.length ≤ dp + 1 → wk.length ≤ 8 → how.length ≤ 8 → tm.length ≤ 8 →
          (∀ n rs, Gr d.g late wi (dp + 1) n rs → Gr d.g late kept dp (n + 1) ([(((Str.ofString "each " ++ wk) ++ " ") ++ how) ++ tm] ++ rs ++ [Str.ofString "end"])) →
          t { nx := fun _ H' => Q .non H', rt := Q } [some (.ref b), some (.ref W), some (.int ((dp + 1 : Nat) : Int)), some (.bl late), some (.ref kp), v5, some (.str tm), v7, v8, v9, some (.str wk), v11, v12, some (.str how), some (.ref wp)] Hc := by
      refine ⟨_, (pss_one (ps_ret (pe_op op_cat (pe_op op_cat (pe_lst (pa_cons (pe_op op_add_str (pe_op op_add_str (pe_op op_add_str (pe_op op_add_str pe_str (pv 10)) pe_str) (pv 13)) (pv 6)) pa_nil)) (LyC.pe_f Rr hr (pa_cons (pv 0) (pa_cons (pv 1) (pa_cons (pv 2) (pa_cons (pv 3) (pa_cons (pv 14) pa_nil))))) (hk := Nat.le_refl _))) (pe_lst (pa_cons pe_str pa_nil))))), ?_⟩
      intro v5 v7 v8 v9 v11 v12 wk how tm wp wi Hc f Sc hwp hwl l1 l2 l3 hgr
      have e1 : (Str.ofString "each " ++ wk).length = 5 + wk.length := Str.length_append _ _
      have e2 : ((Str.ofString "each " ++ wk) ++ (" " : Str)).length = 5 + wk.length + 1 := by rw [Str.length_append, e1]; rfl
      have e3 : (((Str.ofString "each " ++ wk) ++ (" " : Str)) ++ how).length = 5 + wk.length + 1 + how.length := by rw [Str.length_append, e2]
      refine ⟨_, rfl, _, _, rfl, rfl, (by rw [sizeLine_eq]; show 5 + _ ≤ _; omega), _, _, rfl, rfl, (by rw [sizeLine_eq, e1]; show _ + 1 ≤ _; omega), _, rfl, _, _, rfl, rfl, (by rw [sizeLine_eq, e2]; omega), _, rfl, _, _, rfl, rfl, (by rw [sizeLine_eq, e3]; omega), one, fun a1 ha1 => ?_⟩
      have S1 := Sc.new (o := .lst ([(((Str.ofString "each " ++ wk) ++ (" " : Str)) ++ how) ++ tm].map V.str)) ha1
      have s1 := LyC.same_new (o := .lst ([(((Str.ofString "each " ++ wk) ++ (" " : Str)) ++ how) ++ tm].map V.str)) ha1
      refine ⟨_, rfl, _, rfl, _, rfl, _, rfl, _, rfl, b, W, wp, late, wi, d, rfl, S1, s1 _ _ hwp, ok, hwl, fun p rs H' n f' S' hn hp gr => ?_⟩
      have ha1' := S1.ls f' (upd_same (o := .lst ([(((Str.ofString "each " ++ wk) ++ (" " : Str)) ++ how) ++ tm].map V.str)))
      have gl := gr.len
      have gl2 : rs.length ≤ 300 := by omega
      refine ⟨a1, p, _, _, rfl, rfl, ha1', hp, (by rw [sizeLine_eq, List.length_map, List.length_map]; show 1 + _ ≤ _; omega), fun a2 ha2 => ⟨one, fun a3 ha3 => ?_⟩⟩
      refine ⟨a2, a3, _, _, rfl, rfl, LyC.same_new ha3 _ _ upd_same, upd_same, (by rw [sizeLine_eq, List.length_append, List.length_map, List.length_map]; show 1 + _ + 1 ≤ _; omega), fun a4 ha4 => ?_⟩
      refine k a4 _ _ n ((((f.same s1).trans f').same (LyC.same_new ha2)).same (LyC.same_new ha3) |>.same (LyC.same_new ha4)) (((S'.new ha2).new ha3).new ha4) hn ?_ (hgr _ _ gr)
      rw [upd_same, List.map_append, List.map_append]
      rfl
    -- a guard
    obtain ⟨tG, hG, gG⟩ : ∃ t, PSs (cxOf CX0 P w K mg base N_gblock "_law_block" (defScope s_law_block) (d_law_block.at_ K) cdv A outer s H E) (ifThen ((defBody s_law_block).getD 2 (.Pass ⟨0, 0, 0, 0⟩))) t ∧
        ∀ (nx : L2.St → Hp → Prop) (v5 v6 : Option V) (Hc : Hp), Fw b W H Hc → WS Hc b W d →
          t { nx := nx, rt := Q } [some (.ref b), some (.ref W), some (.int ((dp + 1 : Nat) : Int)), some (.bl late), some (.ref kp), v5, v6, none, none, none, none, none, none, none, none] Hc := by
      refine ⟨_, (pss_cons (ps_par (i := 7) (j := 8) (by rfl) sc_gblock.nd rfl rfl (by decide) rfl rfl (pa_cons (pe_ix ix_list (pe_lst (pa_cons pe_str (pa_cons pe_str (pa_cons pe_str pa_nil)))) (LyC.pe_f (ok_tk T) hr (pa_cons (pv 0) (pa_cons pe_int pa_nil)) (hk := hk1)) (fun _ _ => rfl)) (pa_cons (LyC.pe_f Rr hr (pa_cons (pv 0) (pa_cons (pv 1) (pa_cons (pv 2) (pa_cons (pv 3) (pa_cons (pv 4) pa_nil))))) (hk := Nat.le_refl _)) pa_nil)) (by rfl))
        (pss_cons (ps_set (i := 9) sc_gblock.nd rfl (Or.inl rfl) (LyC.pe_f Rr hr (pa_cons (pv 0) (pa_cons (pv 1) (pa_cons (pv 2) (pa_cons (pe_or (pv 3) (pe_one (pe_cmpR op_eq (pv 7) pe_str (nomark _)))) (pa_cons (pv 4) pa_nil))))) (hk := Nat.le_refl _)))
        (pss_one (ps_ret (pe_op op_cat (pe_op op_cat (pe_op op_cat (pe_op op_cat (pe_lst (pa_cons pe_str pa_nil)) (pv 8)) (pe_lst (pa_cons (pv 7) pa_nil))) (pv 9)) (pe_lst (pa_cons pe_str pa_nil))))))), ?_⟩
      intro nx v5 v6 Hc f Sc
      refine ⟨three, fun L hL => ?_⟩
      have S1 := Sc.new (o := .lst ((["late", "mend", "late"] : List Str).map V.str)) hL
      have s1 := LyC.same_new (o := .lst ((["late", "mend", "late"] : List Str).map V.str)) hL
      refine ⟨_, rfl, b, 3, rfl, by decide, by decide, S1.bx, fun t H2 t0 t1 B2 => ?_⟩
      obtain ⟨j, rfl⟩ := Int.eq_ofNat_of_zero_le t0
      obtain ⟨wd, hwd, hat⟩ := at_strs ["late", "mend", "late"] (j := j) (by show j < 3; omega)
      have hwd2 : wd ∈ (["late", "mend"] : List Str) := by
        simp only [List.mem_cons, List.not_mem_nil, or_false] at hwd ⊢
        rcases hwd with h | h | h
        · exact .inl h
        · exact .inr h
        · exact .inl h
      have hL2 := S1.ls' B2 (upd_same (o := .lst ((["late", "mend", "late"] : List Str).map V.str)))
      have S2 := S1.draw B2
      have f2 : Fw b W H H2 := (f.same s1).bx B2
      refine ⟨L, _, _, _, rfl, rfl, SqL.of hL2, hat, ?_⟩
      refine ⟨_, rfl, _, rfl, _, rfl, _, rfl, _, rfl, b, W, kp, late, kept, d, rfl, S2, S.ls f2 hkp, ok, by omega, fun p1 rs1 H3 n1 f3 S3 hn1 hp1 gr1 => ⟨_, _, rfl, ?_⟩⟩
      have f4 := f2.trans f3
      refine ⟨_, rfl, _, rfl, _, rfl, or_late rfl rfl ?_⟩
      refine ⟨_, rfl, b, W, kp, _, kept, { d with left := n1 }, rfl, S3, S.ls f4 hkp, ok.less hn1, by omega, fun p2 rs2 H4 n2 f5 S4 hn2 hp2 gr2 => ?_⟩
      have hp1' := S3.ls f5 hp1
      have hn2' : n2 ≤ n1 := hn2
      have gl1 := gr1.len
      have gl2 : rs2.length ≤ 3 * (n1 - n2 + 0) := gr2.len
      have g1 : rs1.length ≤ 300 := by omega
      have g2 : rs2.length ≤ 300 := by omega
      refine ⟨one, fun a1 ha1 => ⟨_, rfl, ?_⟩⟩
      have z1 := LyC.same_new (o := .lst [V.str "guard"]) ha1
      refine ⟨a1, p1, _, _, rfl, rfl, upd_same, z1 _ _ hp1', (by rw [sizeLine_eq, List.length_map]; show 1 + _ ≤ _; omega), fun a2 ha2 => ⟨_, rfl, one, fun a3 ha3 => ?_⟩⟩
      have z2 := LyC.same_new (o := .lst ([V.str "guard"] ++ rs1.map V.str)) ha2
      have z3 := LyC.same_new (o := .lst [V.str wd]) ha3
      refine ⟨a2, a3, _, _, rfl, rfl, z3 _ _ upd_same, upd_same, (by rw [sizeLine_eq, List.length_append, List.length_map]; show 1 + _ + 1 ≤ _; omega), fun a4 ha4 => ⟨_, rfl, ?_⟩⟩
      have z4 := LyC.same_new (o := .lst ([V.str "guard"] ++ rs1.map V.str ++ [V.str wd])) ha4
      refine ⟨a4, p2, _, _, rfl, rfl, upd_same, z4 _ _ (z3 _ _ (z2 _ _ (z1 _ _ hp2))), (by rw [sizeLine_eq, List.length_append, List.length_append, List.length_map, List.length_map]; show 1 + _ + 1 + _ ≤ _; omega), fun a5 ha5 => ⟨one, fun a6 ha6 => ?_⟩⟩
      have z5 := LyC.same_new (o := .lst ([V.str "guard"] ++ rs1.map V.str ++ [V.str wd] ++ rs2.map V.str)) ha5
      have z6 := LyC.same_new (o := .lst [V.str "end"]) ha6
      refine ⟨a5, a6, _, _, rfl, rfl, z6 _ _ upd_same, upd_same, (by rw [sizeLine_eq, List.length_append, List.length_append, List.length_append, List.length_map, List.length_map]; show 1 + _ + 1 + _ + 1 ≤ _; omega), fun a7 ha7 => ?_⟩
      have z7 := LyC.same_new (o := .lst ([V.str "guard"] ++ rs1.map V.str ++ [V.str wd] ++ rs2.map V.str ++ [V.str "end"])) ha7
      have zz := ((((((z1.trans z2).trans z3).trans z4).trans z5).trans z6).trans z7)
      refine k a7 ([Str.ofString "guard"] ++ rs1 ++ [wd] ++ rs2 ++ [Str.ofString "end"]) _ n2 ((f4.trans f5).same zz) (S4.same zz) (by omega) ?_ ?_
      · rw [upd_same, List.map_append, List.map_append, List.map_append, List.map_append]
        rfl
      · have g3 := Gr.guard hdp hwd2 gr1 gr2
        have e : d.left - n1 + 0 + (({ d with left := n1 } : Wd).left - n2 + 0) + 1 = d.left - n2 + 1 := by
          show d.left - n1 + 0 + (n1 - n2 + 0) + 1 = d.left - n2 + 1
          omega
        rw [e] at g3
        exact g3
    -- the whole
    refine ⟨_, (pss_cons (ps_set (i := 5) sc_gblock.nd rfl (Or.inl rfl) (LyC.pe_f (ok_tk T) hr (pa_cons (pv 0) (pa_cons pe_int pa_nil)) (hk := hk1)))
      (pss_cons (ps_if (pt_cmpR op_eq (pv 5) pe_int (nomark _))
        (pss_cons (ps_set (i := 6) sc_gblock.nd rfl (Or.inl rfl) (pe_callTy call_str_int (by rfl) T.n_str (by decide +kernel) (pa_cons (pe_op op_add pe_int (LyC.pe_f (ok_tk T) hr (pa_cons (pv 0) (pa_cons pe_int pa_nil)) (hk := hk1))) pa_nil)))
        (pss_one (ps_ret (pe_op op_cat (pe_op op_cat (pe_lst (pa_cons (pe_op op_add_str pe_str (pv 6)) pa_nil)) (LyC.pe_f Rr hr (pa_cons (pv 0) (pa_cons (pv 1) (pa_cons (pv 2) (pa_cons (pv 3) (pa_cons (pv 4) pa_nil))))) (hk := Nat.le_refl _))) (pe_lst (pa_cons pe_str pa_nil))))))
        pss_nil)
      (pss_cons (ps_if (PW.pt (pw_or (pt_cmpR op_lt (pv 5) pe_int (nomark _)) (pw_or1 (pt_cmpR (LyC.op_eqNil hu2) (pe_dget (hu_of hr) (pv 1) pe_str (fun _ _ => rfl)) (pe_lst pa_nil) (nomark _)))))
        hG
        pss_nil)
      (pss_cons (ps_set (i := 10) sc_gblock.nd rfl (Or.inl rfl) (LyC.pe_f (ok_pick T) hr (pa_cons (pv 0) (pa_cons (pe_dget (hu_of hr) (pv 1) pe_str (fun _ _ => rfl)) pa_nil)) (hk := hk2)))
      (pss_cons (ps_set (i := 11) sc_gblock.nd rfl (Or.inl rfl) (pe_and (pe_cmpR op_eq (pe_dget (hu_of hr) (pv 1) pe_str (fun _ _ => rfl)) pe_str (nomark _)) (pe_one (pe_cmpR op_notIn_seq (pv 10) (pv 4) rfl))))
      (pss_cons (ps_set (i := 12) sc_gblock.nd rfl (Or.inl rfl) (pe_op op_cat (pe_lst (pa_cons pe_str (pa_cons pe_str (pa_cons pe_str (pa_cons pe_str pa_nil))))) (pe_op op_rep (pe_lst (pa_cons pe_str pa_nil)) (pe_op op_mul pe_int (pe_callTy call_int1 (by rfl) T.n_int (by decide +kernel) (pa_cons (pv 11) pa_nil))))))
      (pss_cons (ps_par (i := 13) (j := 6) (by rfl) sc_gblock.nd rfl rfl (by decide) rfl rfl (pa_cons (LyC.pe_f (ok_pick T) hr (pa_cons (pv 0) (pa_cons (pv 12) pa_nil)) (hk := hk2)) (pa_cons (pe_ix ix_list (pe_lst (pa_cons pe_str (pa_cons pe_str (pa_cons pe_str (pa_cons pe_str (pa_cons pe_str pa_nil)))))) (LyC.pe_f (ok_tk T) hr (pa_cons (pv 0) (pa_cons pe_int pa_nil)) (hk := hk1)) (fun _ _ => rfl)) pa_nil)) (by rfl))
      (pss_cons (ps_set (i := 14) sc_gblock.nd rfl (Or.inl rfl) (pe_ifExp (pt_cmpR op_eq (pv 13) pe_str (nomark _)) (pe_op op_cat (pv 4) (pe_lst (pa_cons (pv 10) pa_nil))) (pv 4)))
      hE)))))))), ?_⟩
    refine ⟨_, rfl, b, 8, rfl, by decide, by decide, S.bx, fun fo H1 _ _ B1 => ?_⟩
    have S1 := S.draw B1
    have f1 : Fw b W H H1 := Fw.refl.bx B1
    refine ⟨_, rfl, rfl, _, rfl, ite2 (fun _ => ?_) (fun _ => ?_)⟩
    · refine ⟨_, rfl, b, 3, rfl, by decide, by decide, S1.bx, fun t H2 t0 t1 B2 => ?_⟩
      obtain ⟨j, rfl⟩ := Int.eq_ofNat_of_zero_le t0
      obtain ⟨r1, r2⟩ := rep3 j (by omega)
      have r3 := one3 r2
      have S2 := S1.draw B2
      have f2 := f1.bx B2
      refine ⟨_, _, rfl, rfl, _, rfl, r1, _, rfl, _, _, rfl, rfl, (by rw [sizeLine_eq]; show 7 + Str.length (Str.ofString (toString (1 + (j : Int)))) ≤ _; rw [r3]; decide), one, fun a1 ha1 => ?_⟩
      have z1 := LyC.same_new (o := .lst ([Str.ofString "repeat " ++ Str.ofString (toString (1 + (j : Int)))].map V.str)) ha1
      have S3 := S2.same z1
      refine ⟨_, rfl, _, rfl, _, rfl, _, rfl, _, rfl, b, W, kp, late, kept, d, rfl, S3, S.ls (f2.same z1) hkp, ok, by omega, fun p rs H' n f' S' hn hp gr => ?_⟩
      have ha1' := S3.ls f' (upd_same (o := .lst ([Str.ofString "repeat " ++ Str.ofString (toString (1 + (j : Int)))].map V.str)))
      have gl := gr.len
      have gl2 : rs.length ≤ 300 := by omega
      refine ⟨a1, p, _, _, rfl, rfl, ha1', hp, (by rw [sizeLine_eq, List.length_map, List.length_map]; show 1 + _ ≤ _; omega), fun a2 ha2 => ⟨one, fun a3 ha3 => ?_⟩⟩
      refine ⟨a2, a3, _, _, rfl, rfl, LyC.same_new ha3 _ _ upd_same, upd_same, (by rw [sizeLine_eq, List.length_append, List.length_map, List.length_map]; show 1 + _ + 1 ≤ _; omega), fun a4 ha4 => ?_⟩
      refine k a4 ([Str.ofString "repeat " ++ Str.ofString (toString (1 + (j : Int)))] ++ rs ++ [Str.ofString "end"]) _ n (((((f2.same z1).trans f').same (LyC.same_new ha2)).same (LyC.same_new ha3)).same (LyC.same_new ha4)) (((S'.new ha2).new ha3).new ha4) hn ?_ (.rep hdp r2 gr)
      rw [upd_same, List.map_append, List.map_append]
      rfl
    · refine ⟨_, rfl, _, _, rfl, rfl, _, rfl, ite2 (fun _ => iteT (gG _ _ _ H1 f1 S1)) (fun _ => ?_)⟩
      refine ⟨_, rfl, W, _, rfl, S1.gKnown, Nat.zero_le _, fun l0 hl0 => ?_⟩
      have z0 := LyC.same_new (o := .lst []) hl0
      have S2 := S1.same z0
      have f2 := f1.same z0
      refine ⟨d.ak, l0, _, rfl, rfl, SqL.of S2.hk, SqL.of upd_same, _, rfl, ?_⟩
      by_cases hkn : d.g.known = []
      · rw [hkn]
        exact iteT (gG _ _ _ _ f2 S2)
      · have e : (d.g.known.map V.str).isEmpty = false := by
          cases hh : d.g.known with
          | nil => exact absurd hh hkn
          | cons x xs => rfl
        rw [e]
        refine iteF ?_
        refine ⟨_, rfl, _, rfl, W, _, rfl, S2.gKnown, b, d.ak, _, rfl, SqL.of S2.hk, strs_ne_box S2.hk S2.bx, S2.hk, (fun z => hkn (List.map_eq_nil_iff.mp z)), (by rw [List.length_map]; have := ok.known.few; omega), S2.bx, fun x H3 hx B3 => ?_⟩
        obtain ⟨wk, hwk, rfl⟩ := List.mem_map.mp hx
        have S3 := S2.draw B3
        have f3 := f2.bx B3
        have hkp3 := S.ls f3 hkp
        refine and_keep S3 rfl rfl rfl hkp3 ?_
        generalize hmk : (decide (d.g.sort = "job") && !decide (wk ∈ kept)) = mk
        refine ⟨four, fun a1 ha1 => ⟨one, fun a2 ha2 => ⟨_, rfl, .inr ⟨_, rfl, _, _, rfl, rfl, .inl ⟨by decide, by decide⟩, ?_⟩⟩⟩⟩
        have y1 := LyC.same_new (o := .lst ((["closed", "dropped", "closed", "dropped"] : List Str).map V.str)) ha1
        have y2 := LyC.same_new (o := .lst [V.str "kept"]) ha2
        refine ⟨a2, _, _, rfl, rfl, upd_same, ?_, ?_, ?_, fun a3 ha3 => ?_⟩
        · cases mk <;> decide
        · cases mk <;> decide
        · cases mk
          · exact Nat.zero_le _
          · exact three
        have em : (List.replicate (Int.toNat (3 * (if mk = true then 1 else 0))) [V.str "kept"]).flatten = (if mk = true then (["kept", "kept", "kept"] : List Str) else []).map V.str := by cases mk <;> rfl
        rw [em]
        have y3 := LyC.same_new (o := .lst ((if mk = true then (["kept", "kept", "kept"] : List Str) else []).map V.str)) ha3
        refine ⟨a1, a3, _, _, rfl, rfl, y3 _ _ (y2 _ _ upd_same), upd_same, (by cases mk; exact (show 4 + 0 ≤ sizeLine by decide); exact (show 4 + 3 ≤ sizeLine by decide)), fun a4 ha4 => ?_⟩
        have y4 := LyC.same_new (o := .lst ((howsOf mk).map V.str)) ha4
        have eh : ([V.str "closed", V.str "dropped", V.str "closed", V.str "dropped"] ++ (if mk = true then (["kept", "kept", "kept"] : List Str) else []).map V.str) = (howsOf mk).map V.str := by cases mk <;> rfl
        rw [eh]
        have yy := ((y1.trans y2).trans y3).trans y4
        have S4 := S3.same yy
        have f4 := f3.same yy
        refine ⟨_, rfl, _, rfl, b, a4, _, rfl, SqL.of upd_same, strs_ne_box (upd_same (o := .lst ((howsOf mk).map V.str))) S4.bx, upd_same, (by cases mk <;> exact List.cons_ne_nil _ _), (by cases mk <;> decide), S4.bx, fun x H5 hx B5 => ?_⟩
        obtain ⟨how, hhow, rfl⟩ := List.mem_map.mp hx
        obtain ⟨ho1, ho2⟩ := howsOf_ok hhow
        have S5 := S4.draw B5
        have f5 := f4.bx B5
        refine ⟨five, fun a5 ha5 => ?_⟩
        have y5 := LyC.same_new (o := .lst ((["", " 1", " 1", " 2", " 3"] : List Str).map V.str)) ha5
        have S6 := S5.same y5
        refine ⟨_, rfl, b, 5, rfl, by decide, by decide, S6.bx, fun t H7 t0 t1 B7 => ?_⟩
        obtain ⟨j, rfl⟩ := Int.eq_ofNat_of_zero_le t0
        obtain ⟨tm, htm, hat⟩ := at_strs ["", " 1", " 1", " 2", " 3"] (j := j) (by show j < 5; omega)
        have htm2 : tm ∈ (["", " 1", " 2", " 3"] : List Str) := by
          simp only [List.mem_cons, List.not_mem_nil, or_false] at htm ⊢
          rcases htm with h | h | h | h | h
          · exact .inl h
          · exact .inr (.inl h)
          · exact .inr (.inl h)
          · exact .inr (.inr (.inl h))
          · exact .inr (.inr (.inr h))
        have htl : tm.length ≤ 8 := by
          simp only [List.mem_cons, List.not_mem_nil, or_false] at htm2
          rcases htm2 with rfl | rfl | rfl | rfl <;> decide +kernel
        have hol : how.length ≤ 8 := by
          simp only [List.mem_cons, List.not_mem_nil, or_false] at ho1
          rcases ho1 with rfl | rfl | rfl <;> decide +kernel
        have hL7 := S6.ls' B7 (upd_same (o := .lst ((["", " 1", " 1", " 2", " 3"] : List Str).map V.str)))
        have S7 := S6.draw B7
        have f7 := (f5.same y5).bx B7
        have hkp7 := S.ls f7 hkp
        have wkl := nm_len ok.known hwk
        refine ⟨a5, _, _, _, rfl, rfl, SqL.of hL7, hat, _, _, rfl, ?_⟩
        have hkk : how = "kept" → d.g.sort = "job" ∧ wk ∉ kept := fun z => by
          have h := ho2 z
          rw [← hmk, Bool.and_eq_true] at h
          refine ⟨of_decide_eq_true h.1, fun m => ?_⟩
          rw [decide_eq_true m] at h
          cases h.2
        refine ⟨_, rfl, rfl, _, rfl, ite2 (fun c => ?_) (fun c => ?_)⟩
        · have hk : how = "kept" := V.str.inj (of_decide_eq_true c)
          refine ⟨_, rfl, _, rfl, one, fun a8 ha8 => ?_⟩
          have y8 := LyC.same_new (o := .lst [V.str wk]) ha8
          refine ⟨kp, a8, _, _, rfl, rfl, y8 _ _ hkp7, upd_same, (by rw [sizeLine_eq, List.length_map]; show _ + 1 ≤ _; omega), fun a9 ha9 => ?_⟩
          have y9 := LyC.same_new (o := .lst ((kept ++ [wk]).map V.str)) ha9
          have ek : kept.map V.str ++ [V.str wk] = (kept ++ [wk]).map V.str := by rw [List.map_append]; rfl
          rw [ek]
          refine gE _ _ _ _ _ _ wk how tm a9 (kept ++ [wk]) _ ((f7.same y8).same y9) ((S7.same y8).same y9) upd_same (by rw [List.length_append]; exact Nat.succ_le_succ hkl) wkl hol htl fun n rs gr => ?_
          refine .each hdp hwk ho1 hkk htm2 ?_
          rw [if_pos hk]
          exact gr
        · have hk : ¬ how = "kept" := fun z => c (decide_eq_true (by rw [z]))
          refine ⟨_, rfl, gE _ _ _ _ _ _ wk how tm kp kept _ f7 S7 hkp7 (by omega) wkl hol htl fun n rs gr => ?_⟩
          refine .each hdp hwk ho1 hkk htm2 ?_
          rw [if_neg hk]
          exact gr
/-- a def of which nothing is promised -/
theorem cl_false {fd : FuncData} {x qual : Str} {params : Arguments} {body : List Stmt} {scope : Scope} {dvs : List V} {kws : List (Str × V)} {f : Addr} {ps : List Str} (F : FunD K x qual params body scope dvs kws f fd) (hg : mg x = some (.ref f)) (hb : Binds K fd ps []) : LyC.Cl CX0 P w K mg base 2 x (fun _ _ _ _ => False) [] :=
  ⟨f, fd, ps, [], ⟨fun _ _ _ _ h => h.elim, fun _ _ _ _ _ _ _ _ _ _ _ _ _ h => h.elim⟩, hg, F.kp, hb, .nil⟩
theorem gen_block0 (T : Hd K mg) : LyC.Cl CX0 P w K mg base 2 "_law_block" (fun _ _ _ _ => False) [] := by
  obtain ⟨fd, F⟩ := T.f_law_block
  exact cl_false F T.g_law_block (F.bindsN (ps := ["_law_box_here", "_law_world_here", "_law_deep", "_law_is_late", "_law_kept"]) fun _ _ _ _ _ _ us hl => match us, hl with | [_, _, _, _, _], _ => rfl)
theorem gen_rows4 (T : Hd K mg) : LyC.Cl CX0 P w K mg base 4 "_law_rows" (spG 4 4 0) [] := ok_grows T (by decide) (by decide) (ok_grow T (by decide) (by decide) (gen_block0 T) fun h => absurd h (by decide))
theorem gen_step (T : Hd K mg) {k dp : Nat} (hk : 2 ≤ k) (hd : dp < 4) (R : LyC.Cl CX0 P w K mg base k "_law_rows" (spG (dp + 1) (dp + 1) 0) []) : LyC.Cl CX0 P w K mg base (k + 3) "_law_rows" (spG dp dp 0) [] :=
  ok_grows T (by omega) (by omega) (ok_grow T (by omega) (by omega) (ok_gblock T hk hd R) fun _ _ _ _ _ z => z)
/-- the rows of a definition -/
theorem gen_rows (T : Hd K mg) : LyC.Cl CX0 P w K mg base 16 "_law_rows" (spG 0 0 0) [] :=
  gen_step T (by decide) (by decide) (gen_step T (by decide) (by decide) (gen_step T (by decide) (by decide) (gen_step T (by decide) (by decide) (gen_rows4 T))))
end

end Ly
namespace Ly
open PySem PySem.Spec PyProof.Rows L2
/-! ### drawn programs: _law_world -/
structure Wnew (d : Wd) (nj nw : Nat) : Prop where
  left : d.left = 0
  sort : d.g.sort = "job"
  known : d.g.known = []
  jobs : ∃ os : List Str, d.g.jobs = ("main" : Str) :: os
  jn : d.g.jobs.Nodup
  jo : ∀ x ∈ d.g.jobs, isName x = true
  jl : d.g.jobs.length ≤ nj
  wn : d.walks.Nodup
  wo : ∀ x ∈ d.walks, isName x = true
  wl : d.walks.length ≤ nw
  go : ∀ x ∈ d.g.gates, isName x = true
  gl : 1 ≤ d.g.gates.length ∧ d.g.gates.length ≤ 4
  no : ∀ x ∈ d.g.notes, isName x = true
  nl : 1 ≤ d.g.notes.length ∧ d.g.notes.length ≤ 4
theorem wmerge {a c : V} : mergeK [] [((Sum.inr "jobs" : Key), a), (Sum.inr "sort", .str "job"), (Sum.inr "left", .int 0), (Sum.inr "deep", .int 4), (Sum.inr "known", c)] = [((Sum.inr "jobs" : Key), a), (Sum.inr "sort", .str "job"), (Sum.inr "left", .int 0), (Sum.inr "deep", .int 4), (Sum.inr "known", c)] := by kernel_rfl
theorem wput1 {a c x : V} : putK [((Sum.inr "jobs" : Key), a), (Sum.inr "sort", .str "job"), (Sum.inr "left", .int 0), (Sum.inr "deep", .int 4), (Sum.inr "known", c)] (Sum.inr "walks") x = [((Sum.inr "jobs" : Key), a), (Sum.inr "sort", .str "job"), (Sum.inr "left", .int 0), (Sum.inr "deep", .int 4), (Sum.inr "known", c), (Sum.inr "walks", x)] := by kernel_rfl
theorem wput2 {a c x y : V} : putK [((Sum.inr "jobs" : Key), a), (Sum.inr "sort", .str "job"), (Sum.inr "left", .int 0), (Sum.inr "deep", .int 4), (Sum.inr "known", c), (Sum.inr "walks", x)] (Sum.inr "gates") y = [((Sum.inr "jobs" : Key), a), (Sum.inr "sort", .str "job"), (Sum.inr "left", .int 0), (Sum.inr "deep", .int 4), (Sum.inr "known", c), (Sum.inr "walks", x), (Sum.inr "gates", y)] := by kernel_rfl
theorem wput3 {a c x y z : V} : putK [((Sum.inr "jobs" : Key), a), (Sum.inr "sort", .str "job"), (Sum.inr "left", .int 0), (Sum.inr "deep", .int 4), (Sum.inr "known", c), (Sum.inr "walks", x), (Sum.inr "gates", y)] (Sum.inr "notes") z = [((Sum.inr "jobs" : Key), a), (Sum.inr "sort", .str "job"), (Sum.inr "left", .int 0), (Sum.inr "deep", .int 4), (Sum.inr "known", c), (Sum.inr "walks", x), (Sum.inr "gates", y), (Sum.inr "notes", z)] := by kernel_rfl
theorem Bx.ls {b q : Addr} {H H' : Hp} {xs : List Str} (y : Bx b H H') (hb : ∃ c s n : Int, H b = some (.lst [.int c, .int s, .int n])) (h : H q = some (.lst (xs.map V.str))) : H' q = some (.lst (xs.map V.str)) := y.keep q _ (strs_ne_box h hb) h
theorem Bx.dk {b q : Addr} {H H' : Hp} {xs : List (Key × V)} (y : Bx b H H') (hb : ∃ c s n : Int, H b = some (.lst [.int c, .int s, .int n])) (h : H q = some (.dK xs)) : H' q = some (.dK xs) := y.keep q _ (dk_ne_box h hb) h
theorem up_ls {q W : Addr} {H : Hp} {xs : List Str} {kv : List (Key × V)} {o : HO} (hW : H W = some (.dK kv)) (h : H q = some (.lst (xs.map V.str))) : upd H W o q = some (.lst (xs.map V.str)) := by
  rw [upd_ne (strs_ne_dk h hW)]
  exact h
section
variable {P : Program} {w : World} {K : PySem.W.Frag} {mg : Str → Option Value} {base : Heap}
def spWorld : Sp := fun vs H Q _ => ∃ (b : Addr) (nj nw : Nat), vs = [.ref b, .int (nj : Nat), .int (nw : Nat)] ∧ 1 ≤ nj ∧ nj ≤ 6 ∧ nw ≤ 6 ∧ (∃ c s n : Int, H b = some (.lst [.int c, .int s, .int n])) ∧
  ∀ W d H', Bx b H H' → H W = none → WS H' b W d → Wnew d nj nw → Q (.ref W) H'
abbrev N_world : List Str := ["_law_box_here", "_law_jobs", "_law_walks", "_law_others", "_law_world_here", "_law_name"]
theorem sc_world : FnScope N_world ["_law_box_here", "_law_jobs", "_law_walks"] (defScope s_law_world) := ⟨rfl, rfl, rfl, by decide +kernel, rfl, by decide +kernel, by decide +kernel⟩
theorem ok_world (T : Hd K mg) : LyC.Cl CX0 P w K mg base 4 "_law_world" spWorld [] := by
  obtain ⟨fd, F⟩ := T.f_law_world
  refine ⟨_, fd, ["_law_box_here", "_law_jobs", "_law_walks"], [], F.ok sc_world (fun vs H Q E h => ?_) (fun cdv A outer s H vs Q E hr h => ?_), T.g_law_world, F.kp, F.bindsN fun _ _ _ _ _ _ us hl => match us, hl with | [_, _, _], _ => rfl, .nil⟩
  · obtain ⟨b, nj, nw, rfl, _⟩ := h
    rfl
  · obtain ⟨b, nj, nw, rfl, j1, j6, w6, hb, k⟩ := h
    refine ⟨_, (pss_cons (ps_setLc (i := 3) (own := [("_law_name", 5)]) (g := gName 5) rfl sc_world.nd rfl rfl (sw_true rfl rfl rfl (by decide +kernel)) (pi_list (LyC.pe_f (ok_nms T) hr (pa_cons (pv 0) (pa_cons pe_int pa_nil)))) (blkOk_by (N := N_world) (sc := defScope s_law_world) (by decide +kernel)) (fun _ _ _ _ _ => (pg_name (i := 5) sc_world.nd rfl (Or.inl rfl))) (fun _ _ _ _ _ => pts_one (pt_cmpR op_ne (pv 5) pe_str (nomark _))) (fun _ _ _ _ _ => (pv 5)))
      (pss_cons (ps_set (i := 4) sc_world.nd rfl (Or.inl rfl) (pe_disp (pps_cons pe_str (pe_op op_cat (pe_lst (pa_cons pe_str pa_nil)) (pe_slice sl_list (pv 3) po_none (po_some (LyC.pe_f (ok_tk T) hr (pa_cons (pv 0) (pa_cons (pv 1) pa_nil)))))) (pps_cons pe_str pe_str (pps_cons pe_str pe_int (pps_cons pe_str pe_int (pps_cons pe_str (pe_lst pa_nil) pps_nil))))) rfl rfl (List.cons_ne_nil _ _) (by decide)))
      (pss_cons (ps_dput (hu_of hr) (pv 4) pe_str (pe_slice sl_list (LyC.pe_f (ok_nms T) hr (pa_cons (pv 0) (pa_cons pe_int pa_nil))) po_none (po_some (LyC.pe_f (ok_tk T) hr (pa_cons (pv 0) (pa_cons (pe_op op_add (pv 2) pe_int) pa_nil))))) rfl)
      (pss_cons (ps_dput (hu_of hr) (pv 4) pe_str (LyC.pe_f (ok_nms T) hr (pa_cons (pv 0) (pa_cons (pe_op op_add pe_int (LyC.pe_f (ok_tk T) hr (pa_cons (pv 0) (pa_cons pe_int pa_nil)))) pa_nil))) rfl)
      (pss_cons (ps_dput (hu_of hr) (pv 4) pe_str (LyC.pe_f (ok_nms T) hr (pa_cons (pv 0) (pa_cons (pe_op op_add pe_int (LyC.pe_f (ok_tk T) hr (pa_cons (pv 0) (pa_cons pe_int pa_nil)))) pa_nil))) rfl)
      (pss_one (ps_ret (pv 4)))))))), ?_⟩
    have one : 1 ≤ sizeLine := by decide
    refine ⟨_, rfl, b, 7, rfl, by decide, hb, fun p xs H1 B1 np hp xl xn xo => ⟨p, rfl, ⟨_, SqL.of hp⟩, fun D hD => ?_⟩⟩
    refine lc_it (walk_list (K := K) (a := p) (xs := xs.map V.str)) (LyC.LcP _ D (LyC.filTo (fun z : Str => !decide (z = "main")) V.str xs)) (LyC.lcp0 hD rfl) (fun i Hx _ z => SqL.of (z.1 _ _ hp)) ?_ ?_
    · rintro i x Ha Hb hi ⟨s2, e3⟩ ⟨rfl, hx⟩
      rw [List.getElem?_map] at hx
      obtain ⟨z, hz, rfl⟩ := Option.map_eq_some_iff.mp hx
      refine ⟨rfl, _, rfl, rfl, _, rfl, ?_⟩
      rw [dec_str]
      have nx := LyC.filTo_next (p := fun z : Str => !decide (z = "main")) (f := V.str) hz
      by_cases c : z = "main"
      · rw [decide_eq_true c] at nx ⊢
        exact iteF (LyC.lcp_skip s2 e3 nx)
      · rw [decide_eq_false c] at nx ⊢
        exact iteT ⟨_, rfl, LyC.lcp_next hD s2 e3 (Nat.lt_of_le_of_lt (LyC.filTo_len _ _ _ _) (by rw [sizeLine_eq]; omega)) nx⟩
    · rintro Ha ⟨s1, e1⟩
      have B2 : Bx b H Ha := B1.same s1
      generalize hot : xs.filter (fun z : Str => !decide (z = "main")) = ot
      have hDa : Ha D = some (.lst (ot.map V.str)) := by
        rw [e1, List.length_map, LyC.filTo_all, hot]
      have oto : ∀ x ∈ ot, isName x = true ∧ x ≠ "main" := fun x hx => by
        rw [← hot, List.mem_filter] at hx
        refine ⟨xo x hx.1, fun z => ?_⟩
        rw [decide_eq_true z] at hx
        cases hx.2
      have otn : ot.Nodup := by
        rw [← hot]
        exact xn.sublist List.filter_sublist
      intro W hW
      have hW0 : H W = none := by
        cases e : H W with
        | none => rfl
        | some o =>
          by_cases hqb : W = b
          · subst hqb
            obtain ⟨c, z, n, e⟩ := B2.bx
            rw [e] at hW
            cases hW
          · rw [B2.keep W o hqb e] at hW
            cases hW
      have B3 := B2.new (o := .dK []) hW
      have hW3 : (upd Ha W (.dK [])) W = some (.dK []) := upd_same
      have nWb : W ≠ b := dk_ne_box hW3 B3.bx
      have hD3 := LyC.same_new (o := .dK []) hW _ _ hDa
      refine ⟨one, fun a1 ha1 => ⟨_, rfl, _, rfl, _, rfl, b, nj, rfl, by omega, by omega, (B3.new ha1).bx, fun t H5 t0 t1 B5 => ?_⟩⟩
      have z1 := LyC.same_new (o := .lst ((["main"] : List Str).map V.str)) ha1
      have B4 := B3.new (o := .lst ((["main"] : List Str).map V.str)) ha1
      have h14 := Bx.ls B5 B4.bx (upd_same (o := .lst ((["main"] : List Str).map V.str)))
      have hD5 := Bx.ls B5 B4.bx (z1 _ _ hD3)
      have hW5 := Bx.dk B5 B4.bx (z1 _ _ hW3)
      have B6 := B4.trans B5
      obtain ⟨tj, rfl⟩ := Int.eq_ofNat_of_zero_le t0
      refine ⟨_, rfl, D, _, rfl, SqL.of hD5, fun a2 ha2 => ?_⟩
      rw [cutTo, ← List.map_take]
      have z2 := LyC.same_new (o := .lst ((ot.take tj).map V.str)) ha2
      refine ⟨a1, a2, _, _, rfl, rfl, z2 _ _ h14, upd_same, (by rw [sizeLine_eq, List.length_map, List.length_map, List.length_take]; show 1 + _ ≤ _; omega), fun aj haj => ⟨Nat.zero_le _, fun ak hak => ?_⟩⟩
      have ej : (["main"] : List Str).map V.str ++ (ot.take tj).map V.str = (("main" : Str) :: ot.take tj).map V.str := rfl
      rw [ej]
      rw [ej] at hak
      have z3 := LyC.same_new (o := .lst ((("main" : Str) :: ot.take tj).map V.str)) haj
      have z4 := LyC.same_new (o := .lst (([] : List Str).map V.str)) hak
      have zz := (z2.trans z3).trans z4
      have B7 := B6.same zz
      have hW7 := zz _ _ hW5
      refine ⟨hW7, [(Sum.inr "jobs", .ref aj), (Sum.inr "sort", .str "job"), (Sum.inr "left", .int 0), (Sum.inr "deep", .int 4), (Sum.inr "known", .ref ak)], rfl, (by show 5 ≤ 15; decide), ?_⟩
      rw [wmerge]
      have haj8 := up_ls (o := .dK [(Sum.inr "jobs", .ref aj), (Sum.inr "sort", .str "job"), (Sum.inr "left", .int 0), (Sum.inr "deep", .int 4), (Sum.inr "known", .ref ak)]) hW7 (z4 _ _ (upd_same (o := .lst ((("main" : Str) :: ot.take tj).map V.str))))
      have hak8 := up_ls (o := .dK [(Sum.inr "jobs", .ref aj), (Sum.inr "sort", .str "job"), (Sum.inr "left", .int 0), (Sum.inr "deep", .int 4), (Sum.inr "known", .ref ak)]) hW7 (upd_same (o := .lst (([] : List Str).map V.str)))
      have B8 := B7.put (o := .dK [(Sum.inr "jobs", .ref aj), (Sum.inr "sort", .str "job"), (Sum.inr "left", .int 0), (Sum.inr "deep", .int 4), (Sum.inr "known", .ref ak)]) hW0 nWb
      refine ⟨_, rfl, b, 6, rfl, by decide, B8.bx, fun p2 ws H9 B9 np2 hp2 wl wn wo => ?_⟩
      have haj9 := Bx.ls B9 B8.bx haj8
      have hak9 := Bx.ls B9 B8.bx hak8
      have hW9 := Bx.dk B9 B8.bx (upd_same (o := .dK [(Sum.inr "jobs", .ref aj), (Sum.inr "sort", .str "job"), (Sum.inr "left", .int 0), (Sum.inr "deep", .int 4), (Sum.inr "known", .ref ak)]))
      have B9' := B8.trans B9
      refine ⟨_, rfl, _, rfl, _, _, rfl, rfl, b, _, rfl, by omega, by omega, B9'.bx, fun t2 H10 t20 t21 B10 => ?_⟩
      obtain ⟨tw, rfl⟩ := Int.eq_ofNat_of_zero_le t20
      have haj10 := Bx.ls B10 B9'.bx haj9
      have hak10 := Bx.ls B10 B9'.bx hak9
      have hp10 := Bx.ls B10 B9'.bx hp2
      have hW10 := Bx.dk B10 B9'.bx hW9
      have B10' := B9'.trans B10
      refine ⟨_, rfl, p2, _, rfl, SqL.of hp10, fun aw haw => ?_⟩
      rw [cutTo, ← List.map_take]
      have z5 := LyC.same_new (o := .lst ((ws.take tw).map V.str)) haw
      refine ⟨_, rfl, W, _, rfl, DPut.k (k := Sum.inr "walks") (z5 _ _ hW10) (by show 5 < sizeLine; decide), ?_⟩
      rw [wput1]
      have B11 := (B10'.same z5).put (o := .dK [(Sum.inr "jobs", .ref aj), (Sum.inr "sort", .str "job"), (Sum.inr "left", .int 0), (Sum.inr "deep", .int 4), (Sum.inr "known", .ref ak), (Sum.inr "walks", .ref aw)]) hW0 nWb
      have haj11 := up_ls (o := .dK [(Sum.inr "jobs", .ref aj), (Sum.inr "sort", .str "job"), (Sum.inr "left", .int 0), (Sum.inr "deep", .int 4), (Sum.inr "known", .ref ak), (Sum.inr "walks", .ref aw)]) (z5 _ _ hW10) (z5 _ _ haj10)
      have hak11 := up_ls (o := .dK [(Sum.inr "jobs", .ref aj), (Sum.inr "sort", .str "job"), (Sum.inr "left", .int 0), (Sum.inr "deep", .int 4), (Sum.inr "known", .ref ak), (Sum.inr "walks", .ref aw)]) (z5 _ _ hW10) (z5 _ _ hak10)
      have haw11 := up_ls (o := .dK [(Sum.inr "jobs", .ref aj), (Sum.inr "sort", .str "job"), (Sum.inr "left", .int 0), (Sum.inr "deep", .int 4), (Sum.inr "known", .ref ak), (Sum.inr "walks", .ref aw)]) (z5 _ _ hW10) (upd_same (o := .lst ((ws.take tw).map V.str)))
      refine ⟨_, rfl, _, rfl, b, 4, rfl, by decide, by decide, B11.bx, fun t3 H12 t30 t31 B12 => ?_⟩
      obtain ⟨tg, rfl⟩ := Int.eq_ofNat_of_zero_le t30
      have B12' := B11.trans B12
      refine ⟨_, _, rfl, rfl, b, 1 + tg, (by show [V.ref b, V.int (1 + (tg : Int))] = [V.ref b, V.int ((1 + tg : Nat) : Int)]; rw [Int.natCast_add]; rfl), by omega, B12'.bx, fun ag gs H13 B13 _ hag gl gn go => ?_⟩
      have haj13 := Bx.ls B13 B12'.bx (Bx.ls B12 B11.bx haj11)
      have hak13 := Bx.ls B13 B12'.bx (Bx.ls B12 B11.bx hak11)
      have haw13 := Bx.ls B13 B12'.bx (Bx.ls B12 B11.bx haw11)
      have hW13 := Bx.dk B13 B12'.bx (Bx.dk B12 B11.bx (upd_same (o := .dK [(Sum.inr "jobs", .ref aj), (Sum.inr "sort", .str "job"), (Sum.inr "left", .int 0), (Sum.inr "deep", .int 4), (Sum.inr "known", .ref ak), (Sum.inr "walks", .ref aw)])))
      refine ⟨_, rfl, W, _, rfl, DPut.k (k := Sum.inr "gates") hW13 (by show 6 < sizeLine; decide), ?_⟩
      rw [wput2]
      have B14 := (B12'.trans B13).put (o := .dK [(Sum.inr "jobs", .ref aj), (Sum.inr "sort", .str "job"), (Sum.inr "left", .int 0), (Sum.inr "deep", .int 4), (Sum.inr "known", .ref ak), (Sum.inr "walks", .ref aw), (Sum.inr "gates", .ref ag)]) hW0 nWb
      have haj14 := up_ls (o := .dK [(Sum.inr "jobs", .ref aj), (Sum.inr "sort", .str "job"), (Sum.inr "left", .int 0), (Sum.inr "deep", .int 4), (Sum.inr "known", .ref ak), (Sum.inr "walks", .ref aw), (Sum.inr "gates", .ref ag)]) hW13 haj13
      have hak14 := up_ls (o := .dK [(Sum.inr "jobs", .ref aj), (Sum.inr "sort", .str "job"), (Sum.inr "left", .int 0), (Sum.inr "deep", .int 4), (Sum.inr "known", .ref ak), (Sum.inr "walks", .ref aw), (Sum.inr "gates", .ref ag)]) hW13 hak13
      have haw14 := up_ls (o := .dK [(Sum.inr "jobs", .ref aj), (Sum.inr "sort", .str "job"), (Sum.inr "left", .int 0), (Sum.inr "deep", .int 4), (Sum.inr "known", .ref ak), (Sum.inr "walks", .ref aw), (Sum.inr "gates", .ref ag)]) hW13 haw13
      have hag14 := up_ls (o := .dK [(Sum.inr "jobs", .ref aj), (Sum.inr "sort", .str "job"), (Sum.inr "left", .int 0), (Sum.inr "deep", .int 4), (Sum.inr "known", .ref ak), (Sum.inr "walks", .ref aw), (Sum.inr "gates", .ref ag)]) hW13 hag
      refine ⟨_, rfl, _, rfl, b, 4, rfl, by decide, by decide, B14.bx, fun t4 H15 t40 t41 B15 => ?_⟩
      obtain ⟨tn, rfl⟩ := Int.eq_ofNat_of_zero_le t40
      have B15' := B14.trans B15
      refine ⟨_, _, rfl, rfl, b, 1 + tn, (by show [V.ref b, V.int (1 + (tn : Int))] = [V.ref b, V.int ((1 + tn : Nat) : Int)]; rw [Int.natCast_add]; rfl), by omega, B15'.bx, fun an ns H16 B16 _ han nl nn no => ?_⟩
      have hW16 := Bx.dk B16 B15'.bx (Bx.dk B15 B14.bx (upd_same (o := .dK [(Sum.inr "jobs", .ref aj), (Sum.inr "sort", .str "job"), (Sum.inr "left", .int 0), (Sum.inr "deep", .int 4), (Sum.inr "known", .ref ak), (Sum.inr "walks", .ref aw), (Sum.inr "gates", .ref ag)])))
      refine ⟨_, rfl, W, _, rfl, DPut.k (k := Sum.inr "notes") hW16 (by show 7 < sizeLine; decide), ?_⟩
      rw [wput3]
      have B17 := (B15'.trans B16).put (o := .dK [(Sum.inr "jobs", .ref aj), (Sum.inr "sort", .str "job"), (Sum.inr "left", .int 0), (Sum.inr "deep", .int 4), (Sum.inr "known", .ref ak), (Sum.inr "walks", .ref aw), (Sum.inr "gates", .ref ag), (Sum.inr "notes", .ref an)]) hW0 nWb
      have up : ∀ {q : Addr} {ys : List Str}, H16 q = some (.lst (ys.map V.str)) → (upd H16 W (.dK [(Sum.inr "jobs", .ref aj), (Sum.inr "sort", .str "job"), (Sum.inr "left", .int 0), (Sum.inr "deep", .int 4), (Sum.inr "known", .ref ak), (Sum.inr "walks", .ref aw), (Sum.inr "gates", .ref ag), (Sum.inr "notes", .ref an)])) q = some (.lst (ys.map V.str)) := fun h => up_ls hW16 h
      have st : ∀ {q : Addr} {ys : List Str}, (upd H13 W (.dK [(Sum.inr "jobs", .ref aj), (Sum.inr "sort", .str "job"), (Sum.inr "left", .int 0), (Sum.inr "deep", .int 4), (Sum.inr "known", .ref ak), (Sum.inr "walks", .ref aw), (Sum.inr "gates", .ref ag)])) q = some (.lst (ys.map V.str)) → H16 q = some (.lst (ys.map V.str)) := fun h => Bx.ls B16 B15'.bx (Bx.ls B15 B14.bx h)
      have otl : ot.length ≤ 7 := by
        rw [← hot, ← xl]
        exact List.length_filter_le _ _
      refine ⟨_, rfl, k W ⟨⟨"job", "main" :: ot.take tj, gs, ns, []⟩, ws.take tw, 0, aj, ak, aw, ag, an⟩ _ B17 hW0 ⟨upd_same, up (st haj14), up (st hak14), up (st haw14), up (st hag14), up han, B17.bx⟩ ?_⟩
      refine ⟨rfl, rfl, rfl, ⟨_, rfl⟩, ?_, ?_, ?_, wn.sublist (List.take_sublist _ _), fun x hx => wo x (List.mem_of_mem_take hx), ?_, go, ?_, no, ?_⟩
      · refine List.nodup_cons.mpr ⟨fun m => (oto _ (List.mem_of_mem_take m)).2 rfl, otn.sublist (List.take_sublist _ _)⟩
      · intro x hx
        rcases List.mem_cons.mp hx with z | z
        · rw [z]
          decide +kernel
        · exact (oto x (List.mem_of_mem_take z)).1
      · show (ot.take tj).length + 1 ≤ nj
        rw [List.length_take]
        omega
      · show (ws.take tw).length ≤ nw
        rw [List.length_take]
        omega
      · show 1 ≤ gs.length ∧ gs.length ≤ 4
        omega
      · show 1 ≤ ns.length ∧ ns.length ≤ 4
        omega
end

end Ly
namespace Ly
open PySem PySem.Spec PyProof.Rows L2
/-! ### drawn programs: _law_program -/
inductive Pg (jobs gates notes : List Str) (most : Nat) : List Str → List Str → List Str → Prop
  | nil : Pg jobs gates notes most [] [] []
  | job {kn js rs n a} {j : Str} : Pg jobs gates notes most kn js rs → Gr ⟨"job", jobs, gates, notes, kn⟩ false [] 0 n a → n ≤ most → Pg jobs gates notes most kn (js ++ [j]) (rs ++ ([(Str.ofString "job" ++ " ") ++ j] ++ a ++ [Str.ofString "end"]))
  | walk {kn js rs n a} {j : Str} : Pg jobs gates notes most kn js rs → Gr ⟨"walk", jobs, gates, notes, kn⟩ false [] 0 n a → n ≤ most → Pg jobs gates notes most (kn ++ [j]) js (rs ++ ([(Str.ofString "walk" ++ " ") ++ j] ++ a ++ [Str.ofString "end"]))
theorem Pg.len {jobs gates notes : List Str} {most : Nat} {kn js rs : List Str} (h : Pg jobs gates notes most kn js rs) : rs.length ≤ (js.length + kn.length) * (3 * most + 2) := by
  induction h with
  | nil => exact Nat.zero_le _
  | @job kn js rs n a j _ g l ih =>
    have := g.len
    rw [List.length_append, List.length_append, List.length_append, List.length_append]
    have e : (js.length + [j].length + kn.length) * (3 * most + 2) = (js.length + kn.length) * (3 * most + 2) + (3 * most + 2) := by
      show (js.length + 1 + kn.length) * (3 * most + 2) = _
      rw [show js.length + 1 + kn.length = (js.length + kn.length) + 1 by omega, Nat.add_mul, Nat.one_mul]
    rw [e]
    simp only [List.length_cons, List.length_nil]
    omega
  | @walk kn js rs n a j _ g l ih =>
    have := g.len
    rw [List.length_append, List.length_append, List.length_append, List.length_append]
    have e : (js.length + (kn.length + [j].length)) * (3 * most + 2) = (js.length + kn.length) * (3 * most + 2) + (3 * most + 2) := by
      show (js.length + (kn.length + 1)) * (3 * most + 2) = _
      rw [show js.length + (kn.length + 1) = (js.length + kn.length) + 1 by omega, Nat.add_mul, Nat.one_mul]
    rw [e]
    simp only [List.length_cons, List.length_nil]
    omega
def cnt (z : Str) (xs : List Str) : Nat := (xs.filter (fun x => decide (x = z))).length
theorem cnt_perm {z : Str} {xs ys : List Str} (h : xs.Perm ys) : cnt z xs = cnt z ys := (h.filter _).length_eq
theorem cnt_app (z : Str) (xs ys : List Str) : cnt z (xs ++ ys) = cnt z xs + cnt z ys := by
  unfold cnt
  rw [List.filter_append, List.length_append]
theorem cnt_same (z : Str) : ∀ n, cnt z (List.replicate n z) = n
  | 0 => rfl
  | n + 1 => by
    have ih := cnt_same z n
    unfold cnt at ih ⊢
    rw [List.replicate_succ, List.filter_cons, if_pos (decide_eq_true rfl), List.length_cons, ih]
theorem cnt_other {z x : Str} (h : x ≠ z) : ∀ n, cnt z (List.replicate n x) = 0
  | 0 => rfl
  | n + 1 => by
    have ih := cnt_other h n
    unfold cnt at ih ⊢
    rw [List.replicate_succ, List.filter_cons, if_neg (by rw [decide_eq_false h]; decide), ih]
theorem cnt_drop {z x : Str} {xs : List Str} {i : Nat} (h : xs[i]? = some x) : cnt z (xs.drop i) = (if x = z then 1 else 0) + cnt z (xs.drop (i + 1)) := by
  obtain ⟨hl, rfl⟩ := List.getElem?_eq_some_iff.mp h
  rw [List.drop_eq_getElem_cons hl]
  unfold cnt
  rw [List.filter_cons]
  by_cases c : xs[i] = z
  · rw [if_pos (decide_eq_true c), if_pos c, List.length_cons]
    omega
  · rw [if_neg (by rw [decide_eq_false c]; decide), if_neg c]
    omega
theorem last_of {xs : List Str} {n : Nat} (h : xs.length = n + 1) : ∃ ys y, xs = ys ++ [y] ∧ ys.length = n := by
  have hne : xs ≠ [] := by
    intro z
    rw [z] at h
    cases h
  refine ⟨xs.dropLast, xs.getLast hne, (List.dropLast_concat_getLast hne).symm, ?_⟩
  rw [List.length_dropLast, h]
  omega
theorem pop_at (ys : List Str) (y : Str) : ((ys ++ [y]).map V.str)[((ys ++ [y]).map V.str).length - 1]? = some (V.str y) ∧ ((ys ++ [y]).map V.str).dropLast = ys.map V.str := by
  refine ⟨?_, ?_⟩
  · rw [List.length_map, List.length_append, List.map_append]
    show (ys.map V.str ++ [V.str y])[ys.length + 1 - 1]? = _
    rw [show ys.length + 1 - 1 = (ys.map V.str).length by rw [List.length_map]; omega, List.getElem?_append_right (Nat.le_refl _), Nat.sub_self]
    rfl
  · rw [List.map_append]
    exact List.dropLast_concat
def dAt (d : Wd) (so : Str) (kn : List Str) (lf : Nat) (ak : Addr) : Wd := ⟨⟨so, d.g.jobs, d.g.gates, d.g.notes, kn⟩, d.walks, lf, d.aj, ak, d.aw, d.ag, d.an⟩
theorem put_sort (d : Wd) (so z : Str) (kn : List Str) (lf : Nat) (ak : Addr) : putK (wkv (dAt d so kn lf ak)) (Sum.inr "sort") (.str z) = wkv (dAt d z kn lf ak) := by kernel_rfl
theorem put_left' (d : Wd) (so : Str) (kn : List Str) (lf n : Nat) (ak : Addr) : putK (wkv (dAt d so kn lf ak)) (Sum.inr "left") (.int (n : Nat)) = wkv (dAt d so kn n ak) := by kernel_rfl
theorem put_known (d : Wd) (so : Str) (kn kn' : List Str) (lf : Nat) (ak ak' : Addr) : putK (wkv (dAt d so kn lf ak)) (Sum.inr "known") (.ref ak') = wkv (dAt d so kn' lf ak') := by kernel_rfl
theorem WS.ofW {H : Hp} {b W : Addr} {dd d2 : Wd} {o : HO} (S : WS H b W dd) (ho : o = .dK (wkv d2)) (hj : H d2.aj = some (.lst (d2.g.jobs.map V.str))) (hk : H d2.ak = some (.lst (d2.g.known.map V.str))) (hw : H d2.aw = some (.lst (d2.walks.map V.str)))
    (hg : H d2.ag = some (.lst (d2.g.gates.map V.str))) (hn : H d2.an = some (.lst (d2.g.notes.map V.str))) : WS (upd H W o) b W d2 := by
  obtain ⟨c, z, m, e⟩ := S.bx
  refine ⟨by rw [upd_same, ho], up_ls S.dc hj, up_ls S.dc hk, up_ls S.dc hw, up_ls S.dc hg, up_ls S.dc hn, c, z, m, ?_⟩
  rw [upd_ne (Ne.symm (dk_ne_box S.dc S.bx))]
  exact e
theorem WS.putNe {H : Hp} {b W p : Addr} {dd : Wd} {o : HO} (S : WS H b W dd) (hW : W ≠ p) (hb : b ≠ p) (hj : dd.aj ≠ p) (hk : dd.ak ≠ p) (hw : dd.aw ≠ p) (hg : dd.ag ≠ p) (hn : dd.an ≠ p) : WS (upd H p o) b W dd := by
  obtain ⟨c, z, m, e⟩ := S.bx
  refine ⟨?_, ?_, ?_, ?_, ?_, ?_, c, z, m, ?_⟩
  · rw [upd_ne hW]; exact S.dc
  · rw [upd_ne hj]; exact S.hj
  · rw [upd_ne hk]; exact S.hk
  · rw [upd_ne hw]; exact S.hw
  · rw [upd_ne hg]; exact S.hg
  · rw [upd_ne hn]; exact S.hn
  · rw [upd_ne hb]; exact e
structure Pst (H0 H : Hp) (b W ND J L F SA : Addr) (d : Wd) (so : Str) (kn : List Str) (lf : Nat) (ak : Addr) (jl wl rs sorts : List Str) : Prop where
  s0 : WS H0 b W d
  fw : Fw b W H0 H
  ws : WS H b W (dAt d so kn lf ak)
  nd : H ND = some (.dK [(Sum.inr "job", .ref J), (Sum.inr "walk", .ref L)])
  hJ : H J = some (.lst (jl.map V.str))
  hL : H L = some (.lst (wl.map V.str))
  hF : H F = some (.lst (rs.map V.str))
  hS : H SA = some (.lst (sorts.map V.str))
  fN : H0 ND = none
  fJ : H0 J = none
  fL : H0 L = none
  fF : H0 F = none
  nJL : J ≠ L
  nJF : J ≠ F
  nLF : L ≠ F
  sJ : SA ≠ J
  sL : SA ≠ L
  sF : SA ≠ F
  kJ : ak ≠ J
  kL : ak ≠ L
  kF : ak ≠ F
section
variable {H0 H H' : Hp} {b W ND J L F SA ak p : Addr} {d : Wd} {so so' : Str} {kn : List Str} {lf lf' : Nat} {jl wl rs sorts : List Str} {o : HO}
theorem Pst.step (S : Pst H0 H b W ND J L F SA d so kn lf ak jl wl rs sorts) (f : Fw b W H H') (ws : WS H' b W (dAt d so' kn lf' ak)) : Pst H0 H' b W ND J L F SA d so' kn lf' ak jl wl rs sorts :=
  { S with
    fw := S.fw.trans f
    ws := ws
    nd := f ND _ (dk_ne_box S.nd S.ws.bx) (fun z => by have := S.fN; rw [z, S.s0.dc] at this; cases this) S.nd
    hJ := S.ws.ls f S.hJ
    hL := S.ws.ls f S.hL
    hF := S.ws.ls f S.hF
    hS := S.ws.ls f S.hS }
theorem Pst.same (S : Pst H0 H b W ND J L F SA d so kn lf ak jl wl rs sorts) (s : Same H H') : Pst H0 H' b W ND J L F SA d so kn lf ak jl wl rs sorts := S.step (Fw.refl.same s) (S.ws.same s)
theorem Pst.wsPut (S : Pst H0 H b W ND J L F SA d so kn lf ak jl wl rs sorts) (h : H0 p = none) (hk : ak ≠ p) : WS (upd H p o) b W (dAt d so kn lf ak) := by
  obtain ⟨c, z, m, e⟩ := S.s0.bx
  exact S.ws.putNe (ne_of_none S.s0.dc h) (ne_of_none e h) (ne_of_none S.s0.hj h) hk (ne_of_none S.s0.hw h) (ne_of_none S.s0.hg h) (ne_of_none S.s0.hn h)
theorem Pst.putJ (S : Pst H0 H b W ND J L F SA d so kn lf ak jl wl rs sorts) (jl' : List Str) : Pst H0 (upd H J (.lst (jl'.map V.str))) b W ND J L F SA d so kn lf ak jl' wl rs sorts :=
  { S with
    fw := S.fw.put S.fJ
    ws := S.wsPut S.fJ S.kJ
    nd := by rw [upd_ne (ne_of S.nd S.hJ (fun z => nomatch z))]; exact S.nd
    hJ := upd_same
    hL := by rw [upd_ne (Ne.symm S.nJL)]; exact S.hL
    hF := by rw [upd_ne (Ne.symm S.nJF)]; exact S.hF
    hS := by rw [upd_ne S.sJ]; exact S.hS }
theorem Pst.putL (S : Pst H0 H b W ND J L F SA d so kn lf ak jl wl rs sorts) (wl' : List Str) : Pst H0 (upd H L (.lst (wl'.map V.str))) b W ND J L F SA d so kn lf ak jl wl' rs sorts :=
  { S with
    fw := S.fw.put S.fL
    ws := S.wsPut S.fL S.kL
    nd := by rw [upd_ne (ne_of S.nd S.hL (fun z => nomatch z))]; exact S.nd
    hJ := by rw [upd_ne S.nJL]; exact S.hJ
    hL := upd_same
    hF := by rw [upd_ne (Ne.symm S.nLF)]; exact S.hF
    hS := by rw [upd_ne S.sL]; exact S.hS }
theorem Pst.putF (S : Pst H0 H b W ND J L F SA d so kn lf ak jl wl rs sorts) (rs' : List Str) : Pst H0 (upd H F (.lst (rs'.map V.str))) b W ND J L F SA d so kn lf ak jl wl rs' sorts :=
  { S with
    fw := S.fw.put S.fF
    ws := S.wsPut S.fF S.kF
    nd := by rw [upd_ne (ne_of S.nd S.hF (fun z => nomatch z))]; exact S.nd
    hJ := by rw [upd_ne S.nJF]; exact S.hJ
    hL := by rw [upd_ne S.nLF]; exact S.hL
    hF := upd_same
    hS := by rw [upd_ne S.sF]; exact S.hS }
/-- the world's dict is written -/
theorem Pst.world (S : Pst H0 H b W ND J L F SA d so kn lf ak jl wl rs sorts) (ho : o = .dK (wkv (dAt d so' kn lf' ak))) : Pst H0 (upd H W o) b W ND J L F SA d so' kn lf' ak jl wl rs sorts :=
  S.step Fw.refl.world (S.ws.ofW ho S.ws.hj S.ws.hk S.ws.hw S.ws.hg S.ws.hn)
/-- a new list of known walks -/
theorem Pst.know (S : Pst H0 H b W ND J L F SA d so kn lf ak jl wl rs sorts) {kn' : List Str} {a : Addr} (ha : H a = none) : Pst H0 (upd (upd H a (.lst (kn'.map V.str))) W (.dK (wkv (dAt d so kn' lf a)))) b W ND J L F SA d so kn' lf a jl wl rs sorts := by
  have s := LyC.same_new (o := .lst (kn'.map V.str)) ha
  have S1 := S.same s
  have ws := S1.ws.ofW (d2 := dAt d so kn' lf a) (o := .dK (wkv (dAt d so kn' lf a))) rfl S1.ws.hj upd_same S1.ws.hw S1.ws.hg S1.ws.hn
  have f : Fw b W (upd H a (.lst (kn'.map V.str))) (upd (upd H a (.lst (kn'.map V.str))) W (.dK (wkv (dAt d so kn' lf a)))) := Fw.refl.world
  exact { S1 with
    fw := S1.fw.trans f
    ws := ws
    nd := f ND _ (dk_ne_box S1.nd S1.ws.bx) (fun z => by have := S.fN; rw [z, S.s0.dc] at this; cases this) S1.nd
    hJ := S1.ws.ls f S1.hJ
    hL := S1.ws.ls f S1.hL
    hF := S1.ws.ls f S1.hF
    hS := S1.ws.ls f S1.hS
    kJ := (ne_of_none S.hJ ha).symm
    kL := (ne_of_none S.hL ha).symm
    kF := (ne_of_none S.hF ha).symm }
end
theorem jw_j {a b : V} : valV [((Sum.inr "job" : Key), a), (Sum.inr "walk", b)] (Sum.inr "job") = some a := valV_pos rfl
theorem jw_w {a b : V} : valV [((Sum.inr "job" : Key), a), (Sum.inr "walk", b)] (Sum.inr "walk") = some b := by
  rw [valV_neg (by intro z; exact absurd (Sum.inr.inj z) (by decide +kernel)), valV_pos rfl]
theorem jw_merge {a b : V} : mergeK [] [((Sum.inr "job" : Key), a), (Sum.inr "walk", b)] = [((Sum.inr "job" : Key), a), (Sum.inr "walk", b)] := by kernel_rfl
/-- a world that a program can be drawn of -/
structure Wst (d : Wd) : Prop where
  known : d.g.known = []
  jobs : NmOk d.g.jobs
  walks : NmOk d.walks
  gates : NmOk d.g.gates
  notes : NmOk d.g.notes
  j0 : d.g.jobs ≠ []
  g0 : d.g.gates ≠ []
  n0 : d.g.notes ≠ []
theorem Wnew.st {d : Wd} {nj nw : Nat} (h : Wnew d nj nw) (h1 : nj ≤ 6) (h2 : nw ≤ 6) : Wst d := by
  obtain ⟨os, hj⟩ := h.jobs
  refine ⟨h.known, ⟨Nat.le_trans h.jl (by omega), h.jo⟩, ⟨Nat.le_trans h.wl (by omega), h.wo⟩, ⟨Nat.le_trans h.gl.2 (by omega), h.go⟩, ⟨Nat.le_trans h.nl.2 (by omega), h.no⟩, ?_, ?_, ?_⟩
  · rw [hj]
    exact List.cons_ne_nil _ _
  · intro z
    have := h.gl.1
    rw [z] at this
    exact absurd this (by decide)
  · intro z
    have := h.nl.1
    rw [z] at this
    exact absurd this (by decide)

end Ly
namespace Ly
open PySem PySem.Spec PyProof.Rows L2
/-! ### drawn programs: _law_program itself -/
section
variable {P : Program} {w : World} {K : PySem.W.Frag} {mg : Str → Option Value} {base : Heap}
def spProgram : Sp := fun vs H Q _ => ∃ (b W : Addr) (d : Wd) (most : Nat), vs = [.ref b, .ref W, .int (most : Nat)] ∧ WS H b W d ∧ Wst d ∧ most ≤ 10 ∧
  ∀ p rs H' so kn lf ak js, Fw b W H H' → WS H' b W (dAt d so kn lf ak) → H p = none → H' p = some (.lst (rs.map V.str)) → Pg d.g.jobs d.g.gates d.g.notes most kn js rs → js.Perm d.g.jobs → kn.reverse = d.walks → Q (.ref p) H'
abbrev N_prog : List Str := ["_law_box_here", "_law_world_here", "_law_most", "_law_sorts", "_law_names_here", "_law_found", "_law_sort", "_law_name", "_law_rows_here", "_law_turn"]
theorem sc_prog : FnScope N_prog ["_law_box_here", "_law_world_here", "_law_most"] (defScope s_law_program) := ⟨rfl, rfl, rfl, by decide +kernel, rfl, by decide +kernel, by decide +kernel⟩
theorem rep_str' (n : Nat) (z : Str) : (List.replicate (Int.toNat ((n : Nat) : Int)) [V.str z]).flatten = (List.replicate n z).map V.str := by
  rw [Int.toNat_natCast]
  induction n with
  | zero => rfl
  | succ n ih =>
    rw [List.replicate_succ, List.replicate_succ, List.flatten_cons, List.map_cons, ih]
    rfl
theorem ok_prog (T : Hd K mg) : LyC.Cl CX0 P w K mg base 17 "_law_program" spProgram [] := by
  obtain ⟨fd, F⟩ := T.f_law_program
  refine ⟨_, fd, ["_law_box_here", "_law_world_here", "_law_most"], [], F.ok sc_prog (fun vs H Q E h => ?_) (fun cdv A outer s H vs Q E hr h => ?_), T.g_law_program, F.kp, F.bindsN fun _ _ _ _ _ _ us hl => match us, hl with | [_, _, _], _ => rfl, .nil⟩
  · obtain ⟨b, W, d, most, rfl, _⟩ := h
    rfl
  · obtain ⟨b, W, d, most, rfl, S0, ok, hmost, k⟩ := h
    have one : 1 ≤ sizeLine := by decide
    have two : 2 ≤ sizeLine := by decide
    have jfew := ok.jobs.few
    have wfew := ok.walks.few
    -- the rows of a definition and what follows
    obtain ⟨tT, hT, gT⟩ : ∃ t, PSs (cxOf CX0 P w K mg base N_prog "_law_program" (defScope s_law_program) (d_law_program.at_ K) cdv A outer s H E) ((forBody ((defBody s_law_program).getD 2 (.Pass ⟨0, 0, 0, 0⟩))).drop 1) t ∧
        ∀ (D : Ends) (v8 v9 : Option V) (ND J L F SA ak : Addr) (so sort nm : Str) (kn jl wl rs sorts : List Str) (lf : Nat) (Hc : Hp), Pst H Hc b W ND J L F SA d so kn lf ak jl wl rs sorts → NmOk kn → nm.length ≤ 8 → sort ∈ (["job", "walk"] : List Str) → rs.length ≤ 10000 →
          (∀ (v8 v9 : Option V) (ak' : Addr) (lf' n : Nat) (a : List Str) (H' : Hp), Pst H H' b W ND J L F SA d sort (if sort = "walk" then kn ++ [nm] else kn) lf' ak' jl wl (rs ++ ([(sort ++ " ") ++ nm] ++ a ++ [Str.ofString "end"])) sorts → Gr ⟨sort, d.g.jobs, d.g.gates, d.g.notes, kn⟩ false [] 0 n a → n ≤ most →
            D.nx [some (.ref b), some (.ref W), some (.int (most : Nat)), some (.ref SA), some (.ref ND), some (.ref F), some (.str sort), some (.str nm), v8, v9] H') →
          t D [some (.ref b), some (.ref W), some (.int (most : Nat)), some (.ref SA), some (.ref ND), some (.ref F), some (.str sort), some (.str nm), v8, v9] Hc := by
      refine ⟨_, (pss_cons (ps_asg (pe_tup (pa_cons (pv 6) (pa_cons (pv 2) pa_nil))) (pg_tup (n := 2) rfl (pgs_cons (pg_sub (pv 1) pe_str (set_dict (hu_of hr))) (pgs_cons (pg_sub (pv 1) pe_str (set_dict (hu_of hr))) pgs_nil))))
        (pss_cons (ps_set (i := 8) sc_prog.nd rfl (Or.inl rfl) (pe_lst pa_nil))
        (pss_cons (ps_for (passes_of rfl) rfl (pi_range1 rfl T.n_range (pa_cons pe_int pa_nil)) (pg_name (i := 9) sc_prog.nd rfl (Or.inl rfl))
          (pss_one (ps_expr (pe_bm PySem.F.plainAttrs_list PySem.F.slot_list_extend PySem.F.type_list_extend mt_extend (pv 8) (pa_cons (LyC.pe_f (gen_rows T) hr (pa_cons (pv 0) (pa_cons (pv 1) (pa_cons pe_int (pa_cons pe_bl (pa_cons (pe_lst pa_nil) pa_nil)))))) pa_nil)))))
        (pss_cons (ps_expr (pe_bm PySem.F.plainAttrs_list PySem.F.slot_list_extend PySem.F.type_list_extend mt_extend (pv 5) (pa_cons (pe_op op_cat (pe_op op_cat (pe_lst (pa_cons (pe_op op_add_str (pe_op op_add_str (pv 6) pe_str) (pv 7)) pa_nil)) (pv 8)) (pe_lst (pa_cons pe_str pa_nil))) pa_nil)))
        (pss_one (ps_if (pt_cmpR op_eq (pv 6) pe_str (nomark _))
          (pss_one (ps_dput (hu_of hr) (pv 1) pe_str (pe_op op_cat (pe_dget (hu_of hr) (pv 1) pe_str (fun _ _ => rfl)) (pe_lst (pa_cons (pv 7) pa_nil))) rfl))
          pss_nil)))))), ?_⟩
      intro D v8 v9 ND J L Fo SA ak so sort nm kn jl wl rs sorts lf Hc S okn hnm hso hrl kk
      refine ⟨_, rfl, _, rfl, two, fun t ht => ?_⟩
      have S1 := S.same (LyC.same_new (o := .tup [V.str sort, V.int (most : Nat)]) ht)
      refine ⟨t, _, rfl, SqT.of upd_same, rfl, _, _, rfl, _, rfl, W, _, rfl, DPut.k (k := Sum.inr "sort") S1.ws.dc (by show 8 < sizeLine; decide), ?_⟩
      have S2 := S1.world (so' := sort) (lf' := lf) (o := .dK (putK (wkv (dAt d so kn lf ak)) (Sum.inr "sort") (.str sort))) (by rw [put_sort])
      refine ⟨_, _, rfl, _, rfl, W, _, rfl, DPut.k (k := Sum.inr "left") S2.ws.dc (by show 8 < sizeLine; decide), rfl, ?_⟩
      have S3 := S2.world (so' := sort) (lf' := most) (o := .dK (putK (wkv (dAt d sort kn lf ak)) (Sum.inr "left") (.int (most : Nat)))) (by rw [put_left'])
      refine ⟨Nat.zero_le _, fun R hR => ?_⟩
      have S4 := S3.same (LyC.same_new (o := .lst (([] : List Str).map V.str)) hR)
      refine ⟨2, rfl, by decide, by decide, ?_⟩
      have okd : Wd.Ok (dAt d sort kn most ak) := ⟨ok.jobs, ok.gates, ok.notes, okn, ok.j0, ok.g0, ok.n0, by show most ≤ 100; omega⟩
      -- the heap in which R is new
      generalize hHr : upd (upd (upd Hc t (HO.tup [V.str sort, V.int (most : Nat)])) W (.dK (putK (wkv (dAt d so kn lf ak)) (Sum.inr "sort") (.str sort)))) W (.dK (putK (wkv (dAt d sort kn lf ak)) (Sum.inr "left") (.int (most : Nat)))) = Hr at S3 S4 hR ⊢
      refine for_range (n := 2) (fun i σ Hx => ∃ (v9 : Option V) (n : Nat) (a : List Str), σ = [some (.ref b), some (.ref W), some (.int (most : Nat)), some (.ref SA), some (.ref ND), some (.ref Fo), some (.str sort), some (.str nm), some (.ref R), v9] ∧
          Fw b W Hr Hx ∧ WS Hx b W (dAt d sort kn n ak) ∧ n ≤ most ∧ Hx R = some (.lst (a.map V.str)) ∧ Gr ⟨sort, d.g.jobs, d.g.gates, d.g.notes, kn⟩ false [] 0 (most - n) a)
        ⟨v9, most, [], rfl, Fw.refl.put hR, S4.ws, Nat.le_refl _, upd_same, by rw [Nat.sub_self]; exact .nil _ _ _⟩ ?_ ?_
      · rintro i σ Hx hi ⟨v9, n, a, rfl, f, Sx, hn, hRx, gr⟩
        refine ⟨_, rfl, .inl ⟨rfl, _, SqL.of hRx⟩, _, rfl, _, rfl, Nat.zero_le _, fun q hq => ?_⟩
        have z1 := LyC.same_new (o := .lst (([] : List Str).map V.str)) hq
        have Sq := Sx.same z1
        refine ⟨b, W, q, false, [], dAt d sort kn n ak, rfl, Sq, upd_same, ⟨okd.jobs, okd.gates, okd.notes, okd.known, okd.j0, okd.g0, okd.n0, by show n ≤ 100; omega⟩, Nat.le_refl _, fun p a2 H2 n2 f2 S2' hn2 hp gr2 => ?_⟩
        have hn2' : n2 ≤ n := hn2
        have hR2 := Sq.ls f2 (z1 _ _ hRx)
        have l1 := gr.len
        have l2 : a2.length ≤ 3 * (n - n2 + 0) := gr2.len
        refine ⟨R, p, _, _, rfl, rfl, hR2, hp, (by rw [sizeLine_eq, List.length_map, List.length_map]; omega), ?_⟩
        refine ⟨_, n2, a ++ a2, rfl, ((f.same z1).trans f2).put hR, S2'.putNe ?_ ?_ ?_ ?_ ?_ ?_ ?_, by omega, by rw [upd_same, List.map_append], ?_⟩
        · exact ne_of_none S3.ws.dc hR
        · obtain ⟨c0, z0, m0, e0⟩ := S3.ws.bx
          exact ne_of_none e0 hR
        · exact ne_of_none S3.ws.hj hR
        · exact ne_of_none S3.ws.hk hR
        · exact ne_of_none S3.ws.hw hR
        · exact ne_of_none S3.ws.hg hR
        · exact ne_of_none S3.ws.hn hR
        · have g3 := gr.app gr2
          have e3 : most - n + ((dAt d sort kn n ak).left - n2 + 0) = most - n2 := by
            show most - n + (n - n2 + 0) = most - n2
            omega
          rw [e3] at g3
          exact g3
      · rintro σ Hx ⟨v9, n, a, rfl, f, Sx, hn, hRx, gr⟩
        have S5 := S3.step f Sx
        have hso4 : sort.length ≤ 4 := by
          simp only [List.mem_cons, List.not_mem_nil, or_false] at hso
          rcases hso with rfl | rfl <;> decide +kernel
        have e1 : (sort ++ (" " : Str)).length = sort.length + 1 := Str.length_append _ _
        have l1 := gr.len
        refine ⟨_, rfl, .inl ⟨rfl, _, SqL.of S5.hF⟩, _, rfl, _, _, rfl, rfl, (by rw [sizeLine_eq]; show _ + 1 ≤ _; omega), _, rfl, _, _, rfl, rfl, (by rw [sizeLine_eq, e1]; omega), one, fun a1 ha1 => ⟨_, rfl, ?_⟩⟩
        have z1 := LyC.same_new (o := .lst ([(sort ++ (" " : Str)) ++ nm].map V.str)) ha1
        refine ⟨a1, R, _, _, rfl, rfl, upd_same, z1 _ _ hRx, (by rw [sizeLine_eq, List.length_map]; show 1 + _ ≤ _; omega), fun a2 ha2 => ⟨one, fun a3 ha3 => ?_⟩⟩
        have z2 := LyC.same_new (o := .lst ([(sort ++ (" " : Str)) ++ nm].map V.str ++ a.map V.str)) ha2
        have z3 := LyC.same_new (o := .lst ([Str.ofString "end"].map V.str)) ha3
        refine ⟨a2, a3, _, _, rfl, rfl, z3 _ _ upd_same, upd_same, (by rw [sizeLine_eq, List.length_append, List.length_map]; show 1 + _ + 1 ≤ _; omega), fun a4 ha4 => ?_⟩
        have z4 := LyC.same_new (o := .lst ([V.str ((sort ++ (" " : Str)) ++ nm)] ++ a.map V.str ++ [V.str "end"])) ha4
        have em : rs.map V.str ++ ([V.str ((sort ++ (" " : Str)) ++ nm)] ++ a.map V.str ++ [V.str "end"]) = (rs ++ ([(sort ++ (" " : Str)) ++ nm] ++ a ++ [Str.ofString "end"])).map V.str := by
          rw [List.map_append, List.map_append, List.map_append]
          rfl
        have S6 := S5.same (((z1.trans z2).trans z3).trans z4)
        have l3 : ([V.str ((sort ++ (" " : Str)) ++ nm)] ++ a.map V.str ++ [V.str "end"]).length ≤ 100 := by
          rw [List.length_append, List.length_append, List.length_map]
          simp only [List.length_cons, List.length_nil]
          omega
        refine ⟨Fo, a4, _, _, rfl, rfl, S6.hF, upd_same, (by rw [sizeLine_eq, List.length_map]; omega), ?_⟩
        rw [em]
        have S7 := S6.putF (rs ++ ([(sort ++ (" " : Str)) ++ nm] ++ a ++ [Str.ofString "end"]))
        refine ⟨_, rfl, rfl, _, rfl, ?_⟩
        rw [dec_str]
        by_cases c : sort = "walk"
        · rw [decide_eq_true c]
          refine iteT ⟨_, rfl, W, _, rfl, S7.ws.gKnown, _, rfl, one, fun a5 ha5 => ?_⟩
          have z5 := LyC.same_new (o := .lst [V.str nm]) ha5
          have S8 := S7.same z5
          refine ⟨ak, a5, _, _, rfl, rfl, S8.ws.hk, upd_same, (by rw [sizeLine_eq, List.length_map]; have := okn.few; show kn.length + 1 ≤ _; omega), fun a6 ha6 => ?_⟩
          have ek : (dAt d sort kn n ak).g.known.map V.str ++ [V.str nm] = (kn ++ [nm]).map V.str := by rw [List.map_append]; rfl
          rw [ek]
          have z6 := LyC.same_new (o := .lst ((kn ++ [nm]).map V.str)) ha6
          refine ⟨_, rfl, W, _, rfl, DPut.k (k := Sum.inr "known") (S8.same z6).ws.dc (by show 8 < sizeLine; decide), ?_⟩
          rw [put_known d sort kn (kn ++ [nm])]
          have S9 := S8.know (kn' := kn ++ [nm]) ha6
          have q := kk (some (.ref R)) v9 a6 n (most - n) a _ (by rw [if_pos c]; exact S9) gr (by omega)
          exact q
        · rw [decide_eq_false c]
          refine iteF ?_
          exact kk (some (.ref R)) v9 ak n (most - n) a _ (by rw [if_neg c]; exact S7) gr (by omega)
    refine ⟨_, (pss_cons (ps_set (i := 3) sc_prog.nd rfl (Or.inl rfl) (LyC.pe_f (ok_mixed T) hr (pa_cons (pv 0) (pa_cons (pe_op op_cat (pe_op op_rep (pe_lst (pa_cons pe_str pa_nil)) (pe_callB call_len_seq (by rfl) T.n_len PySem.boot_len (pa_cons (pe_dget (hu_of hr) (pv 1) pe_str (fun _ _ => rfl)) pa_nil))) (pe_op op_rep (pe_lst (pa_cons pe_str pa_nil)) (pe_callB call_len_seq (by rfl) T.n_len PySem.boot_len (pa_cons (pe_dget (hu_of hr) (pv 1) pe_str (fun _ _ => rfl)) pa_nil)))) pa_nil))))
      (pss_cons (ps_par (i := 4) (j := 5) (by rfl) sc_prog.nd rfl rfl (by decide) rfl rfl (pa_cons (pe_disp (pps_cons pe_str (LyC.pe_f (ok_mixed T) hr (pa_cons (pv 0) (pa_cons (pe_dget (hu_of hr) (pv 1) pe_str (fun _ _ => rfl)) pa_nil))) (pps_cons pe_str (pe_callTy call_list_of (by rfl) T.n_list (by decide +kernel) (pa_cons (pe_dget (hu_of hr) (pv 1) pe_str (fun _ _ => rfl)) pa_nil)) pps_nil)) rfl rfl (List.cons_ne_nil _ _) (by decide)) (pa_cons (pe_lst pa_nil) pa_nil)) (by rfl))
      (pss_cons (ps_for (passes_of rfl) rfl (pi_list (pv 3)) (pg_name (i := 6) sc_prog.nd rfl (Or.inl rfl))
        (pss_cons (ps_set (i := 7) sc_prog.nd rfl (Or.inl rfl) (pe_bm0 PySem.F.plainAttrs_list PySem.F.slot_list_pop PySem.F.type_list_pop mt_pop (pe_dget (hu_of hr) (pv 4) (pv 6) (fun _ _ => rfl))))
        hT))
      (pss_one (ps_ret (pv 5)))))), ?_⟩
    refine ⟨_, rfl, one, fun a1 ha1 => ⟨_, rfl, W, _, rfl, (S0.new ha1).gJobs, d.aj, _, rfl, .inl (SqL.of (S0.new ha1).hj), ?_⟩⟩
    have z1 := LyC.same_new (o := .lst [V.str "job"]) ha1
    refine ⟨a1, _, _, rfl, rfl, upd_same, by rw [List.length_map]; omega, by rw [List.length_map]; omega, by rw [List.length_map, sizeLine_eq]; show 1 * _ ≤ _; omega, fun a2 ha2 => ?_⟩
    rw [List.length_map, rep_str']
    have z2 := LyC.same_new (o := .lst ((List.replicate d.g.jobs.length (Str.ofString "job")).map V.str)) ha2
    have S2 := (S0.same z1).same z2
    refine ⟨one, fun a3 ha3 => ⟨_, rfl, W, _, rfl, (S2.new ha3).gWalks, d.aw, _, rfl, .inl (SqL.of (S2.new ha3).hw), ?_⟩⟩
    have z3 := LyC.same_new (o := .lst [V.str "walk"]) ha3
    refine ⟨a3, _, _, rfl, rfl, upd_same, by rw [List.length_map]; omega, by rw [List.length_map]; omega, by rw [List.length_map, sizeLine_eq]; show 1 * _ ≤ _; omega, fun a4 ha4 => ?_⟩
    rw [List.length_map, rep_str']
    have z4 := LyC.same_new (o := .lst ((List.replicate d.walks.length (Str.ofString "walk")).map V.str)) ha4
    have S4 := (S2.same z3).same z4
    refine ⟨a2, a4, _, _, rfl, rfl, z4 _ _ (z3 _ _ upd_same), upd_same, (by rw [sizeLine_eq, List.length_map, List.length_map, List.length_replicate, List.length_replicate]; omega), fun a5 ha5 => ?_⟩
    rw [← List.map_append]
    generalize hsrt : List.replicate d.g.jobs.length (Str.ofString "job") ++ List.replicate d.walks.length (Str.ofString "walk") = srt
    have z5 := LyC.same_new (o := .lst (srt.map V.str)) ha5
    have S5 := S4.same z5
    have srl : srt.length ≤ 40 := by
      rw [← hsrt, List.length_append, List.length_replicate, List.length_replicate]
      omega
    refine ⟨b, a5, _, rfl, .inl (SqL.of upd_same), (by rw [List.length_map]; omega), S5.bx, fun SA ys H1 pm nSA B1 hSA => ?_⟩
    obtain ⟨sorts, rfl, ps⟩ := perm_map pm srt rfl
    have S6 := S5.draw B1
    have f6 : Fw b W H H1 := (((((Fw.refl.same z1).same z2).same z3).same z4).same z5).bx B1
    have cj : cnt "job" sorts = d.g.jobs.length := by
      rw [cnt_perm ps, ← hsrt, cnt_app, cnt_same, cnt_other (by decide +kernel), Nat.add_zero]
    have cw : cnt "walk" sorts = d.walks.length := by
      rw [cnt_perm ps, ← hsrt, cnt_app, cnt_same, cnt_other (by decide +kernel), Nat.zero_add]
    have hjw : ∀ x ∈ sorts, x ∈ (["job", "walk"] : List Str) := fun x hx => by
      have := ps.mem_iff.mp hx
      rw [← hsrt, List.mem_append] at this
      rcases this with z | z
      · rw [(List.mem_replicate.mp z).2]
        exact List.mem_cons_self
      · rw [(List.mem_replicate.mp z).2]
        exact List.mem_cons_of_mem _ List.mem_cons_self
    intro ND hND
    have fr : ∀ {q : Addr} {Hc : Hp}, Fw b W H Hc → WS Hc b W d → Hc q = none → H q = none := fun {q Hc} f S n => by
      cases e : H q with
      | none => rfl
      | some o =>
        exfalso
        by_cases h1 : q = b
        · subst h1
          obtain ⟨c, z, m, e⟩ := S.bx
          rw [e] at n
          cases n
        · by_cases h2 : q = W
          · subst h2
            rw [S.dc] at n
            cases n
          · rw [f q o h1 h2 e] at n
            cases n
    have fN := fr f6 S6 hND
    have z7 := LyC.same_new (o := .dK []) hND
    have S7 := S6.same z7
    have f7 := f6.same z7
    refine ⟨_, rfl, _, rfl, W, _, rfl, S7.gJobs, b, d.aj, _, rfl, .inl (SqL.of S7.hj), (by rw [List.length_map]; omega), S7.bx, fun J ys2 H8 pm2 nJ B8 hJ => ?_⟩
    obtain ⟨mj, rfl, pj⟩ := perm_map pm2 d.g.jobs rfl
    have S8 := S7.draw B8
    have f8 := f7.bx B8
    have fJ := fr f7 S7 nJ
    have hND8 := Bx.dk B8 S7.bx (upd_same (o := .dK []))
    have hSA8 := S7.ls' B8 (z7 _ _ hSA)
    have nSJ : SA ≠ J := ne_of_none (z7 _ _ hSA) nJ
    refine ⟨_, rfl, W, _, rfl, S8.gWalks, d.aw, _, rfl, .inl (SqL.of S8.hw), fun L hL => ?_⟩
    have fL := fr f8 S8 hL
    have z9 := LyC.same_new (o := .lst (d.walks.map V.str)) hL
    have S9 := S8.same z9
    have f9 := f8.same z9
    refine ⟨z9 _ _ hND8, [(Sum.inr "job", .ref J), (Sum.inr "walk", .ref L)], rfl, (by show 2 ≤ 15; decide), ?_⟩
    rw [jw_merge]
    have nNDW : ND ≠ W := fun z => by
      rw [z, S0.dc] at fN
      cases fN
    have up10 : ∀ {q : Addr} {zs : List Str}, (upd H8 L (.lst (d.walks.map V.str))) q = some (.lst (zs.map V.str)) → (upd (upd H8 L (.lst (d.walks.map V.str))) ND (.dK [(Sum.inr "job", .ref J), (Sum.inr "walk", .ref L)])) q = some (.lst (zs.map V.str)) := fun h => up_ls (z9 _ _ hND8) h
    have S10 : WS (upd (upd H8 L (.lst (d.walks.map V.str))) ND (.dK [(Sum.inr "job", .ref J), (Sum.inr "walk", .ref L)])) b W d := by
      obtain ⟨c, z, m, e⟩ := S9.bx
      exact ⟨by rw [upd_ne (Ne.symm nNDW)]; exact S9.dc, up10 S9.hj, up10 S9.hk, up10 S9.hw, up10 S9.hg, up10 S9.hn, c, z, m, by rw [upd_ne (Ne.symm (dk_ne_box (z9 _ _ hND8) S9.bx))]; exact e⟩
    have f10 : Fw b W H (upd (upd H8 L (.lst (d.walks.map V.str))) ND (.dK [(Sum.inr "job", .ref J), (Sum.inr "walk", .ref L)])) := f9.put fN
    have hJ10 := up10 (z9 _ _ hJ)
    have hL10 := up10 (upd_same (o := .lst (d.walks.map V.str)))
    have hS10 := up10 (z9 _ _ hSA8)
    refine ⟨Nat.zero_le _, fun Fo hF => ⟨_, _, rfl, ?_⟩⟩
    have fF := fr f10 S10 hF
    have z11 := LyC.same_new (o := .lst (([] : List Str).map V.str)) hF
    have S11 := S10.same z11
    have ed : dAt d d.g.sort [] d.left d.ak = d := by
      rw [← ok.known]
      rfl
    have P0 : Pst H (upd (upd (upd H8 L (.lst (d.walks.map V.str))) ND (.dK [(Sum.inr "job", .ref J), (Sum.inr "walk", .ref L)])) Fo (.lst (([] : List Str).map V.str))) b W ND J L Fo SA d d.g.sort [] d.left d.ak mj d.walks [] sorts :=
      ⟨S0, f10.same z11, by rw [ed]; exact S11, z11 _ _ upd_same, z11 _ _ hJ10, z11 _ _ hL10, upd_same, z11 _ _ hS10, fN, fJ, fL, fF, ne_of_none hJ hL, ne_of_none hJ10 hF, ne_of_none hL10 hF, nSJ, ne_of_none hSA8 hL, ne_of_none hS10 hF, ne_of_none S0.hk fJ, ne_of_none S0.hk fL, ne_of_none S0.hk fF⟩
    refine ⟨_, rfl, SA, rfl, ⟨_, SqL.of P0.hS⟩, ?_⟩
    refine for_it (walk_list (xs := sorts.map V.str)) (fun i σ Hi => ∃ (v6 v7 v8 v9 : Option V) (so : Str) (kn : List Str) (lf : Nat) (ak : Addr) (jl wl rs js : List Str), σ = [some (.ref b), some (.ref W), some (.int (most : Nat)), some (.ref SA), some (.ref ND), some (.ref Fo), v6, v7, v8, v9] ∧
        Pst H Hi b W ND J L Fo SA d so kn lf ak jl wl rs sorts ∧ Pg d.g.jobs d.g.gates d.g.notes most kn js rs ∧ jl ++ js.reverse = mj ∧ wl ++ kn.reverse = d.walks ∧ jl.length = cnt "job" (sorts.drop i) ∧ wl.length = cnt "walk" (sorts.drop i))
      ⟨_, _, _, _, d.g.sort, [], d.left, d.ak, mj, d.walks, [], [], rfl, P0, .nil, by rw [List.reverse_nil, List.append_nil], by rw [List.reverse_nil, List.append_nil], by rw [List.drop_zero, cj, pj.length_eq], by rw [List.drop_zero, cw]⟩ (fun i σ Hi _ hz => ?_) ?_ ?_
    · obtain ⟨_, _, _, _, so, kn, lf, ak, jl, wl, rs, js, rfl, S, _⟩ := hz
      exact SqL.of S.hS
    · rintro i x σ Hi Hi' hi ⟨v6, v7, v8, v9, so, kn, lf, ak, jl, wl, rs, js, rfl, S, pg, ej, ew, lj, lw⟩ ⟨rfl, hx⟩
      rw [List.getElem?_map] at hx
      obtain ⟨sort, hsx, rfl⟩ := Option.map_eq_some_iff.mp hx
      have hso := hjw sort (List.mem_of_getElem? hsx)
      have okn : NmOk kn := by
        refine ⟨?_, fun x hx => ok.walks.nm x ?_⟩
        · have := congrArg List.length ew
          rw [List.length_append, List.length_reverse] at this
          omega
        · rw [← ew]
          exact List.mem_append.mpr (.inr (List.mem_reverse.mpr hx))
      have knl : kn.length ≤ 20 := okn.few
      have jsl : js.length ≤ 20 := by
        have := congrArg List.length ej
        rw [List.length_append, List.length_reverse, pj.length_eq] at this
        omega
      have rsl : rs.length ≤ 10000 := by
        have h1 := pg.len
        have h2 : (js.length + kn.length) * (3 * most + 2) ≤ 40 * 32 := Nat.mul_le_mul (by omega) (by omega)
        omega
      have c1 := cnt_drop (z := "job") hsx
      have c2 := cnt_drop (z := "walk") hsx
      have nn : ¬ (Str.ofString "job" = Str.ofString "walk") := by decide +kernel
      have hso' : sort = "job" ∨ sort = "walk" := by simpa only [List.mem_cons, List.not_mem_nil, or_false] using hso
      rcases hso' with rfl | rfl
      · rw [if_pos rfl] at c1
        rw [if_neg nn] at c2
        obtain ⟨jl', nm, rfl, lj'⟩ := last_of (n := cnt "job" (sorts.drop (i + 1))) (xs := jl) (by omega)
        obtain ⟨p1, p2⟩ := pop_at jl' nm
        refine ⟨_, rfl, _, rfl, ND, _, rfl, (jw_j ▸ DGet.k (k := Sum.inr "job") S.nd : DGet _ ND (.str "job") (some (.ref J))), .inl ⟨rfl, _, SqL.of S.hJ⟩, J, _, _, rfl, rfl, S.hJ, p1, ?_⟩
        rw [p2]
        have hnm : nm ∈ d.g.jobs := pj.mem_iff.mp (by rw [← ej]; exact List.mem_append.mpr (.inl (List.mem_append.mpr (.inr List.mem_cons_self))))
        refine gT _ _ _ ND J L Fo SA ak so _ nm kn jl' wl rs sorts lf _ (S.putJ jl') okn (nm_len ok.jobs hnm) hso rsl fun v8 v9 ak' lf' n a H' S' gr hn => ?_
        rw [if_neg nn] at S'
        refine ⟨_, _, _, _, _, kn, lf', ak', jl', wl, _, js ++ [nm], rfl, S', .job pg gr hn, ?_, ew, lj', ?_⟩
        · rw [← ej, List.reverse_append, List.append_assoc]
          rfl
        · omega
      · rw [if_neg (Ne.symm nn)] at c1
        rw [if_pos rfl] at c2
        obtain ⟨wl', nm, rfl, lw'⟩ := last_of (n := cnt "walk" (sorts.drop (i + 1))) (xs := wl) (by omega)
        obtain ⟨p1, p2⟩ := pop_at wl' nm
        refine ⟨_, rfl, _, rfl, ND, _, rfl, (jw_w ▸ DGet.k (k := Sum.inr "walk") S.nd : DGet _ ND (.str "walk") (some (.ref L))), .inl ⟨rfl, _, SqL.of S.hL⟩, L, _, _, rfl, rfl, S.hL, p1, ?_⟩
        rw [p2]
        have hnm : nm ∈ d.walks := by rw [← ew]; exact List.mem_append.mpr (.inl (List.mem_append.mpr (.inr List.mem_cons_self)))
        refine gT _ _ _ ND J L Fo SA ak so _ nm kn jl wl' rs sorts lf _ (S.putL wl') okn (nm_len ok.walks hnm) hso rsl fun v8 v9 ak' lf' n a H' S' gr hn => ?_
        rw [if_pos rfl] at S'
        refine ⟨_, _, _, _, _, kn ++ [nm], lf', ak', jl, wl', _, js, rfl, S', .walk pg gr hn, ej, ?_, ?_, lw'⟩
        · rw [← ew, List.reverse_append, List.append_assoc]
          rfl
        · omega
    · rintro σ Hi ⟨v6, v7, v8, v9, so, kn, lf, ak, jl, wl, rs, js, rfl, S, pg, ej, ew, lj, lw⟩
      have e0 : sorts.drop (sorts.map V.str).length = [] := by
        rw [List.length_map]
        exact List.drop_length
      rw [e0] at lj lw
      have jl0 : jl = [] := List.eq_nil_of_length_eq_zero lj
      have wl0 : wl = [] := List.eq_nil_of_length_eq_zero lw
      subst jl0 wl0
      rw [List.nil_append] at ej ew
      refine ⟨_, rfl, k Fo rs Hi so kn lf ak js S.fw S.ws fF S.hF pg ?_ ew⟩
      rw [← ej] at pj
      exact (List.reverse_perm js).symm.trans pj
end

end Ly
namespace Ly
open PySem PySem.Spec PyProof.Rows L2
/-! ### texts of rows: lengths, codes, gates -/
theorem take_gates {s s' : Rs} {wd : Str} {rest : List Str} (h : s.take wd rest = some s') : s'.gates.length ≤ s.gates.length + 1 := by
  unfold Rs.take at h
  split at h
  · unfold Rs.w0 at h
    split at h
    · unfold Rs.defn at h
      split at h
      · cases h
        exact Nat.le_succ _
      · cases h
    · cases h
  · split at h
    · split at h
      · unfold Rs.ended at h
        split at h
        · cases h
        · cases h
        · split at h
          · split at h
            · cases h
              exact Nat.le_succ _
            · cases h
              exact Nat.le_succ _
            · cases h
          · cases h
            exact Nat.le_succ _
      · cases h
    · split at h
      · cases h
      · unfold Rs.within at h
        split at h
        · unfold Rs.w1 at h
          split at h
          · rename_i n
            split at h
            · rename_i hn
              cases h
              show (if wd ∈ (["wait", "open"] : List Str) then _ else _ : List Str).length ≤ _
              split
              · exact putN_len _ _
              · exact Nat.le_succ _
            · cases h
          · cases h
        · split at h
          · unfold Rs.w2 at h
            split at h
            · split at h
              · cases h
                exact Nat.le_succ _
              · cases h
            · cases h
          · split at h
            · unfold Rs.w3 at h
              split at h
              · unfold Rs.pulled at h
                split at h
                · cases h
                  exact Nat.le_succ _
                · cases h
              · unfold Rs.pulled at h
                split at h
                · cases h
                  exact Nat.le_succ _
                · cases h
              · cases h
            · split at h
              · have tn : ∀ {e : En} {s' : Rs}, s.turned e = some s' → s'.gates.length ≤ s.gates.length + 1 := by
                  intro e s' h
                  unfold Rs.turned at h
                  split at h
                  · cases h
                    exact Nat.le_succ _
                  · cases h
                unfold Rs.alone at h
                split at h
                · exact tn h
                · split at h
                  · exact tn h
                  · split at h
                    · cases h
                      exact Nat.le_succ _
                    · split at h
                      · split at h
                        · cases h
                          exact Nat.le_succ _
                        · cases h
                      · split at h
                        · cases h
                          exact Nat.le_succ _
                        · cases h
              · cases h
def gateP (p : List Str) : Bool := decide (p.headD "" ∈ (["wait", "open"] : List Str))
theorem run_gates_le : ∀ (ps : List (List Str)) (s s' : Rs) (i : Nat), runR s i ps = .inr s' → s'.gates.length ≤ s.gates.length + (ps.filter gateP).length
  | [], s, s', i, h => by
    cases h
    exact Nat.le_refl _
  | p :: ps, s, s', i, h => by
    cases e : s.step p with
    | none =>
      rw [runR_none e] at h
      cases h
    | some s1 =>
      rw [runR_some e] at h
      have ih := run_gates_le ps s1 s' (i + 1) h
      cases p with
      | nil => cases e
      | cons wd rest =>
        have h1 := take_gates e
        rw [List.filter_cons]
        by_cases c : wd ∈ (["wait", "open"] : List Str)
        · rw [if_pos (show gateP (wd :: rest) = true from decide_eq_true c), List.length_cons]
          omega
        · rw [if_neg (show ¬ gateP (wd :: rest) = true from fun z => c (of_decide_eq_true z))]
          rcases (take_keep e).1 with z | z
          · rw [z] at ih
            exact ih
          · exact absurd z c
def gateRow (r : Str) : Bool := decide ((Txt.split r " ").headD "" ∈ (["wait", "open"] : List Str))
def gcount (rs : List Str) : Nat := (rs.filter gateRow).length
structure Tx (rs : List Str) (L n g : Nat) : Prop where
  row : ∀ r ∈ rs, r.length ≤ L ∧ ∀ c ∈ r.cps.toList, c < 128 ∧ c ≠ 10
  len : rs.length ≤ n
  gt : gcount rs ≤ g
theorem row_codes' {rs : List Str} : rs = (rs.map fun r => r.cps.toList).map SX.S := by
  induction rs with
  | nil => rfl
  | cons r rs ih =>
    rw [List.map_cons, List.map_cons, ← ih, SX.S_tl]
theorem split_join' {rs : List Str} (hne : rs ≠ []) (h : ∀ r ∈ rs, (10 : Nat) ∉ r.cps.toList) : Txt.split (Txt.join "\n" rs) "\n" = rs := by
  have e1 : Txt.join "\n" rs = SX.S (TL.joinL [10] (rs.map fun r => r.cps.toList)) := by
    have := SX.join_S [10] (rs.map fun r => r.cps.toList)
    rw [← row_codes'] at this
    exact this
  have e2 : Txt.split (SX.S (TL.joinL [10] (rs.map fun r => r.cps.toList))) "\n" = (TL.spl [10] 0 [] (TL.joinL [10] (rs.map fun r => r.cps.toList))).map SX.S := SX.split_S (b := [10]) (by decide) (by decide)
  have e3 := SX.spl_join (c := 10) (sep := []) (parts := rs.map fun r => r.cps.toList) (fun z => hne (List.map_eq_nil_iff.mp z)) (fun p hp => by
    obtain ⟨r, hr, rfl⟩ := List.mem_map.mp hp
    exact h r hr)
  rw [e1, e2, e3, ← row_codes']
theorem joinL_mem' {sep : List Nat} {c : Nat} : ∀ {ps : List (List Nat)}, c ∈ TL.joinL sep ps → c ∈ sep ∨ ∃ p ∈ ps, c ∈ p
  | [], h => by cases h
  | [p], h => .inr ⟨p, List.mem_cons_self, h⟩
  | p :: q :: r, h => by
    have h2 : c ∈ p ++ (sep ++ TL.joinL sep (q :: r)) := h
    rcases List.mem_append.mp h2 with z | z
    · exact .inr ⟨p, List.mem_cons_self, z⟩
    · rcases List.mem_append.mp z with z | z
      · exact .inl z
      · rcases joinL_mem' z with y | ⟨p', y1, y2⟩
        · exact .inl y
        · exact .inr ⟨p', List.mem_cons_of_mem _ y1, y2⟩
/-- the codes of a joined text -/
theorem join_codes {sep : List Nat} {rs : List Str} {c : Nat} (h : c ∈ (Txt.join (SX.S sep) rs).cps.toList) : c ∈ sep ∨ ∃ r ∈ rs, c ∈ r.cps.toList := by
  have e1 : Txt.join (SX.S sep) rs = SX.S (TL.joinL sep (rs.map fun r => r.cps.toList)) := by
    have := SX.join_S sep (rs.map fun r => r.cps.toList)
    rw [← row_codes'] at this
    exact this
  rw [e1] at h
  rcases joinL_mem' (show c ∈ TL.joinL sep (rs.map fun r => r.cps.toList) from h) with z | ⟨p, z1, z2⟩
  · exact .inl z
  · obtain ⟨r, hr, rfl⟩ := List.mem_map.mp z1
    exact .inr ⟨r, hr, z2⟩
theorem sum_rows {rs : List Str} {L : Nat} (h : ∀ r ∈ rs, r.length ≤ L) : (rs.map (·.length)).sum ≤ rs.length * L := by
  induction rs with
  | nil => exact Nat.zero_le _
  | cons r rs ih =>
    rw [List.map_cons, List.sum_cons, List.length_cons, Nat.add_mul, Nat.one_mul]
    have h1 := h r List.mem_cons_self
    have h2 := ih (fun q hq => h q (List.mem_cons_of_mem _ hq))
    omega
theorem Tx.text {rs : List Str} {L n g : Nat} (T : Tx rs L n g) (hn : n * (L + 1) < 40000) : (rs.map (·.length)).sum + rs.length * (Str.ofString "\n").length ≤ 16777216 ∧ (Txt.join "\n" rs).length < 40000 := by
  have hs := sum_rows (fun r hr => (T.row r hr).1)
  have hl := T.len
  have e : (Str.ofString "\n").length = 1 := rfl
  have h1 : rs.length * L ≤ n * L := Nat.mul_le_mul_right _ hl
  rw [Nat.mul_add, Nat.mul_one] at hn
  refine ⟨by rw [e]; omega, ?_⟩
  have := StrLaws.join_length_le "\n" rs
  rw [← TL.join_eq] at this
  rw [e] at this
  omega
theorem Tx.codes {rs : List Str} {L n g : Nat} (T : Tx rs L n g) : ∀ c ∈ (Txt.join "\n" rs).cps.toList, c < 128 := fun c hc => by
  rcases join_codes (sep := [10]) hc with z | ⟨r, hr, z⟩
  · rw [List.mem_singleton.mp z]
    decide
  · exact ((T.row r hr).2 c z).1
theorem Tx.gates {rs : List Str} {L n g : Nat} (T : Tx rs L n g) (hg : g < 64) (s : Rs) (hs : runR Rs.init 0 (partsOf (Txt.join "\n" rs)) = .inr s) : s.gates.length < 64 := by
  have h1 := run_gates_le _ _ _ _ hs
  have h0 : Rs.init.gates.length = 0 := rfl
  by_cases hne : rs = []
  · subst hne
    have e : (List.filter gateP (partsOf (Txt.join "\n" []))).length = 0 := by decide +kernel
    rw [e] at h1
    omega
  · have e : partsOf (Txt.join "\n" rs) = rs.map fun r => Txt.split r " " := by
      unfold partsOf
      rw [split_join' hne (fun r hr z => ((T.row r hr).2 10 z).2 rfl)]
    rw [e, List.filter_map, List.length_map] at h1
    have e2 : (rs.filter (gateP ∘ fun r => Txt.split r " ")).length = gcount rs := rfl
    have := T.gt
    omega
theorem gcount_app (a b : List Str) : gcount (a ++ b) = gcount a + gcount b := by
  unfold gcount
  rw [List.filter_append, List.length_append]
theorem gcount_sub {a b : List Str} (h : List.Sublist a b) : gcount a ≤ gcount b := (h.filter _).length_le
theorem gcount_one (r : Str) : gcount [r] ≤ 1 := List.length_filter_le _ _
theorem Tx.sub {a rs : List Str} {L n g : Nat} (T : Tx rs L n g) (h : List.Sublist a rs) : Tx a L n g := ⟨fun r hr => T.row r (h.subset hr), Nat.le_trans h.length_le T.len, Nat.le_trans (gcount_sub h) T.gt⟩
theorem Tx.perm {a rs : List Str} {L n g : Nat} (T : Tx rs L n g) (h : a.Perm rs) : Tx a L n g := ⟨fun r hr => T.row r (h.mem_iff.mp hr), by rw [h.length_eq]; exact T.len, by unfold gcount; rw [(h.filter _).length_eq]; exact T.gt⟩
theorem Tx.mono {rs : List Str} {L n g L' n' g' : Nat} (T : Tx rs L n g) (h1 : L ≤ L') (h2 : n ≤ n') (h3 : g ≤ g') : Tx rs L' n' g' := ⟨fun r hr => ⟨Nat.le_trans (T.row r hr).1 h1, (T.row r hr).2⟩, Nat.le_trans T.len h2, Nat.le_trans T.gt h3⟩
theorem take_drop_sub {α : Type} (xs : List α) {i j : Nat} (h : i ≤ j) : List.Sublist (xs.take i ++ xs.drop j) xs := by
  have e : xs = xs.take i ++ xs.drop i := (List.take_append_drop i xs).symm
  have h2 : List.Sublist (xs.drop j) (xs.drop i) := by
    have : xs.drop j = (xs.drop i).drop (j - i) := by
      rw [List.drop_drop, show i + (j - i) = j by omega]
    rw [this]
    exact List.drop_sublist _ _
  have h3 := (List.Sublist.refl (xs.take i)).append h2
  rw [← e] at h3
  exact h3
theorem Tx.put {rs : List Str} {L n g : Nat} (T : Tx rs L n g) {i j : Nat} (h : i ≤ j) {r : Str} {L' : Nat} (hL : L ≤ L') (hr : r.length ≤ L' ∧ ∀ c ∈ r.cps.toList, c < 128 ∧ c ≠ 10) : Tx (rs.take i ++ [r] ++ rs.drop j) L' (n + 1) (g + 1) := by
  have T2 := T.sub (take_drop_sub rs h)
  refine ⟨fun q hq => ?_, ?_, ?_⟩
  · rcases List.mem_append.mp hq with z | z
    · rcases List.mem_append.mp z with z | z
      · exact ⟨Nat.le_trans (T2.row q (List.mem_append.mpr (.inl z))).1 hL, (T2.row q (List.mem_append.mpr (.inl z))).2⟩
      · rw [List.mem_singleton.mp z]
        exact hr
    · exact ⟨Nat.le_trans (T2.row q (List.mem_append.mpr (.inr z))).1 hL, (T2.row q (List.mem_append.mpr (.inr z))).2⟩
  · have := T2.len
    rw [List.length_append] at this
    rw [List.length_append, List.length_append, List.length_singleton]
    omega
  · have := T2.gt
    have h1 := gcount_one r
    rw [gcount_app] at this
    rw [gcount_app, gcount_app]
    omega
/-- the parts of a row -/
theorem spl_sum : ∀ (l acc : List Nat), ((TL.spl [32] 0 acc l).map fun p => p.length + 1).sum = acc.length + l.length + 1
  | [], acc => by
    rw [TL.spl_nil]
    simp
  | c :: l, acc => by
    by_cases h : TL.pre [32] (c :: l) = true
    · rw [TL.spl_hit h]
      show (acc.length + 1) + ((TL.spl [32] 0 [] l).map fun p => p.length + 1).sum = _
      rw [spl_sum l []]
      simp only [List.length_nil, List.length_cons]
      omega
    · rw [TL.spl_miss (by simpa using h), spl_sum l (acc ++ [c])]
      simp only [List.length_append, List.length_cons, List.length_nil]
      omega
theorem spl_mem : ∀ (l acc p : List Nat) (c : Nat), p ∈ TL.spl [32] 0 acc l → c ∈ p → c ∈ acc ∨ c ∈ l
  | [], acc, p, c, h, hc => by
    rw [TL.spl_nil] at h
    rw [List.mem_singleton.mp h] at hc
    exact .inl hc
  | d :: l, acc, p, c, h, hc => by
    by_cases hp : TL.pre [32] (d :: l) = true
    · rw [TL.spl_hit hp] at h
      rcases List.mem_cons.mp h with z | z
      · rw [z] at hc
        exact .inl hc
      · rcases spl_mem l [] p c z hc with y | y
        · cases y
        · exact .inr (List.mem_cons_of_mem _ y)
    · rw [TL.spl_miss (by simpa using hp)] at h
      rcases spl_mem l (acc ++ [d]) p c h hc with y | y
      · rcases List.mem_append.mp y with y | y
        · exact .inl y
        · rw [List.mem_singleton.mp y]
          exact .inr List.mem_cons_self
      · exact .inr (List.mem_cons_of_mem _ y)
theorem split_eq (r : Str) : Txt.split r " " = (TL.spl [32] 0 [] r.cps.toList).map SX.S := by
  have := SX.split_S (a := r.cps.toList) (b := [32]) (by decide) (by decide)
  rw [SX.S_tl] at this
  exact this
theorem split_sum (r : Str) : ((Txt.split r " ").map fun p => p.length + 1).sum = r.length + 1 := by
  rw [split_eq, List.map_map]
  have h := spl_sum r.cps.toList []
  have e : ((fun p : Str => p.length + 1) ∘ SX.S) = fun p : List Nat => p.length + 1 := by
    funext p
    show (SX.S p).length + 1 = _
    have : (SX.S p).length = p.length := by
      show (SX.S p).cps.size = _
      exact List.size_toArray
    rw [this]
  rw [e, h]
  show 0 + r.cps.toList.length + 1 = _
  rw [Nat.zero_add, Array.length_toList]
  rfl
theorem split_codes {r p : Str} (hp : p ∈ Txt.split r " ") {c : Nat} (hc : c ∈ p.cps.toList) : c ∈ r.cps.toList := by
  rw [split_eq] at hp
  obtain ⟨q, hq, rfl⟩ := List.mem_map.mp hp
  rcases spl_mem _ _ _ c hq hc with z | z
  · cases z
  · exact z
theorem sum_mem {xs : List Str} {x : Str} (h : x ∈ xs) : x.length + 1 ≤ (xs.map fun p => p.length + 1).sum := by
  induction xs with
  | nil => cases h
  | cons y ys ih =>
    rw [List.map_cons, List.sum_cons]
    rcases List.mem_cons.mp h with z | z
    · rw [z]
      omega
    · have := ih z
      omega
theorem split_len {r p : Str} (hp : p ∈ Txt.split r " ") : p.length ≤ r.length := by
  have h1 := sum_mem hp
  rw [split_sum] at h1
  omega
theorem sum1_sub {a b : List Str} (h : List.Sublist a b) : (a.map fun p => p.length + 1).sum ≤ (b.map fun p => p.length + 1).sum := by
  induction h with
  | slnil => exact Nat.le_refl _
  | cons x _ ih =>
    rw [List.map_cons, List.sum_cons]
    omega
  | cons_cons x _ ih =>
    rw [List.map_cons, List.sum_cons, List.map_cons, List.sum_cons]
    omega
theorem sum1_eq (xs : List Str) : (xs.map fun p => p.length + 1).sum = (xs.map (·.length)).sum + xs.length := by
  induction xs with
  | nil => rfl
  | cons x xs ih =>
    rw [List.map_cons, List.sum_cons, ih, List.map_cons, List.sum_cons, List.length_cons]
    omega
/-- a row joined of parts -/
theorem join_row {ps : List Str} {B : Nat} (hs : (ps.map fun p => p.length + 1).sum ≤ B) (hc : ∀ p ∈ ps, ∀ c ∈ p.cps.toList, c < 128 ∧ c ≠ 10) : (Txt.join " " ps).length ≤ B ∧ ∀ c ∈ (Txt.join " " ps).cps.toList, c < 128 ∧ c ≠ 10 := by
  refine ⟨?_, fun c hcm => ?_⟩
  · have := StrLaws.join_length_le " " ps
    rw [← TL.join_eq] at this
    have e : (Str.ofString " ").length = 1 := rfl
    rw [e] at this
    rw [sum1_eq] at hs
    omega
  · rcases join_codes (sep := [32]) hcm with z | ⟨r, hr, z⟩
    · rw [List.mem_singleton.mp z]
      decide
    · exact hc r hr c z
theorem cutFrom (xs : List V) (n : Nat) : cutV xs (some (n : Int)) none = xs.drop n := by
  unfold cutV
  show (xs.drop (HT.sIx xs.length 0 (some ((n : Nat) : Int)))).take (xs.length - HT.sIx xs.length 0 (some ((n : Nat) : Int))) = _
  rw [HT.sIx_nat]
  by_cases h : n ≤ xs.length
  · rw [Nat.min_eq_left h]
    exact List.take_of_length_le (by rw [List.length_drop]; omega)
  · rw [Nat.min_eq_right (by omega), List.drop_length, List.drop_eq_nil_of_le (by omega), List.take_nil]
theorem cutMid (xs : List V) (a b : Nat) : cutV xs (some (a : Int)) (some (b : Int)) = (xs.drop a).take (b - a) := by
  unfold cutV
  show (xs.drop (HT.sIx xs.length 0 (some ((a : Nat) : Int)))).take (HT.sIx xs.length xs.length (some ((b : Nat) : Int)) - HT.sIx xs.length 0 (some ((a : Nat) : Int))) = _
  rw [HT.sIx_nat, HT.sIx_nat]
  by_cases h : a ≤ xs.length
  · rw [Nat.min_eq_left h]
    by_cases h2 : b ≤ xs.length
    · rw [Nat.min_eq_left h2]
    · rw [Nat.min_eq_right (by omega), List.take_of_length_le (by rw [List.length_drop]; omega), List.take_of_length_le (by rw [List.length_drop]; omega)]
  · rw [Nat.min_eq_right (show xs.length ≤ a by omega), List.drop_length, List.drop_eq_nil_of_le (by omega), List.take_nil, List.take_nil]
theorem swap_perm (rs : List Str) (i : Nat) : (rs.take i ++ (rs.drop (i + 1)).take 1 ++ (rs.drop i).take 1 ++ rs.drop (i + 2)).Perm rs := by
  have e1 : rs = rs.take i ++ ((rs.drop i).take 1 ++ ((rs.drop (i + 1)).take 1 ++ rs.drop (i + 2))) := by
    have h1 : rs.drop (i + 2) = (rs.drop (i + 1)).drop 1 := by rw [List.drop_drop]
    have h2 : rs.drop (i + 1) = (rs.drop i).drop 1 := by rw [List.drop_drop]
    rw [h1, List.take_append_drop, h2, List.take_append_drop, List.take_append_drop]
  have e2 : (rs.take i ++ (rs.drop (i + 1)).take 1 ++ (rs.drop i).take 1 ++ rs.drop (i + 2)).Perm (rs.take i ++ ((rs.drop i).take 1 ++ ((rs.drop (i + 1)).take 1 ++ rs.drop (i + 2)))) := by
    rw [List.append_assoc, List.append_assoc]
    refine List.Perm.append_left _ ?_
    rw [← List.append_assoc, ← List.append_assoc]
    exact (List.perm_append_comm).append_right _
  rw [← e1] at e2
  exact e2

end Ly
namespace Ly
open PySem PySem.Spec PyProof.Rows L2
/-! ### drawn programs as rows of a text -/
def okc (r : Str) : Prop := ∀ c ∈ r.cps.toList, c < 128 ∧ c ≠ 10
theorem okc_app {a b : Str} (h1 : okc a) (h2 : okc b) : okc (a ++ b) := fun c hc => by
  rw [show (a ++ b).cps.toList = a.cps.toList ++ b.cps.toList from TL.tl_append a b] at hc
  rcases List.mem_append.mp hc with z | z
  · exact h1 c z
  · exact h2 c z
def okcB (r : Str) : Bool := r.cps.toList.all fun c => decide (c < 128) && decide (c ≠ 10)
theorem okc_of {r : Str} (h : okcB r = true) : okc r := fun c hc => by
  have := List.all_eq_true.mp h c hc
  rw [Bool.and_eq_true] at this
  exact ⟨of_decide_eq_true this.1, of_decide_eq_true this.2⟩
theorem okc_name {n : Str} (h : isName n = true) : okc n := fun c hc => by
  unfold isName madeOf at h
  rw [Bool.and_eq_true, Bool.and_eq_true, Bool.and_eq_true] at h
  obtain ⟨⟨_, h2, h3⟩, _⟩ := h
  have := of_decide_eq_true (List.all_eq_true.mp h3 c hc)
  have e : ∀ c ∈ (Str.ofString "abcdefghijklmnopqrstuvwxyz").cps.toList, c < 128 ∧ c ≠ 10 := by decide +kernel
  exact e c this
theorem Tx.one {r : Str} {L : Nat} (h1 : r.length ≤ L) (h2 : okc r) {n : Nat} (hn : 1 ≤ n) {g : Nat} (hg : 1 ≤ g) : Tx [r] L n g := ⟨fun q hq => by rw [List.mem_singleton.mp hq]; exact ⟨h1, h2⟩, hn, Nat.le_trans (gcount_one r) hg⟩
theorem Tx.zero {r : Str} {L : Nat} (h1 : r.length ≤ L) (h2 : okc r) (h3 : gcount [r] = 0) {n : Nat} (hn : 1 ≤ n) (g : Nat) : Tx [r] L n g := ⟨fun q hq => by rw [List.mem_singleton.mp hq]; exact ⟨h1, h2⟩, hn, by rw [h3]; exact Nat.zero_le _⟩
theorem Tx.app {a b : List Str} {L m n g h : Nat} (x : Tx a L m g) (y : Tx b L n h) : Tx (a ++ b) L (m + n) (g + h) := by
  refine ⟨fun r hr => ?_, ?_, ?_⟩
  · rcases List.mem_append.mp hr with z | z
    · exact x.row r z
    · exact y.row r z
  · rw [List.length_append]
    exact Nat.add_le_add x.len y.len
  · rw [gcount_app]
    exact Nat.add_le_add x.gt y.gt
structure GwOk (g : Gw) : Prop where
  jobs : ∀ x ∈ g.jobs, isName x = true
  gates : ∀ x ∈ g.gates, isName x = true
  notes : ∀ x ∈ g.notes, isName x = true
  known : ∀ x ∈ g.known, isName x = true
theorem app_len (a b : Str) : (a ++ b).length = a.length + b.length := Str.length_append a b
theorem Gr.tx {g : Gw} {late : Bool} {kept : List Str} {dp n : Nat} {rs : List Str} (ok : GwOk g) (h : Gr g late kept dp n rs) : Tx rs 30 (3 * n) n := by
  have eE : Tx [Str.ofString "end"] 30 1 0 := Tx.zero (by decide +kernel) (okc_of (by decide +kernel)) (by decide +kernel) (Nat.le_refl _) 0
  have eG : Tx [Str.ofString "guard"] 30 1 0 := Tx.zero (by decide +kernel) (okc_of (by decide +kernel)) (by decide +kernel) (Nat.le_refl _) 0
  induction h with
  | nil => exact ⟨fun _ h => (nomatch h), Nat.le_refl _, Nat.le_refl _⟩
  | app _ _ h1 h2 =>
    have := h1.app h2
    rw [← Nat.mul_add] at this
    exact this
  | give => exact Tx.one (by decide +kernel) (okc_of (by decide +kernel)) (by decide) (by decide)
  | pause => exact Tx.one (by decide +kernel) (okc_of (by decide +kernel)) (by decide) (by decide)
  | @begin_ late kept dp j hj =>
    have l := (name_short (ok.jobs j hj)).1
    exact Tx.one (by rw [app_len]; show 6 + _ ≤ _; omega) (okc_app (okc_of (by decide +kernel)) (okc_name (ok.jobs j hj))) (by decide) (by decide)
  | @gate late kept dp wd x hw hx =>
    have l := (name_short (ok.gates x hx)).1
    have h2 : wd.length ≤ 5 ∧ okcB wd = true := by
      simp only [List.mem_cons, List.not_mem_nil, or_false] at hw
      rcases hw with rfl | rfl <;> decide +kernel
    exact Tx.one (by rw [app_len, app_len]; show _ + 1 + _ ≤ _; omega) (okc_app (okc_app (okc_of h2.2) (okc_of (by decide +kernel))) (okc_name (ok.gates x hx))) (by decide) (by decide)
  | @note late kept dp wd x hw hx =>
    have l := (name_short (ok.notes x hx)).1
    have h2 : wd.length ≤ 5 ∧ okcB wd = true := by
      simp only [List.mem_cons, List.not_mem_nil, or_false] at hw
      rcases hw with rfl | rfl <;> decide +kernel
    exact Tx.one (by rw [app_len, app_len]; show _ + 1 + _ ≤ _; omega) (okc_app (okc_app (okc_of h2.2) (okc_of (by decide +kernel))) (okc_name (ok.notes x hx))) (by decide) (by decide)
  | @rep late kept dp n rs t _ ht _ ih =>
    have h2 : t.length ≤ 1 ∧ okcB t = true := by
      simp only [List.mem_cons, List.not_mem_nil, or_false] at ht
      rcases ht with rfl | rfl | rfl <;> decide +kernel
    have e : Tx [Str.ofString "repeat " ++ t] 30 1 1 := Tx.one (by rw [app_len]; show 7 + _ ≤ _; omega) (okc_app (okc_of (by decide +kernel)) (okc_of h2.2)) (by decide) (by decide)
    exact ((e.app ih).app eE).mono (Nat.le_refl _) (by omega) (by omega)
  | @guard late kept dp m n a b wd _ hw _ _ h1 h2 =>
    have e : Tx [wd] 30 1 0 := by
      simp only [List.mem_cons, List.not_mem_nil, or_false] at hw
      rcases hw with rfl | rfl
      · exact Tx.zero (by decide +kernel) (okc_of (by decide +kernel)) (by decide +kernel) (Nat.le_refl _) 0
      · exact Tx.zero (by decide +kernel) (okc_of (by decide +kernel)) (by decide +kernel) (Nat.le_refl _) 0
    exact ((((eG.app h1).app e).app h2).app eE).mono (Nat.le_refl _) (by omega) (by omega)
  | @each late kept dp n rs wk how t _ hw hh _ ht _ ih =>
    have l := (name_short (ok.known wk hw)).1
    have h2 : t.length ≤ 2 ∧ okcB t = true := by
      simp only [List.mem_cons, List.not_mem_nil, or_false] at ht
      rcases ht with rfl | rfl | rfl | rfl <;> decide +kernel
    have h3 : how.length ≤ 7 ∧ okcB how = true := by
      simp only [List.mem_cons, List.not_mem_nil, or_false] at hh
      rcases hh with rfl | rfl | rfl <;> decide +kernel
    have e : Tx [(((Str.ofString "each " ++ wk) ++ " ") ++ how) ++ t] 30 1 1 := Tx.one (by rw [app_len, app_len, app_len, app_len]; show 5 + _ + 1 + _ + _ ≤ _; omega)
      (okc_app (okc_app (okc_app (okc_app (okc_of (by decide +kernel)) (okc_name (ok.known wk hw))) (okc_of (by decide +kernel))) (okc_of h3.2)) (okc_of h2.2)) (by decide) (by decide)
    exact ((e.app ih).app eE).mono (Nat.le_refl _) (by omega) (by omega)
theorem Pg.tx {jobs gates notes : List Str} {most : Nat} {kn js rs : List Str} (h : Pg jobs gates notes most kn js rs) (h1 : ∀ x ∈ jobs, isName x = true) (h2 : ∀ x ∈ gates, isName x = true) (h3 : ∀ x ∈ notes, isName x = true) (h4 : ∀ x ∈ kn, isName x = true) (h5 : ∀ x ∈ js, isName x = true) :
    Tx rs 30 ((js.length + kn.length) * (3 * most + 2)) ((js.length + kn.length) * (most + 1)) := by
  have eE : Tx [Str.ofString "end"] 30 1 0 := Tx.zero (by decide +kernel) (okc_of (by decide +kernel)) (by decide +kernel) (Nat.le_refl _) 0
  induction h with
  | nil => exact ⟨fun _ h => (nomatch h), Nat.zero_le _, Nat.zero_le _⟩
  | @job kn js rs n a j _ g l ih =>
    have T1 := ih h4 (fun x hx => h5 x (List.mem_append.mpr (.inl hx)))
    have T2 := g.tx ⟨h1, h2, h3, h4⟩
    have hj := h5 j (List.mem_append.mpr (.inr List.mem_cons_self))
    have lj := (name_short hj).1
    have e : Tx [(Str.ofString "job" ++ " ") ++ j] 30 1 1 := Tx.one (by rw [app_len, app_len]; show 3 + 1 + _ ≤ _; omega) (okc_app (okc_app (okc_of (by decide +kernel)) (okc_of (by decide +kernel))) (okc_name hj)) (by decide) (by decide)
    have e1 : (js ++ [j]).length + kn.length = (js.length + kn.length) + 1 := by
      rw [List.length_append]
      show js.length + 1 + _ = _
      omega
    rw [e1, Nat.succ_mul (js.length + kn.length) (3 * most + 2), Nat.succ_mul (js.length + kn.length) (most + 1)]
    exact (T1.app ((e.app T2).app eE)).mono (Nat.le_refl _) (by omega) (by omega)
  | @walk kn js rs n a j _ g l ih =>
    have T1 := ih (fun x hx => h4 x (List.mem_append.mpr (.inl hx))) h5
    have T2 := g.tx ⟨h1, h2, h3, fun x hx => h4 x (List.mem_append.mpr (.inl hx))⟩
    have hj := h4 j (List.mem_append.mpr (.inr List.mem_cons_self))
    have lj := (name_short hj).1
    have e : Tx [(Str.ofString "walk" ++ " ") ++ j] 30 1 1 := Tx.one (by rw [app_len, app_len]; show 4 + 1 + _ ≤ _; omega) (okc_app (okc_app (okc_of (by decide +kernel)) (okc_of (by decide +kernel))) (okc_name hj)) (by decide) (by decide)
    have e1 : js.length + (kn ++ [j]).length = (js.length + kn.length) + 1 := by
      rw [List.length_append]
      show js.length + (_ + 1) = _
      omega
    rw [e1, Nat.succ_mul (js.length + kn.length) (3 * most + 2), Nat.succ_mul (js.length + kn.length) (most + 1)]
    exact (T1.app ((e.app T2).app eE)).mono (Nat.le_refl _) (by omega) (by omega)
/-- what is told of a drawn program -/
theorem drawn_tx {d : Wd} {most nd : Nat} {kn js rs : List Str} (ok : Wst d) (pg : Pg d.g.jobs d.g.gates d.g.notes most kn js rs) (pj : js.Perm d.g.jobs) (ew : kn.reverse = d.walks) (hl : d.g.jobs.length + d.walks.length ≤ nd) : Tx rs 30 (nd * (3 * most + 2)) (nd * (most + 1)) := by
  have t := pg.tx ok.jobs.nm ok.gates.nm ok.notes.nm (fun x hx => ok.walks.nm x (by rw [← ew]; exact List.mem_reverse.mpr hx)) (fun x hx => ok.jobs.nm x (pj.mem_iff.mp hx))
  have e : js.length + kn.length ≤ nd := by
    rw [pj.length_eq, ← List.length_reverse (as := kn), ew]
    exact hl
  exact t.mono (Nat.le_refl _) (Nat.mul_le_mul_right _ e) (Nat.mul_le_mul_right _ e)
theorem fw_bx {b W : Addr} {H H2 H' : Hp} (B : Bx b H H2) (f : Fw b W H2 H') (nW : H W = none) (hb : ∃ c s n : Int, H' b = some (.lst [.int c, .int s, .int n])) : Bx b H H' :=
  ⟨fun x o nx e => f x o nx (ne_of_none e nW) (B.keep x o nx e), hb⟩

end Ly
namespace Ly
open PySem PySem.Spec PyProof.Rows L2
def loose0 : List PySem.Str := [("__name__" : PySem.Str), ("SMALL" : PySem.Str), ("DIGITS" : PySem.Str), ("HOWS" : PySem.Str), ("LANGUAGE" : PySem.Str), ("is_integer" : PySem.Str), ("is_made_of" : PySem.Str), ("is_name" : PySem.Str), ("is_times" : PySem.Str), ("own_copy" : PySem.Str), ("LateError" : PySem.Str), ("BadRow" : PySem.Str), ("TooMany" : PySem.Str), ("Unknown" : PySem.Str), ("NAMED" : PySem.Str), ("Block" : PySem.Str), ("Reader" : PySem.Str), ("read_rows" : PySem.Str), ("MOST_ROWS" : PySem.Str), ("MOST_JOBS" : PySem.Str), ("MOST_WALKS" : PySem.Str), ("MOST_DEEP" : PySem.Str), ("look_at_names" : PySem.Str), ("look_at_size" : PySem.Str), ("Program" : PySem.Str), ("_law_box" : PySem.Str), ("_law_take" : PySem.Str), ("_law_mixed" : PySem.Str), ("_law_pick" : PySem.Str), ("_law_names" : PySem.Str), ("_law_world" : PySem.Str), ("_law_rows" : PySem.Str), ("_law_row" : PySem.Str), ("_law_block" : PySem.Str), ("_law_program" : PySem.Str), ("_law_some_program" : PySem.Str), ("_law_long" : PySem.Str), ("_law_told" : PySem.Str)]
def loose : List PySem.Str := loose0
abbrev R : PySem.W.OpenRow := PySem.W.OpenLaw.row PySem.Challenge.rw_lateyields_k02_programs_read_and_shown
abbrev hk : PySem.W.Hook := LyC.hookL 5 fn exB
def ob (s : PySem.W.SharedT) : LyC.AlL := LyC.obsLG 5 fn exB (HandSHeadRun.getT s)
theorem ob_eq (s : PySem.W.SharedT) : ob s = hk.obs s.abs := LyC.obsLG_eq (HandSHeadRun.getT_eq s)
theorem run (w : World) : HandSHeadRun.RunEq R (PySem.W.view R.prog [42]) hk ob 6000 loose w := by
  intro os
  kernel_rfl

end Ly
namespace Ly
open PySem PySem.Spec PyProof.Rows L2
/-! ### drawn programs are read -/
def sp1 (r : Str) : List Str := Txt.split r " "
def stepsR : Rs → List (List Str) → Option Rs
  | s, [] => some s
  | s, p :: ps => match s.step p with
    | none => none
    | some s' => stepsR s' ps
theorem stepsR_cons {s s1 : Rs} {p : List Str} {ps : List (List Str)} (h : s.step p = some s1) : stepsR s (p :: ps) = stepsR s1 ps := by
  rw [stepsR, h]
theorem stepsR_app : ∀ {ps qs : List (List Str)} {s s1 : Rs}, stepsR s ps = some s1 → stepsR s (ps ++ qs) = stepsR s1 qs
  | [], qs, s, s1, h => by
    cases h
    rfl
  | p :: ps, qs, s, s1, h => by
    cases e : s.step p with
    | none =>
      rw [stepsR, e] at h
      cases h
    | some s2 =>
      rw [stepsR, e] at h
      rw [List.cons_append, stepsR_cons e]
      exact stepsR_app h
theorem run_of_steps : ∀ {ps : List (List Str)} {s s1 : Rs} (i : Nat), stepsR s ps = some s1 → runR s i ps = .inr s1
  | [], s, s1, i, h => by
    cases h
    rfl
  | p :: ps, s, s1, i, h => by
    cases e : s.step p with
    | none =>
      rw [stepsR, e] at h
      cases h
    | some s2 =>
      rw [stepsR, e] at h
      rw [runR_some e]
      exact run_of_steps (i + 1) h
/-- no blank in it -/
abbrev nob (x : Str) : Prop := (32 : Nat) ∉ x.cps.toList
theorem nob_name {n : Str} (h : isName n = true) : nob n := fun hc => by
  unfold isName madeOf at h
  rw [Bool.and_eq_true, Bool.and_eq_true, Bool.and_eq_true] at h
  obtain ⟨⟨_, h2, h3⟩, _⟩ := h
  have := of_decide_eq_true (List.all_eq_true.mp h3 32 hc)
  exact absurd this (by decide +kernel)
theorem codes_app (a b : Str) : (a ++ b).cps.toList = a.cps.toList ++ b.cps.toList := TL.tl_append a b
theorem split_one {x : Str} (h : nob x) : sp1 x = [x] := by
  unfold sp1
  rw [split_eq, TL.spl_last1 h]
  show [SX.S ([] ++ x.cps.toList)] = _
  rw [List.nil_append, SX.S_tl]
theorem split_more {x r : Str} (h : nob x) : sp1 ((x ++ " ") ++ r) = x :: sp1 r := by
  unfold sp1
  rw [split_eq, split_eq, codes_app, codes_app]
  have e : (x.cps.toList ++ (Str.ofString " ").cps.toList) ++ r.cps.toList = x.cps.toList ++ ([32] ++ r.cps.toList) := by
    rw [List.append_assoc]
    rfl
  rw [e, SX.spl_free (sep := [32]) r.cps.toList (by simp) (SX.free_head h), List.map_cons, SX.S_tl]
theorem str_assoc (a b c : Str) : (a ++ b) ++ c = a ++ (b ++ c) := by
  have h : ((a ++ b) ++ c).cps.toList = (a ++ (b ++ c)).cps.toList := by
    rw [codes_app, codes_app, codes_app, codes_app, List.append_assoc]
  have := congrArg SX.S h
  rw [SX.S_tl, SX.S_tl] at this
  exact this
theorem split_two {x y : Str} (h1 : nob x) (h2 : nob y) : sp1 ((x ++ " ") ++ y) = [x, y] := by
  rw [split_more h1, split_one h2]
/-- what a state must be so that rows of a block can be read -/
structure Rdy (g : Gw) (late : Bool) (kept : List Str) (dp : Nat) (s : Rs) : Prop where
  len : s.stack.length = dp + 1
  hw : g.sort = "walk" → s.stack.head?.any En.isWalk = true
  hj : g.sort = "job" → s.stack.head?.any En.isJob = true
  kn : ∀ x ∈ g.known, x ∈ s.walks
  lt : late = false → En.late ∉ s.stack
  kp : ∀ x, En.each x "kept" ∈ s.stack → x ∈ kept
  dp : s.deep ≤ 4
structure Aft (g : Gw) (s s' : Rs) : Prop where
  stack : s'.stack = s.stack
  walks : s'.walks = s.walks
  jobs : s'.jobs = s.jobs
  deep : s'.deep ≤ 4
  begun : ∀ x ∈ s'.begun, x ∈ s.begun ∨ x ∈ g.jobs
theorem Rdy.ne {g : Gw} {late : Bool} {kept : List Str} {dp : Nat} {s : Rs} (R : Rdy g late kept dp s) : s.stack ≠ [] := fun z => by
  have := R.len
  rw [z] at this
  cases this
theorem Rdy.aft {g : Gw} {late : Bool} {kept : List Str} {dp : Nat} {s s' : Rs} (R : Rdy g late kept dp s) (A : Aft g s s') : Rdy g late kept dp s' :=
  ⟨by rw [A.stack]; exact R.len, by rw [A.stack]; exact R.hw, by rw [A.stack]; exact R.hj, by rw [A.walks]; exact R.kn, by rw [A.stack]; exact R.lt, by rw [A.stack]; exact R.kp, A.deep⟩
theorem head_app {α : Type} {xs : List α} (h : xs ≠ []) (y : α) : (xs ++ [y]).head? = xs.head? := by
  cases xs with
  | nil => exact absurd rfl h
  | cons x xs => rfl
theorem take_in {s : Rs} {wd : Str} {rest : List Str} (h1 : wd ∉ (["walk", "job", "end"] : List Str)) (h2 : s.stack ≠ []) : s.take wd rest = s.within wd rest := by
  have a1 : ¬ wd ∈ (["walk", "job"] : List Str) := fun z => h1 (by
    simp only [List.mem_cons, List.not_mem_nil, or_false] at z ⊢
    rcases z with z | z
    · exact .inl z
    · exact .inr (.inl z))
  have a2 : ¬ wd = "end" := fun z => h1 (by
    simp only [List.mem_cons, List.not_mem_nil, or_false]
    exact .inr (.inr z))
  unfold Rs.take
  rw [if_neg a1, if_neg a2, if_neg h2]
theorem end_in {s : Rs} {st : List En} {e : En} (hs : s.stack = st ++ [e]) (hne : st ≠ []) (he : e ≠ .guard) : s.take "end" [] = some { s with stack := st } := by
  unfold Rs.take
  rw [if_neg (by decide +kernel), if_pos rfl, if_pos rfl]
  unfold Rs.ended
  rw [hs, List.getLast?_concat, List.dropLast_concat]
  cases e with
  | guard => exact absurd rfl he
  | walk n => exact if_neg hne
  | job n => exact if_neg hne
  | rep => exact if_neg hne
  | late => exact if_neg hne
  | mend => exact if_neg hne
  | each a b => exact if_neg hne
/-- behind a push -/
theorem Rdy.push {g : Gw} {late late' : Bool} {kept kept' : List Str} {dp : Nat} {s : Rs} (R : Rdy g late kept dp s) (hd : dp < 4) {e : En} (h1 : late' = false → late = false ∧ e ≠ .late) (h2 : ∀ x ∈ kept, x ∈ kept') (h3 : ∀ x, e = En.each x "kept" → x ∈ kept') : Rdy g late' kept' (dp + 1) (s.push e) := by
  refine ⟨?_, fun h => ?_, fun h => ?_, R.kn, fun h m => ?_, fun x m => ?_, ?_⟩
  · show (s.stack ++ [e]).length = _
    rw [List.length_append, R.len]
    rfl
  · show (s.stack ++ [e]).head?.any _ = true
    rw [head_app R.ne]
    exact R.hw h
  · show (s.stack ++ [e]).head?.any _ = true
    rw [head_app R.ne]
    exact R.hj h
  · rcases List.mem_append.mp (show En.late ∈ s.stack ++ [e] from m) with z | z
    · exact R.lt (h1 h).1 z
    · exact (h1 h).2 (List.mem_singleton.mp z).symm
  · rcases List.mem_append.mp (show En.each x "kept" ∈ s.stack ++ [e] from m) with z | z
    · exact h2 x (R.kp x z)
    · exact h3 x (List.mem_singleton.mp z).symm
  · show (if (s.stack.length : Int) > s.deep then (s.stack.length : Int) else s.deep) ≤ 4
    have h5 := R.len
    have h6 := R.dp
    split <;> omega
/-- the end of a block that was pushed -/
theorem block_end {g : Gw} {s s2 : Rs} {e : En} (hne : s.stack ≠ []) (hs : s2.stack = s.stack ++ [e]) (he : e ≠ .guard) (hw : s2.walks = s.walks) (hj : s2.jobs = s.jobs) (hd : s2.deep ≤ 4) (hb : ∀ x ∈ s2.begun, x ∈ s.begun ∨ x ∈ g.jobs) :
    ∃ s', stepsR s2 [["end"]] = some s' ∧ Aft g s s' :=
  ⟨{ s2 with stack := s.stack }, by rw [stepsR_cons (s := s2) (p := [Str.ofString "end"]) (s1 := { s2 with stack := s.stack }) (end_in hs hne he)]; rfl, rfl, hw, hj, hd, hb⟩
theorem Gr.run {g : Gw} {late : Bool} {kept : List Str} {dp n : Nat} {rs : List Str} (ok : GwOk g) (h : Gr g late kept dp n rs) : ∀ s : Rs, Rdy g late kept dp s → ∃ s', stepsR s (rs.map sp1) = some s' ∧ Aft g s s' := by
  have spE : sp1 (Str.ofString "end") = (["end"] : List Str) := by kernel_rfl
  have spG : sp1 (Str.ofString "guard") = (["guard"] : List Str) := by kernel_rfl
  induction h with
  | nil => exact fun s R => ⟨s, rfl, rfl, rfl, rfl, R.dp, fun _ h => .inl h⟩
  | app _ _ h1 h2 =>
    intro s R
    obtain ⟨s1, e1, A1⟩ := h1 s R
    obtain ⟨s2, e2, A2⟩ := h2 s1 (R.aft A1)
    refine ⟨s2, by rw [List.map_append, stepsR_app e1]; exact e2, by rw [A2.stack, A1.stack], by rw [A2.walks, A1.walks], by rw [A2.jobs, A1.jobs], A2.deep, fun x hx => ?_⟩
    rcases A2.begun x hx with z | z
    · exact A1.begun x z
    · exact .inr z
  | give kept dp hso =>
    intro s R
    have hst : s.step (sp1 (Str.ofString "give")) = some s := by
      rw [show sp1 (Str.ofString "give") = (["give"] : List Str) by kernel_rfl]
      show s.take "give" [] = some s
      rw [take_in (by decide +kernel) R.ne]
      unfold Rs.within
      rw [if_neg (by decide +kernel), if_neg (by decide +kernel), if_neg (by decide +kernel), if_pos rfl]
      unfold Rs.alone
      rw [if_neg (by decide +kernel), if_neg (by decide +kernel), if_neg (by decide +kernel), if_pos rfl, if_pos]
      unfold Rs.mayGive
      rw [R.hw hso, decide_eq_false (R.lt rfl)]
      rfl
    exact ⟨s, by rw [List.map_cons, stepsR_cons hst]; rfl, rfl, rfl, rfl, R.dp, fun _ h => .inl h⟩
  | pause late kept dp =>
    intro s R
    have hst : s.step (sp1 (Str.ofString "pause")) = some s := by
      rw [show sp1 (Str.ofString "pause") = (["pause"] : List Str) by kernel_rfl]
      show s.take "pause" [] = some s
      rw [take_in (by decide +kernel) R.ne]
      unfold Rs.within
      rw [if_neg (by decide +kernel), if_neg (by decide +kernel), if_neg (by decide +kernel), if_pos rfl]
      unfold Rs.alone
      rw [if_neg (by decide +kernel), if_neg (by decide +kernel), if_neg (by decide +kernel), if_neg (by decide +kernel), if_pos rfl]
    exact ⟨s, by rw [List.map_cons, stepsR_cons hst]; rfl, rfl, rfl, rfl, R.dp, fun _ h => .inl h⟩
  | @begin_ late kept dp j hj =>
    intro s R
    have hn := ok.jobs j hj
    have hst : s.step (sp1 (Str.ofString "begin " ++ j)) = some (s.named "begin" j) := by
      rw [show Str.ofString "begin " = Str.ofString "begin" ++ (" " : Str) by kernel_rfl, split_two (by decide +kernel) (nob_name hn)]
      show s.take "begin" [j] = _
      rw [take_in (by decide +kernel) R.ne]
      unfold Rs.within
      rw [if_pos (by decide +kernel)]
      show (if isName j = true then _ else _) = _
      rw [if_pos hn]
    refine ⟨s.named "begin" j, by rw [List.map_cons, stepsR_cons hst]; rfl, rfl, rfl, rfl, R.dp, fun x hx => ?_⟩
    have hx' : x ∈ s.begun ++ [j] := by
      have : (s.named "begin" j).begun = s.begun ++ [j] := by
        show (if ("begin" : Str) = "begin" then s.begun ++ [j] else s.begun) = _
        rw [if_pos rfl]
      rw [this] at hx
      exact hx
    rcases List.mem_append.mp hx' with z | z
    · exact .inl z
    · rw [List.mem_singleton.mp z]
      exact .inr hj
  | @gate late kept dp wd x hw hx =>
    intro s R
    have hn := ok.gates x hx
    have hwd : nob wd ∧ wd ∉ (["walk", "job", "end"] : List Str) ∧ wd ∈ k_NAMED ∧ wd ≠ "begin" := by
      simp only [List.mem_cons, List.not_mem_nil, or_false] at hw
      rcases hw with rfl | rfl <;> exact ⟨by decide +kernel, by decide +kernel, by decide +kernel, by decide +kernel⟩
    have hst : s.step (sp1 ((wd ++ " ") ++ x)) = some (s.named wd x) := by
      rw [split_two hwd.1 (nob_name hn)]
      show s.take wd [x] = _
      rw [take_in hwd.2.1 R.ne]
      unfold Rs.within
      rw [if_pos hwd.2.2.1]
      show (if isName x = true then _ else _) = _
      rw [if_pos hn]
    refine ⟨s.named wd x, by rw [List.map_cons, stepsR_cons hst]; rfl, rfl, rfl, rfl, R.dp, fun y hy => ?_⟩
    have : (s.named wd x).begun = s.begun := if_neg hwd.2.2.2
    rw [this] at hy
    exact .inl hy
  | @note late kept dp wd x hw hx =>
    intro s R
    have hn := ok.notes x hx
    have hwd : nob wd ∧ wd ∉ (["walk", "job", "end"] : List Str) ∧ wd ∈ k_NAMED ∧ wd ≠ "begin" := by
      simp only [List.mem_cons, List.not_mem_nil, or_false] at hw
      rcases hw with rfl | rfl <;> exact ⟨by decide +kernel, by decide +kernel, by decide +kernel, by decide +kernel⟩
    have hst : s.step (sp1 ((wd ++ " ") ++ x)) = some (s.named wd x) := by
      rw [split_two hwd.1 (nob_name hn)]
      show s.take wd [x] = _
      rw [take_in hwd.2.1 R.ne]
      unfold Rs.within
      rw [if_pos hwd.2.2.1]
      show (if isName x = true then _ else _) = _
      rw [if_pos hn]
    refine ⟨s.named wd x, by rw [List.map_cons, stepsR_cons hst]; rfl, rfl, rfl, rfl, R.dp, fun y hy => ?_⟩
    have : (s.named wd x).begun = s.begun := if_neg hwd.2.2.2
    rw [this] at hy
    exact .inl hy
  | @rep late kept dp n rs t hd ht _ ih =>
    intro s R
    have hst : s.step (sp1 (Str.ofString "repeat " ++ t)) = some (s.push .rep) := by
      have ht2 : nob t ∧ isTimes t = true := by
        simp only [List.mem_cons, List.not_mem_nil, or_false] at ht
        rcases ht with rfl | rfl | rfl <;> exact ⟨by decide +kernel, by decide +kernel⟩
      rw [show Str.ofString "repeat " = Str.ofString "repeat" ++ (" " : Str) by kernel_rfl, split_two (by decide +kernel) ht2.1]
      show s.take "repeat" [t] = _
      rw [take_in (by decide +kernel) R.ne]
      unfold Rs.within
      rw [if_neg (by decide +kernel), if_pos rfl]
      show (if isTimes t = true then _ else _) = _
      rw [if_pos ht2.2]
    obtain ⟨s2, e2, A2⟩ := ih (s.push .rep) (R.push hd (fun h => ⟨h, by decide⟩) (fun _ h => h) (fun x z => nomatch z))
    obtain ⟨s3, e3, A3⟩ := block_end (g := g) R.ne (show s2.stack = s.stack ++ [.rep] from A2.stack) (by decide) A2.walks A2.jobs A2.deep A2.begun
    refine ⟨s3, ?_, A3⟩
    rw [List.map_append, List.map_append, List.map_cons, List.map_nil, List.append_assoc, List.singleton_append, stepsR_cons hst, stepsR_app e2]
    show stepsR s2 [sp1 (Str.ofString "end")] = _
    rw [spE]
    exact e3
  | @guard late kept dp m n a b wd hd hwd _ _ ih1 ih2 =>
    intro s R
    have hst : s.step (sp1 (Str.ofString "guard")) = some (s.push .guard) := by
      rw [spG]
      show s.take "guard" [] = _
      rw [take_in (by decide +kernel) R.ne]
      unfold Rs.within
      rw [if_neg (by decide +kernel), if_neg (by decide +kernel), if_neg (by decide +kernel), if_pos rfl]
      unfold Rs.alone
      rw [if_neg (by decide +kernel), if_neg (by decide +kernel), if_pos rfl]
    obtain ⟨s2, e2, A2⟩ := ih1 (s.push .guard) (R.push hd (fun h => ⟨h, by decide⟩) (fun _ h => h) (fun x z => nomatch z))
    have hs2 : s2.stack = s.stack ++ [.guard] := A2.stack
    obtain ⟨e, he, hne, hel, hek, hturn⟩ : ∃ e : En, s2.step (sp1 wd) = some { s2 with stack := s.stack ++ [e] } ∧ e ≠ .guard ∧ ((late || decide (wd = "late")) = false → late = false ∧ e ≠ .late) ∧ (∀ x, e ≠ En.each x "kept") ∧ True := by
      have tn : ∀ e : En, s2.turned e = some { s2 with stack := s.stack ++ [e] } := fun e => by
        unfold Rs.turned
        rw [hs2, List.getLast?_concat, if_pos rfl, List.dropLast_concat]
      have ne2 : s2.stack ≠ [] := by
        rw [hs2]
        exact List.append_ne_nil_of_right_ne_nil _ (by simp)
      simp only [List.mem_cons, List.not_mem_nil, or_false] at hwd
      rcases hwd with rfl | rfl
      · refine ⟨.late, ?_, by decide, fun h => ?_, fun x z => (nomatch z), trivial⟩
        · rw [show sp1 (Str.ofString "late") = (["late"] : List Str) by kernel_rfl]
          show s2.take "late" [] = _
          rw [take_in (by decide +kernel) ne2]
          unfold Rs.within
          rw [if_neg (by decide +kernel), if_neg (by decide +kernel), if_neg (by decide +kernel), if_pos rfl]
          unfold Rs.alone
          rw [if_pos rfl]
          exact tn _
        · rw [decide_eq_true rfl, Bool.or_true] at h
          cases h
      · refine ⟨.mend, ?_, by decide, fun h => ⟨?_, by decide⟩, fun x z => (nomatch z), trivial⟩
        · rw [show sp1 (Str.ofString "mend") = (["mend"] : List Str) by kernel_rfl]
          show s2.take "mend" [] = _
          rw [take_in (by decide +kernel) ne2]
          unfold Rs.within
          rw [if_neg (by decide +kernel), if_neg (by decide +kernel), if_neg (by decide +kernel), if_pos rfl]
          unfold Rs.alone
          rw [if_neg (by decide +kernel), if_pos rfl]
          exact tn _
        · cases late with
          | false => rfl
          | true => cases h
    have R3 : Rdy g (late || decide (wd = "late")) kept (dp + 1) { s2 with stack := s.stack ++ [e] } := by
      refine ⟨?_, fun h => ?_, fun h => ?_, fun x hx => ?_, fun h m => ?_, fun x m => ?_, A2.deep⟩
      · show (s.stack ++ [e]).length = _
        rw [List.length_append, R.len]
        rfl
      · show (s.stack ++ [e]).head?.any _ = true
        rw [head_app R.ne]
        exact R.hw h
      · show (s.stack ++ [e]).head?.any _ = true
        rw [head_app R.ne]
        exact R.hj h
      · show x ∈ s2.walks
        rw [A2.walks]
        exact R.kn x hx
      · rcases List.mem_append.mp (show En.late ∈ s.stack ++ [e] from m) with z | z
        · exact R.lt (hel h).1 z
        · exact (hel h).2 (List.mem_singleton.mp z).symm
      · rcases List.mem_append.mp (show En.each x "kept" ∈ s.stack ++ [e] from m) with z | z
        · exact R.kp x z
        · exact absurd (List.mem_singleton.mp z).symm (hek x)
    obtain ⟨s4, e4, A4⟩ := ih2 _ R3
    obtain ⟨s5, e5, A5⟩ := block_end (g := g) R.ne (show s4.stack = s.stack ++ [e] from A4.stack) hne (by rw [A4.walks]; exact A2.walks) (by rw [A4.jobs]; exact A2.jobs) A4.deep (fun x hx => by
      rcases A4.begun x hx with z | z
      · exact A2.begun x z
      · exact .inr z)
    refine ⟨s5, ?_, A5⟩
    rw [List.map_append, List.map_append, List.map_append, List.map_append, List.append_assoc, List.append_assoc, List.append_assoc]
    show stepsR s (sp1 (Str.ofString "guard") :: (a.map sp1 ++ (sp1 wd :: (b.map sp1 ++ [sp1 (Str.ofString "end")])))) = _
    rw [stepsR_cons hst, stepsR_app e2, stepsR_cons he, stepsR_app e4, spE]
    exact e5
  | @each late kept dp n rs wk how t hd hw hh hkk ht _ ih =>
    intro s R
    have hn := ok.known wk hw
    have hho : nob how ∧ how ∈ k_HOWS := by
      simp only [List.mem_cons, List.not_mem_nil, or_false] at hh
      rcases hh with rfl | rfl | rfl <;> exact ⟨by decide +kernel, by decide +kernel⟩
    have hmay : s.mayPull wk how = true := by
      unfold Rs.mayPull
      rw [decide_eq_true (R.kn wk hw), decide_eq_true hho.2]
      by_cases c : how = "kept"
      · obtain ⟨h1, h2⟩ := hkk c
        rw [decide_eq_true c, R.hj h1, decide_eq_false (fun z => h2 (R.kp wk z))]
        rfl
      · rw [decide_eq_false c]
        rfl
    have hst : s.step (sp1 ((((Str.ofString "each " ++ wk) ++ " ") ++ how) ++ t)) = some (s.push (.each wk how)) := by
      rw [show Str.ofString "each " = Str.ofString "each" ++ (" " : Str) by kernel_rfl]
      have ea : ((((Str.ofString "each" ++ (" " : Str)) ++ wk) ++ (" " : Str)) ++ how) ++ t = (Str.ofString "each" ++ (" " : Str)) ++ ((wk ++ (" " : Str)) ++ (how ++ t)) := by
        rw [str_assoc, str_assoc, str_assoc, str_assoc, str_assoc, str_assoc]
      rw [ea, split_more (by decide +kernel), split_more (nob_name hn)]
      have tk : s.take "each" = s.within "each" := by
        funext r
        exact take_in (by decide +kernel) R.ne
      have ht' : t = "" ∨ ∃ f : Str, t = (" " : Str) ++ f ∧ nob f ∧ isTimes f = true := by
        simp only [List.mem_cons, List.not_mem_nil, or_false] at ht
        rcases ht with rfl | rfl | rfl | rfl
        · exact .inl rfl
        · exact .inr ⟨"1", by kernel_rfl, by decide +kernel, by decide +kernel⟩
        · exact .inr ⟨"2", by kernel_rfl, by decide +kernel, by decide +kernel⟩
        · exact .inr ⟨"3", by kernel_rfl, by decide +kernel, by decide +kernel⟩
      rcases ht' with rfl | ⟨f, rfl, hf1, hf2⟩
      · have e0 : how ++ (Str.ofString "" : Str) = how := by
          have h : (how ++ (Str.ofString "" : Str)).cps.toList = how.cps.toList := by
            rw [codes_app]
            show _ ++ [] = _
            rw [List.append_nil]
          have := congrArg SX.S h
          rw [SX.S_tl, SX.S_tl] at this
          exact this
        rw [e0, split_one hho.1]
        show s.take "each" [wk, how] = _
        rw [tk]
        unfold Rs.within
        rw [if_neg (by decide +kernel), if_neg (by decide +kernel), if_pos rfl]
        show s.pulled wk how [] = _
        unfold Rs.pulled
        rw [hmay]
        rfl
      · rw [← str_assoc, split_two hho.1 hf1]
        show s.take "each" [wk, how, f] = _
        rw [tk]
        unfold Rs.within
        rw [if_neg (by decide +kernel), if_neg (by decide +kernel), if_pos rfl]
        show s.pulled wk how [f] = _
        unfold Rs.pulled
        rw [hmay, List.all_cons, hf2]
        rfl
    obtain ⟨s2, e2, A2⟩ := ih (s.push (.each wk how)) (R.push hd (fun h => ⟨h, by simp⟩) (fun x hx => by
        split
        · exact List.mem_append.mpr (.inl hx)
        · exact hx) (fun x z => by
        cases z
        rw [if_pos rfl]
        exact List.mem_append.mpr (.inr List.mem_cons_self)))
    obtain ⟨s3, e3, A3⟩ := block_end (g := g) R.ne (show s2.stack = s.stack ++ [.each wk how] from A2.stack) (by simp) A2.walks A2.jobs A2.deep A2.begun
    refine ⟨s3, ?_, A3⟩
    rw [List.map_append, List.map_append, List.map_cons, List.map_nil, List.append_assoc, List.singleton_append, stepsR_cons hst, stepsR_app e2]
    show stepsR s2 [sp1 (Str.ofString "end")] = _
    rw [spE]
    exact e3

end Ly
namespace Ly
open PySem PySem.Spec PyProof.Rows L2
/-! ### drawn programs are read: whole -/
theorem putN_new {gs : List Str} {n : Str} (h : n ∉ gs) : putN gs n = gs ++ [n] := if_neg h
theorem nodup_snoc {xs : List Str} {x : Str} (h : (xs ++ [x]).Nodup) : xs.Nodup ∧ x ∉ xs := by
  have p : (x :: xs).Perm (xs ++ [x]) := (List.perm_append_singleton x xs).symm
  have := List.nodup_cons.mp (p.nodup_iff.mpr h)
  exact ⟨this.2, this.1⟩
structure PgOk (jobs : List Str) (s : Rs) (kn js : List Str) : Prop where
  stack : s.stack = []
  walks : s.walks = kn
  jb : s.jobs = js
  deep : s.deep ≤ 4
  begun : ∀ x ∈ s.begun, x ∈ jobs
theorem def_row {s : Rs} {sort n : Str} (hs : s.stack = []) (hso : sort = "walk" ∨ sort = "job") (hn : isName n = true) (hnew : n ∉ s.told sort) : s.step (sp1 ((sort ++ " ") ++ n)) = some { s with stack := [if sort = "walk" then .walk n else .job n] } := by
  have hnb : nob sort := by rcases hso with rfl | rfl <;> decide +kernel
  rw [split_two hnb (nob_name hn)]
  show s.take sort [n] = _
  unfold Rs.take
  rw [if_pos (by rcases hso with rfl | rfl <;> decide +kernel)]
  show s.defn sort n = _
  unfold Rs.defn
  rw [if_pos ⟨hs, hn, hnew⟩]
theorem Pg.run {jobs gates notes : List Str} {most : Nat} {kn js rs : List Str} (h : Pg jobs gates notes most kn js rs) (h1 : ∀ x ∈ jobs, isName x = true) (h2 : ∀ x ∈ gates, isName x = true) (h3 : ∀ x ∈ notes, isName x = true) (h4 : ∀ x ∈ kn, isName x = true) (h5 : ∀ x ∈ js, isName x = true)
    (n1 : kn.Nodup) (n2 : js.Nodup) : ∃ s, stepsR Rs.init (rs.map sp1) = some s ∧ PgOk jobs s kn js := by
  have spE : sp1 (Str.ofString "end") = (["end"] : List Str) := by kernel_rfl
  have hjw : ¬ (Str.ofString "job" = Str.ofString "walk") := by decide +kernel
  induction h with
  | nil => exact ⟨Rs.init, rfl, rfl, rfl, rfl, by decide, fun _ h => nomatch h⟩
  | @job kn js rs n a j _ g l ih =>
    obtain ⟨m1, m2⟩ := nodup_snoc n2
    obtain ⟨s, e, O⟩ := ih h4 (fun x hx => h5 x (List.mem_append.mpr (.inl hx))) n1 m1
    have hj := h5 j (List.mem_append.mpr (.inr List.mem_cons_self))
    have d := def_row (s := s) (sort := "job") (n := j) O.stack (.inr rfl) hj (by show j ∉ (if _ then _ else _ : List Str); rw [if_neg hjw, O.jb]; exact m2)
    rw [if_neg hjw] at d
    have R : Rdy ⟨"job", jobs, gates, notes, kn⟩ false [] 0 { s with stack := [.job j] } := by
      refine ⟨rfl, fun z => absurd z hjw, fun _ => rfl, fun x hx => ?_, fun _ m => ?_, fun x m => ?_, O.deep⟩
      · show x ∈ s.walks
        rw [O.walks]
        exact hx
      · cases List.mem_singleton.mp m
      · cases List.mem_singleton.mp m
    obtain ⟨s2, e2, A2⟩ := g.run ⟨h1, h2, h3, h4⟩ _ R
    have hs2 : s2.stack = [.job j] := A2.stack
    have en : s2.step (["end"] : List Str) = some { s2 with stack := [], jobs := putN s2.jobs j } := by
      show s2.take "end" [] = _
      unfold Rs.take
      rw [if_neg (by decide +kernel), if_pos rfl, if_pos rfl]
      unfold Rs.ended
      rw [hs2]
      rfl
    refine ⟨{ s2 with stack := [], jobs := putN s2.jobs j }, ?_, rfl, ?_, ?_, A2.deep, fun x hx => ?_⟩
    · rw [List.map_append, stepsR_app e, List.map_append, List.map_append, List.map_cons, List.map_nil, List.append_assoc, List.singleton_append, stepsR_cons d, stepsR_app e2]
      show stepsR s2 [sp1 (Str.ofString "end")] = _
      rw [spE, stepsR_cons en]
      rfl
    · show s2.walks = kn
      rw [A2.walks]
      exact O.walks
    · show putN s2.jobs j = _
      have : s2.jobs = js := A2.jobs.trans O.jb
      rw [this, putN_new m2]
    · rcases A2.begun x hx with z | z
      · exact O.begun x z
      · exact z
  | @walk kn js rs n a j _ g l ih =>
    obtain ⟨m1, m2⟩ := nodup_snoc n1
    have hk : ∀ x ∈ kn, isName x = true := fun x hx => h4 x (List.mem_append.mpr (.inl hx))
    obtain ⟨s, e, O⟩ := ih hk h5 m1 n2
    have hj := h4 j (List.mem_append.mpr (.inr List.mem_cons_self))
    have d := def_row (s := s) (sort := "walk") (n := j) O.stack (.inl rfl) hj (by show j ∉ (if _ then _ else _ : List Str); rw [if_pos rfl, O.walks]; exact m2)
    rw [if_pos rfl] at d
    have R : Rdy ⟨"walk", jobs, gates, notes, kn⟩ false [] 0 { s with stack := [.walk j] } := by
      refine ⟨rfl, fun _ => rfl, fun z => absurd z.symm hjw, fun x hx => ?_, fun _ m => ?_, fun x m => ?_, O.deep⟩
      · show x ∈ s.walks
        rw [O.walks]
        exact hx
      · cases List.mem_singleton.mp m
      · cases List.mem_singleton.mp m
    obtain ⟨s2, e2, A2⟩ := g.run ⟨h1, h2, h3, hk⟩ _ R
    have hs2 : s2.stack = [.walk j] := A2.stack
    have en : s2.step (["end"] : List Str) = some { s2 with stack := [], walks := putN s2.walks j } := by
      show s2.take "end" [] = _
      unfold Rs.take
      rw [if_neg (by decide +kernel), if_pos rfl, if_pos rfl]
      unfold Rs.ended
      rw [hs2]
      rfl
    refine ⟨{ s2 with stack := [], walks := putN s2.walks j }, ?_, rfl, ?_, ?_, A2.deep, fun x hx => ?_⟩
    · rw [List.map_append, stepsR_app e, List.map_append, List.map_append, List.map_cons, List.map_nil, List.append_assoc, List.singleton_append, stepsR_cons d, stepsR_app e2]
      show stepsR s2 [sp1 (Str.ofString "end")] = _
      rw [spE, stepsR_cons en]
      rfl
    · show putN s2.walks j = _
      have : s2.walks = kn := A2.walks.trans O.walks
      rw [this, putN_new m2]
    · show s2.jobs = js
      rw [A2.jobs]
      exact O.jb
    · rcases A2.begun x hx with z | z
      · exact O.begun x z
      · exact z
/-- a text of rows that run to a program -/
theorem read_ok {rs : List Str} {s : Rs} {L n g : Nat} (X : Tx rs L n g) (hne : rs ≠ []) (hs : stepsR Rs.init (rs.map sp1) = some s) (h0 : s.stack = []) (hm : ("main" : Str) ∈ s.jobs) (hb : ∀ x ∈ s.begun, x ∈ s.jobs) (h1 : rs.length ≤ 100) (h2 : s.jobs.length ≤ 6) (h3 : s.walks.length ≤ 6) (h4 : s.deep ≤ 6) :
    readOut (Txt.join "\n" rs) = .ok ∧ runR Rs.init 0 (partsOf (Txt.join "\n" rs)) = .inr s := by
  have e : partsOf (Txt.join "\n" rs) = rs.map sp1 := by
    unfold partsOf
    rw [split_join' hne (fun r hr z => ((X.row r hr).2 10 z).2 rfl)]
    rfl
  have r : runR Rs.init 0 (partsOf (Txt.join "\n" rs)) = .inr s := by
    rw [e]
    exact run_of_steps 0 hs
  refine ⟨?_, r⟩
  have l0 : lacking s = none := by
    unfold lacking namesOf
    refine List.find?_eq_none.mpr fun x hx => ?_
    have : x ∈ s.jobs := by
      rcases List.mem_cons.mp hx with z | z
      · rw [z]
        exact hm
      · exact hb x z
    rw [decide_eq_true this]
    decide
  have t0 : tooMany s ((partsOf (Txt.join "\n" rs)).length : Nat) = none := by
    unfold tooMany sizesOf
    refine List.find?_eq_none.mpr fun x hx => ?_
    rw [e, List.length_map] at hx
    simp only [List.mem_cons, List.not_mem_nil, or_false] at hx
    rcases hx with rfl | rfl | rfl | rfl
    · exact fun z => absurd (of_decide_eq_true z) (by show ¬ ((rs.length : Nat) : Int) > 100; omega)
    · exact fun z => absurd (of_decide_eq_true z) (by show ¬ ((s.jobs.length : Nat) : Int) > 6; omega)
    · exact fun z => absurd (of_decide_eq_true z) (by show ¬ ((s.walks.length : Nat) : Int) > 6; omega)
    · exact fun z => absurd (of_decide_eq_true z) (by show ¬ s.deep > 6; omega)
  unfold readOut
  rw [r]
  show (if s.stack = [] then _ else _) = _
  rw [if_pos h0, l0]
  show (match tooMany s ((partsOf (Txt.join "\n" rs)).length : Nat) with | some t => Out.many t.1 | none => Out.ok) = _
  rw [t0]

end Ly
namespace Ly
open PySem PySem.Spec PyProof.Rows L2
/-! ### what the rows of a program tell -/
def nmOf (ws : List Str) : List Str → List Str
  | wd :: n :: _ => if wd ∈ ws then [n] else []
  | _ => []
theorem nmOf_no {ws : List Str} {wd : Str} (h : wd ∉ ws) : ∀ rest, nmOf ws (wd :: rest) = []
  | [] => rfl
  | _ :: _ => if_neg h
theorem nmOf_yes {ws : List Str} {wd n : Str} (h : wd ∈ ws) (r : List Str) : nmOf ws (wd :: n :: r) = [n] := if_pos h
theorem putN_mem (gs : List Str) (n x : Str) : x ∈ putN gs n ↔ x ∈ gs ∨ x = n := by
  unfold putN
  split
  · rename_i h
    exact ⟨.inl, fun z => z.elim id fun e => e ▸ h⟩
  · rw [List.mem_append, List.mem_singleton]
theorem putN_nodup {gs : List Str} (h : gs.Nodup) (n : Str) : (putN gs n).Nodup := by
  unfold putN
  split
  · exact h
  · rename_i c
    exact (List.perm_append_singleton n gs).nodup_iff.mpr (List.nodup_cons.mpr ⟨c, h⟩)
structure Told (s : Rs) (J W G : List Str) : Prop where
  j : ∀ x, x ∈ J ↔ x ∈ s.jobs ∨ s.stack.head? = some (.job x)
  w : ∀ x, x ∈ W ↔ x ∈ s.walks ∨ s.stack.head? = some (.walk x)
  g : ∀ x, x ∈ G ↔ x ∈ s.gates
  nj : s.jobs.Nodup
  nw : s.walks.Nodup
  ng : s.gates.Nodup
theorem Told.keep {s s' : Rs} {J W G : List Str} (t : Told s J W G) (e1 : s'.jobs = s.jobs) (e2 : s'.walks = s.walks) (e3 : s'.gates = s.gates) (e4 : ∀ x, (s'.stack.head? = some (.job x) ↔ s.stack.head? = some (.job x)) ∧ (s'.stack.head? = some (.walk x) ↔ s.stack.head? = some (.walk x))) : Told s' J W G := by
  refine ⟨fun x => ?_, fun x => ?_, fun x => ?_, by rw [e1]; exact t.nj, by rw [e2]; exact t.nw, by rw [e3]; exact t.ng⟩
  · rw [e1, (e4 x).1]
    exact t.j x
  · rw [e2, (e4 x).2]
    exact t.w x
  · rw [e3]
    exact t.g x
theorem same_hd {s s' : Rs} (h : s'.stack.head? = s.stack.head?) : ∀ x, (s'.stack.head? = some (.job x) ↔ s.stack.head? = some (.job x)) ∧ (s'.stack.head? = some (.walk x) ↔ s.stack.head? = some (.walk x)) := fun x => by rw [h]; exact ⟨Iff.rfl, Iff.rfl⟩
theorem push_hd {s : Rs} (h : s.stack ≠ []) (e : En) : (s.push e).stack.head? = s.stack.head? := head_app h e
theorem dl_hd {α : Type} {xs : List α} (h : xs.dropLast ≠ []) : xs.dropLast.head? = xs.head? := by
  match xs, h with
  | [], h => exact absurd rfl h
  | [_], h => exact absurd rfl h
  | _ :: _ :: _, _ => rfl
theorem one_of {α : Type} {xs : List α} {e : α} (h1 : xs.getLast? = some e) (h2 : xs.dropLast = []) : xs = [e] := by
  match xs, h1, h2 with
  | [a], h1, _ => cases h1; rfl
  | _ :: _ :: _, _, h2 => cases h2
theorem turned_told {s s' : Rs} {e : En} {J W G : List Str} (t : Told s J W G) (he : ∀ x, e ≠ .job x ∧ e ≠ .walk x) (h : s.turned e = some s') : Told s' J W G := by
  unfold Rs.turned at h
  split at h
  · rename_i hl
    cases h
    refine t.keep rfl rfl rfl fun x => ?_
    show ((s.stack.dropLast ++ [e]).head? = _ ↔ _) ∧ ((s.stack.dropLast ++ [e]).head? = _ ↔ _)
    by_cases c : s.stack.dropLast = []
    · rw [c, one_of hl c]
      refine ⟨⟨fun z => ?_, fun z => ?_⟩, ⟨fun z => ?_, fun z => ?_⟩⟩
      · injection z with z
        exact absurd z (he x).1
      · injection z with z
        cases z
      · injection z with z
        exact absurd z (he x).2
      · injection z with z
        cases z
    · rw [head_app c, dl_hd c]
      exact ⟨Iff.rfl, Iff.rfl⟩
  · cases h
theorem jnw : ("job" : Str) ∉ (["walk"] : List Str) ∧ ("walk" : Str) ∉ (["job"] : List Str) := by decide +kernel
theorem Told.nothing {s' : Rs} {wd : Str} {rest J W G : List Str} (h : Told s' J W G) (c : wd ∉ (["job", "walk", "wait", "open"] : List Str)) : Told s' (J ++ nmOf ["job"] (wd :: rest)) (W ++ nmOf ["walk"] (wd :: rest)) (G ++ nmOf ["wait", "open"] (wd :: rest)) := by
  simp only [List.mem_cons, List.not_mem_nil, or_false, not_or] at c
  rw [nmOf_no (by simp only [List.mem_cons, List.not_mem_nil, or_false]; exact c.1), nmOf_no (by simp only [List.mem_cons, List.not_mem_nil, or_false]; exact c.2.1), nmOf_no (by simp only [List.mem_cons, List.not_mem_nil, or_false, not_or]; exact c.2.2), List.append_nil, List.append_nil, List.append_nil]
  exact h
theorem Told.take {s s' : Rs} {wd : Str} {rest J W G : List Str} (t : Told s J W G) (h : s.take wd rest = some s') :
    Told s' (J ++ nmOf ["job"] (wd :: rest)) (W ++ nmOf ["walk"] (wd :: rest)) (G ++ nmOf ["wait", "open"] (wd :: rest)) ∧ (wd ∈ (["job", "walk", "wait", "open"] : List Str) → ∃ n, rest = [n]) := by
  unfold Rs.take at h
  split at h
  · rename_i hw
    unfold Rs.w0 at h
    split at h
    · rename_i n
      refine ⟨?_, fun _ => ⟨n, rfl⟩⟩
      unfold Rs.defn at h
      split at h
      · rename_i hs
        cases h
        have h0 : s.stack.head? = none := by rw [hs.1]; rfl
        simp only [List.mem_cons, List.not_mem_nil, or_false] at hw
        rcases hw with rfl | rfl
        · rw [nmOf_no jnw.2, nmOf_yes List.mem_cons_self, nmOf_no (by decide +kernel), List.append_nil, List.append_nil]
          rw [if_pos rfl]
          refine ⟨fun x => ?_, fun x => ?_, t.g, t.nj, t.nw, t.ng⟩
          · rw [t.j x, h0]
            exact ⟨fun z => z.elim .inl (fun z => nomatch z), fun z => z.elim .inl fun z => (by injection z with z; cases z)⟩
          · rw [List.mem_append, t.w x, h0]
            refine ⟨fun z => z.elim (fun z => z.elim .inl (fun z => nomatch z)) fun z => .inr ?_, fun z => z.elim (fun z => .inl (.inl z)) fun z => .inr ?_⟩
            · rw [List.mem_singleton.mp z]
              rfl
            · injection z with z
              injection z with z
              exact List.mem_singleton.mpr z.symm
        · rw [nmOf_no jnw.1, nmOf_yes List.mem_cons_self, nmOf_no (by decide +kernel), List.append_nil, List.append_nil]
          rw [if_neg (by decide +kernel)]
          refine ⟨fun x => ?_, fun x => ?_, t.g, t.nj, t.nw, t.ng⟩
          · rw [List.mem_append, t.j x, h0]
            refine ⟨fun z => z.elim (fun z => z.elim .inl (fun z => nomatch z)) fun z => .inr ?_, fun z => z.elim (fun z => .inl (.inl z)) fun z => .inr ?_⟩
            · rw [List.mem_singleton.mp z]
              rfl
            · injection z with z
              injection z with z
              exact List.mem_singleton.mpr z.symm
          · rw [t.w x, h0]
            exact ⟨fun z => z.elim .inl (fun z => nomatch z), fun z => z.elim .inl fun z => (by injection z with z; cases z)⟩
      · cases h
    · cases h
  · rename_i hw
    have hjw : wd ∉ (["job"] : List Str) ∧ wd ∉ (["walk"] : List Str) := by
      simp only [List.mem_cons, List.not_mem_nil, or_false, not_or] at hw ⊢
      exact ⟨hw.2, hw.1⟩
    split at h
    · rename_i hend
      subst hend
      refine ⟨Told.nothing ?_ (by decide +kernel), fun z => absurd z (by decide +kernel)⟩
      split at h
      · unfold Rs.ended at h
        split at h
        · cases h
        · cases h
        · rename_i e _ hl
          split at h
          · rename_i hd
            have es := one_of hl hd
            have hh : s.stack.head? = some e := by rw [es]; rfl
            split at h
            · rename_i n
              cases h
              refine ⟨fun x => ?_, fun x => ?_, t.g, t.nj, putN_nodup t.nw _, t.ng⟩
              · rw [t.j x, hh]
                exact ⟨fun z => z.elim .inl fun z => (by injection z with z; cases z), fun z => z.elim .inl (fun z => nomatch z)⟩
              · rw [t.w x, hh, putN_mem]
                refine ⟨fun z => z.elim (fun z => .inl (.inl z)) fun z => ?_, fun z => z.elim (fun z => z.elim .inl fun z => .inr (by rw [z])) (fun z => nomatch z)⟩
                injection z with z
                injection z with z
                exact .inl (.inr z.symm)
            · rename_i n
              cases h
              refine ⟨fun x => ?_, fun x => ?_, t.g, putN_nodup t.nj _, t.nw, t.ng⟩
              · rw [t.j x, hh, putN_mem]
                refine ⟨fun z => z.elim (fun z => .inl (.inl z)) fun z => ?_, fun z => z.elim (fun z => z.elim .inl fun z => .inr (by rw [z])) (fun z => nomatch z)⟩
                injection z with z
                injection z with z
                exact .inl (.inr z.symm)
              · rw [t.w x, hh]
                exact ⟨fun z => z.elim .inl fun z => (by injection z with z; cases z), fun z => z.elim .inl (fun z => nomatch z)⟩
            · cases h
          · rename_i hd
            cases h
            exact t.keep rfl rfl rfl (same_hd (dl_hd hd))
      · cases h
    · split at h
      · cases h
      · rename_i hne
        unfold Rs.within at h
        split at h
        · unfold Rs.w1 at h
          split at h
          · rename_i n
            refine ⟨?_, fun _ => ⟨n, rfl⟩⟩
            split at h
            · cases h
              rw [nmOf_no hjw.1, nmOf_no hjw.2, List.append_nil, List.append_nil]
              by_cases c : wd ∈ (["wait", "open"] : List Str)
              · rw [nmOf_yes c]
                have eg : (s.named wd n).gates = putN s.gates n := if_pos c
                refine ⟨t.j, t.w, fun x => ?_, t.nj, t.nw, by rw [eg]; exact putN_nodup t.ng _⟩
                rw [eg, putN_mem, List.mem_append, t.g x, List.mem_singleton]
              · rw [nmOf_no c, List.append_nil]
                exact t.keep rfl rfl (if_neg c) (same_hd rfl)
            · cases h
          · cases h
        · rename_i hnn
          have hno : wd ∉ (["job", "walk", "wait", "open"] : List Str) := by
            intro z
            simp only [List.mem_cons, List.not_mem_nil, or_false] at z
            rcases z with z | z | z | z
            · exact hw (by rw [z]; decide +kernel)
            · exact hw (by rw [z]; decide +kernel)
            · exact hnn (by rw [z]; decide +kernel)
            · exact hnn (by rw [z]; decide +kernel)
          refine ⟨Told.nothing ?_ hno, fun z => absurd z hno⟩
          have tp : ∀ e, Told (s.push e) J W G := fun e => t.keep rfl rfl rfl (same_hd (push_hd hne e))
          split at h
          · unfold Rs.w2 at h
            split at h
            · split at h
              · cases h
                exact tp _
              · cases h
            · cases h
          · split at h
            · unfold Rs.w3 at h
              split at h
              · unfold Rs.pulled at h
                split at h
                · cases h
                  exact tp _
                · cases h
              · unfold Rs.pulled at h
                split at h
                · cases h
                  exact tp _
                · cases h
              · cases h
            · split at h
              · unfold Rs.alone at h
                split at h
                · exact turned_told (e := .late) t (fun x => ⟨fun z => (nomatch z), fun z => (nomatch z)⟩) h
                · split at h
                  · exact turned_told (e := .mend) t (fun x => ⟨fun z => (nomatch z), fun z => (nomatch z)⟩) h
                  · split at h
                    · cases h
                      exact tp _
                    · split at h
                      · split at h
                        · cases h
                          exact t
                        · cases h
                      · split at h
                        · cases h
                          exact t
                        · cases h
              · cases h
def nmsIn (ws : List Str) (ps : List (List Str)) : List Str := ps.flatMap (nmOf ws)
def twoP (p : List Str) : Prop := ∃ wd rest, p = wd :: rest ∧ (wd ∈ (["job", "walk", "wait", "open"] : List Str) → ∃ n, rest = [n])
theorem Told.steps : ∀ {ps : List (List Str)} {s s' : Rs} {J W G : List Str}, Told s J W G → stepsR s ps = some s' → Told s' (J ++ nmsIn ["job"] ps) (W ++ nmsIn ["walk"] ps) (G ++ nmsIn ["wait", "open"] ps) ∧ ∀ p ∈ ps, twoP p
  | [], s, s', J, W, G, t, h => by
    cases h
    refine ⟨?_, fun _ h => nomatch h⟩
    show Told s (J ++ []) (W ++ []) (G ++ [])
    rw [List.append_nil, List.append_nil, List.append_nil]
    exact t
  | p :: ps, s, s', J, W, G, t, h => by
    cases e : s.step p with
    | none =>
      rw [stepsR, e] at h
      cases h
    | some s1 =>
      rw [stepsR_cons e] at h
      cases p with
      | nil => cases e
      | cons wd rest =>
        obtain ⟨t1, t2⟩ := t.take e
        obtain ⟨t3, t4⟩ := Told.steps t1 h
        rw [List.append_assoc, List.append_assoc, List.append_assoc] at t3
        refine ⟨t3, fun q hq => ?_⟩
        rcases List.mem_cons.mp hq with z | z
        · rw [z]
          exact ⟨wd, rest, rfl, t2⟩
        · exact t4 q z
theorem told_init : Told Rs.init [] [] [] := ⟨fun _ => ⟨fun z => (nomatch z), fun z => z.elim (fun z => nomatch z) (fun z => nomatch z)⟩, fun _ => ⟨fun z => (nomatch z), fun z => z.elim (fun z => nomatch z) (fun z => nomatch z)⟩, fun _ => ⟨fun z => (nomatch z), fun z => nomatch z⟩, List.nodup_nil, List.nodup_nil, List.nodup_nil⟩
/-- sorted lists of the same members are alike -/
theorem rising_pw : ∀ (p : Str) (l : List Str), risingS p l = true → (p :: l).Pairwise (fun a b => a.cps.toList ≤ b.cps.toList)
  | p, [], _ => List.pairwise_singleton _ _
  | p, x :: r, h => by
    have h' : (!ltCps x.cps.toList p.cps.toList && risingS x r) = true := h
    rw [Bool.and_eq_true, Bool.not_eq_true', ltCps_eq, decide_eq_false_iff_not] at h'
    have ih := rising_pw x r h'.2
    refine List.pairwise_cons.mpr ⟨fun y hy => ?_, ih⟩
    have h1 : p.cps.toList ≤ x.cps.toList := List.not_lt.mp h'.1
    rcases List.mem_cons.mp hy with z | z
    · rw [z]
      exact h1
    · exact List.le_trans h1 (List.rel_of_pairwise_cons ih z)
theorem sorted_pw : ∀ {l : List Str}, sortedS l = true → l.Pairwise (fun a b => a.cps.toList ≤ b.cps.toList)
  | [], _ => List.Pairwise.nil
  | x :: r, h => rising_pw x r h
theorem str_ext' {a b : Str} (h : a.cps.toList = b.cps.toList) : a = b := by
  cases a with | mk a => cases b with | mk b => exact congrArg Str.mk (Array.toList_inj.mp h)
theorem sorted_uniq {a b : List Str} (p : a.Perm b) (h1 : sortedS a = true) (h2 : sortedS b = true) : a = b :=
  p.eq_of_pairwise (fun _ _ _ _ x y => str_ext' (List.le_antisymm x y)) (sorted_pw h1) (sorted_pw h2)
theorem putS_nodup {l : List Str} (h : l.Nodup) (k : Str) : (LyS.putS l k).Nodup := by
  unfold LyS.putS
  split
  · exact h
  · exact List.nodup_cons.mpr ⟨by assumption, h⟩
theorem metS_nodup (xs : List Str) : (LyS.metS xs).Nodup := by
  have : ∀ (xs acc : List Str), acc.Nodup → (xs.foldl LyS.putS acc).Nodup := by
    intro xs
    induction xs with
    | nil => exact fun _ h => h
    | cons y ys ih => exact fun acc h => ih _ (putS_nodup h y)
  exact this xs [] List.nodup_nil
theorem met_eq {xs ys zs l : List Str} (n : l.Nodup) (m : ∀ x, x ∈ xs ↔ x ∈ l) (p1 : ys.Perm (LyS.metS xs)) (s1 : sortedS ys = true) (p2 : zs.Perm l) (s2 : sortedS zs = true) : zs = ys := by
  refine sorted_uniq (p2.trans (List.Perm.trans ?_ p1.symm)) s2 s1
  exact (List.perm_ext_iff_of_nodup n (metS_nodup xs)).mpr fun x => by rw [LyS.metS_mem, m x]
theorem met_len {xs l : List Str} (n : l.Nodup) (m : ∀ x, x ∈ xs ↔ x ∈ l) : (LyS.metS xs).length = l.length := ((List.perm_ext_iff_of_nodup n (metS_nodup xs)).mpr fun x => by rw [LyS.metS_mem, m x]).length_eq.symm

end Ly
namespace Ly
open PySem PySem.Spec PyProof.Rows L2
/-! ### rows of a program that is read -/
structure Good (rs : List Str) (s : Rs) : Prop where
  tx : Tx rs 30 1000 1000
  ne : rs ≠ []
  steps : stepsR Rs.init (rs.map sp1) = some s
  st : s.stack = []
  out : readOut (Txt.join "\n" rs) = .ok
  run : runR Rs.init 0 (partsOf (Txt.join "\n" rs)) = .inr s
  gl : s.gates.length < 64
  jl : s.jobs.length ≤ 6
  wl : s.walks.length ≤ 6
  ln : rs.length ≤ 100
theorem good_of {rs : List Str} {s : Rs} {n g : Nat} (X : Tx rs 30 n g) (hn : n ≤ 1000) (hg : g ≤ 1000) (hne : rs ≠ []) (hs : stepsR Rs.init (rs.map sp1) = some s) (h0 : s.stack = []) (hm : ("main" : Str) ∈ s.jobs) (hb : ∀ x ∈ s.begun, x ∈ s.jobs) (h1 : rs.length ≤ 100) (h2 : s.jobs.length ≤ 6) (h3 : s.walks.length ≤ 6) (h4 : s.deep ≤ 6) (h5 : s.gates.length < 64) : Good rs s := by
  obtain ⟨a, b⟩ := read_ok X hne hs h0 hm hb h1 h2 h3 h4
  exact ⟨X.mono (Nat.le_refl _) hn hg, hne, hs, h0, a, b, h5, h2, h3, h1⟩
/-- what is told of a good program -/
theorem Good.told {rs : List Str} {s : Rs} (G : Good rs s) : Told s (nmsIn ["job"] (rs.map sp1)) (nmsIn ["walk"] (rs.map sp1)) (nmsIn ["wait", "open"] (rs.map sp1)) ∧ ∀ r ∈ rs, twoP (sp1 r) := by
  obtain ⟨a, b⟩ := told_init.steps G.steps
  exact ⟨a, fun r hr => b _ (List.mem_map.mpr ⟨r, hr, rfl⟩)⟩
theorem Good.j {rs : List Str} {s : Rs} (G : Good rs s) (x : Str) : x ∈ nmsIn ["job"] (rs.map sp1) ↔ x ∈ s.jobs := by
  rw [G.told.1.j x, G.st]
  exact ⟨fun z => z.elim id (fun z => nomatch z), .inl⟩
theorem Good.w {rs : List Str} {s : Rs} (G : Good rs s) (x : Str) : x ∈ nmsIn ["walk"] (rs.map sp1) ↔ x ∈ s.walks := by
  rw [G.told.1.w x, G.st]
  exact ⟨fun z => z.elim id (fun z => nomatch z), .inl⟩
theorem one_len {xs : List Str} {n : Str} (h : xs.Nodup) (e : ∀ x ∈ xs, x = n) : xs.length ≤ 1 := by
  match xs, h, e with
  | [], _, _ => exact Nat.zero_le _
  | [_], _, _ => exact Nat.le_refl _
  | a :: b :: _, h, e =>
    have h1 := e a List.mem_cons_self
    have h2 := e b (List.mem_cons_of_mem _ List.mem_cons_self)
    exact absurd (show a ∈ b :: _ by rw [h1, h2]; exact List.mem_cons_self) (List.nodup_cons.mp h).1
/-- drawn programs -/
theorem drawn_good {d : Wd} {nj nw most : Nat} {kn js rs : List Str} (N : Wnew d nj nw) (ok : Wst d) (pg : Pg d.g.jobs d.g.gates d.g.notes most kn js rs) (pj : js.Perm d.g.jobs) (ew : kn.reverse = d.walks) (h6 : nj ≤ 6) (h7 : nw ≤ 6)
    (hn : (nj + nw) * (3 * most + 2) ≤ 100) (hg : (nj + nw) * (most + 1) < 64) : ∃ s, Good rs s := by
  have X := drawn_tx (nd := nj + nw) ok pg pj ew (Nat.add_le_add N.jl N.wl)
  have kp : kn.Perm d.walks := by
    rw [← ew]
    exact (List.reverse_perm kn).symm
  obtain ⟨s, e, O⟩ := pg.run ok.jobs.nm ok.gates.nm ok.notes.nm (fun x hx => ok.walks.nm x (kp.mem_iff.mp hx)) (fun x hx => ok.jobs.nm x (pj.mem_iff.mp hx)) (kp.nodup_iff.mpr N.wn) (pj.nodup_iff.mpr N.jn)
  obtain ⟨os, ho⟩ := N.jobs
  have hm : ("main" : Str) ∈ s.jobs := by
    rw [O.jb, pj.mem_iff, ho]
    exact List.mem_cons_self
  have hne : rs ≠ [] := by
    intro z
    rw [z] at e
    cases e
    cases hm
  have hrun := run_of_steps 0 e
  have hgl : s.gates.length < 64 := by
    refine X.gates hg s ?_
    have ep : partsOf (Txt.join "\n" rs) = rs.map sp1 := by
      unfold partsOf
      rw [split_join' hne (fun r hr z => ((X.row r hr).2 10 z).2 rfl)]
      rfl
    rw [ep]
    exact hrun
  refine ⟨s, good_of X (by omega) (by omega) hne e O.stack hm (fun x hx => ?_) (Nat.le_trans X.len hn) ?_ ?_ (by have := O.deep; omega) hgl⟩
  · rw [O.jb, pj.mem_iff]
    exact O.begun x hx
  · rw [O.jb, pj.length_eq]
    exact Nat.le_trans N.jl h6
  · rw [O.walks, kp.length_eq]
    exact Nat.le_trans N.wl h7
theorem tx_many {a : List Str} (h : ∀ r ∈ a, r.length ≤ 30 ∧ okc r) : Tx a 30 a.length a.length := ⟨h, Nat.le_refl _, List.length_filter_le _ _⟩
/-- a hundred rows -/
def lrow (n r : Str) : Prop := r = Str.ofString "say " ++ n ∨ r = Str.ofString "open " ++ n
theorem long_good {n : Str} {a : List Str} (hn : isName n = true) (ha : ∀ r ∈ a, lrow n r) (hl : a.length = 98) : ∃ s, Good (([Str.ofString "job main"] ++ a) ++ [Str.ofString "end"]) s := by
  have gr : ∀ a : List Str, (∀ r ∈ a, lrow n r) → Gr ⟨"job", ["main"], [n], [n], []⟩ false [] 0 a.length a := by
    intro a
    induction a with
    | nil => exact fun _ => .nil _ _ _
    | cons r a ih =>
      intro h
      have h1 : Gr ⟨"job", ["main"], [n], [n], []⟩ false [] 0 1 [r] := by
        rcases h r List.mem_cons_self with rfl | rfl
        · have := Gr.note (g := ⟨"job", ["main"], [n], [n], []⟩) false [] 0 (wd := "say") (x := n) List.mem_cons_self List.mem_cons_self
          rw [show Str.ofString "say " = Str.ofString "say" ++ (" " : Str) by kernel_rfl]
          exact this
        · have := Gr.gate (g := ⟨"job", ["main"], [n], [n], []⟩) false [] 0 (wd := "open") (x := n) (List.mem_cons_of_mem _ List.mem_cons_self) List.mem_cons_self
          rw [show Str.ofString "open " = Str.ofString "open" ++ (" " : Str) by kernel_rfl]
          exact this
      have := h1.app (ih fun r hr => h r (List.mem_cons_of_mem _ hr))
      rw [Nat.add_comm] at this
      exact this
  have pg := Pg.job (jobs := ["main"]) (gates := [n]) (notes := [n]) (most := 98) (j := "main") Pg.nil (gr a ha) (by omega)
  have nm : ∀ x ∈ ([n] : List Str), isName x = true := fun x hx => by rw [List.mem_singleton.mp hx]; exact hn
  have nmm : ∀ x ∈ (["main"] : List Str), isName x = true := by decide +kernel
  have er : [] ++ ([(Str.ofString "job" ++ " ") ++ Str.ofString "main"] ++ a ++ [Str.ofString "end"]) = ([Str.ofString "job main"] ++ a) ++ [Str.ofString "end"] := by
    rw [List.nil_append, show (Str.ofString "job" ++ (" " : Str)) ++ Str.ofString "main" = Str.ofString "job main" by kernel_rfl]
  rw [er] at pg
  have X := pg.tx nmm nm nm (fun _ h => nomatch h) nmm
  obtain ⟨s, e, O⟩ := pg.run nmm nm nm (fun _ h => nomatch h) nmm List.nodup_nil (by decide +kernel)
  have ln := name_short hn
  have T := (told_init.steps e).1
  have hg : s.gates.length ≤ 1 := by
    refine one_len T.ng (fun x hx => ?_) (n := n)
    have := (T.g x).mpr hx
    rw [List.nil_append] at this
    obtain ⟨p, hp, hx2⟩ := List.mem_flatMap.mp this
    obtain ⟨r, hr, rfl⟩ := List.mem_map.mp hp
    rcases List.mem_append.mp hr with hr | hr
    · rcases List.mem_append.mp hr with hr | hr
      · rw [List.mem_singleton.mp hr, show sp1 (Str.ofString "job main") = (["job", "main"] : List Str) by kernel_rfl, nmOf_no (by decide +kernel)] at hx2
        cases hx2
      · rcases ha r hr with rfl | rfl
        · rw [show Str.ofString "say " = Str.ofString "say" ++ (" " : Str) by kernel_rfl, split_two (by decide +kernel) (nob_name hn), nmOf_no (by decide +kernel)] at hx2
          cases hx2
        · rw [show Str.ofString "open " = Str.ofString "open" ++ (" " : Str) by kernel_rfl, split_two (by decide +kernel) (nob_name hn), nmOf_yes (by decide +kernel)] at hx2
          exact List.mem_singleton.mp hx2
    · rw [List.mem_singleton.mp hr, show sp1 (Str.ofString "end") = (["end"] : List Str) by kernel_rfl, nmOf_no (by decide +kernel)] at hx2
      cases hx2
  refine ⟨s, good_of X (by show (0 + 1 + 0) * _ ≤ _; omega) (by show (0 + 1 + 0) * _ ≤ _; omega) (by simp) e O.stack ?_ (fun x hx => ?_) ?_ ?_ ?_ (by have := O.deep; omega) (by omega)⟩
  · rw [O.jb]
    exact List.mem_cons_self
  · rw [O.jb]
    exact O.begun x hx
  · rw [List.length_append, List.length_append, hl]
    decide
  · rw [O.jb]
    decide
  · rw [O.walks]
    decide
/-- six blocks within one another -/
def opRow (n r : Str) : Prop := r = "repeat 9" ∨ r = "guard" ∨ r = (Str.ofString "each " ++ n) ++ Str.ofString " dropped"
def enOf (n r : Str) : En := if r = "repeat 9" then .rep else if r = "guard" then .guard else .each n "dropped"
inductive Cls : List Str → List Str → Prop
  | nil : Cls [] []
  | snoc {os cl g : List Str} {r : Str} : Cls os cl → (r ≠ "guard" ∧ g = [] ∨ r = "guard" ∧ ∃ wd, wd ∈ (["late", "mend"] : List Str) ∧ g = [wd]) → Cls (os ++ [r]) (cl ++ (g ++ [Str.ofString "end"]))
theorem Cls.len {os cl : List Str} (h : Cls os cl) : cl.length ≤ 2 * os.length := by
  induction h with
  | nil => exact Nat.le_refl _
  | @snoc os cl g r _ hg ih =>
    have : g.length ≤ 1 := by
      rcases hg with ⟨_, rfl⟩ | ⟨_, wd, _, rfl⟩
      · exact Nat.zero_le _
      · exact Nat.le_refl _
    rw [List.length_append, List.length_append, List.length_append]
    show cl.length + (g.length + 1) ≤ 2 * (os.length + 1)
    omega
theorem Cls.mem {os cl : List Str} (h : Cls os cl) : ∀ r ∈ cl, r ∈ (["late", "mend", "end"] : List Str) := by
  induction h with
  | nil => exact fun _ h => nomatch h
  | @snoc os cl g r _ hg ih =>
    intro x hx
    rcases List.mem_append.mp hx with z | z
    · exact ih x z
    · rcases List.mem_append.mp z with z | z
      · rcases hg with ⟨_, rfl⟩ | ⟨_, wd, hw, rfl⟩
        · cases z
        · rw [List.mem_singleton.mp z]
          simp only [List.mem_cons, List.not_mem_nil, or_false] at hw ⊢
          rcases hw with h | h
          · exact .inl h
          · exact .inr (.inl h)
      · rw [List.mem_singleton.mp z]
        decide +kernel
theorem dropped_row {n : Str} (hn : isName n = true) : sp1 ((Str.ofString "each " ++ n) ++ Str.ofString " dropped") = [Str.ofString "each", n, Str.ofString "dropped"] := by
  rw [show Str.ofString "each " = Str.ofString "each" ++ (" " : Str) by kernel_rfl, show Str.ofString " dropped" = (" " : Str) ++ Str.ofString "dropped" by kernel_rfl]
  rw [str_assoc, ← str_assoc n, split_more (by decide +kernel), split_two (nob_name hn) (by decide +kernel)]
theorem op_step {n r : Str} (hn : isName n = true) (h : opRow n r) {s : Rs} (hw : n ∈ s.walks) (hne : s.stack ≠ []) : s.step (sp1 r) = some (s.push (enOf n r)) := by
  rcases h with rfl | rfl | rfl
  · rw [show sp1 (Str.ofString "repeat 9") = (["repeat", "9"] : List Str) by kernel_rfl]
    show s.take "repeat" ["9"] = _
    rw [take_in (by decide +kernel) hne]
    unfold Rs.within
    rw [if_neg (by decide +kernel), if_pos rfl]
    show (if isTimes "9" = true then some (s.push .rep) else none) = _
    rw [if_pos (by decide +kernel)]
    unfold enOf
    rw [if_pos rfl]
  · rw [show sp1 (Str.ofString "guard") = (["guard"] : List Str) by kernel_rfl]
    show s.take "guard" [] = _
    rw [take_in (by decide +kernel) hne]
    unfold Rs.within
    rw [if_neg (by decide +kernel), if_neg (by decide +kernel), if_neg (by decide +kernel), if_pos rfl]
    unfold Rs.alone
    rw [if_neg (by decide +kernel), if_neg (by decide +kernel), if_pos rfl]
    unfold enOf
    rw [if_neg (by decide +kernel), if_pos rfl]
  · have e1 : enOf n ((Str.ofString "each " ++ n) ++ Str.ofString " dropped") = .each n "dropped" := by
      unfold enOf
      have nb : ∀ z : Str, z.length < 13 → ¬ ((Str.ofString "each " ++ n) ++ Str.ofString " dropped" = z) := fun z hz e => by
        have := congrArg Str.length e
        rw [app_len, app_len] at this
        have a1 : (Str.ofString "each ").length = 5 := by decide +kernel
        have a2 : (Str.ofString " dropped").length = 8 := by decide +kernel
        omega
      rw [if_neg (nb _ (by decide +kernel)), if_neg (nb _ (by decide +kernel))]
    rw [dropped_row hn, e1]
    show s.take "each" [n, "dropped"] = _
    rw [take_in (by decide +kernel) hne]
    unfold Rs.within
    rw [if_neg (by decide +kernel), if_neg (by decide +kernel), if_pos rfl]
    show s.pulled n "dropped" [] = _
    unfold Rs.pulled
    have hmay : s.mayPull n "dropped" = true := by
      unfold Rs.mayPull
      rw [decide_eq_true hw, decide_eq_true (show ("dropped" : Str) ∈ k_HOWS by decide +kernel), decide_eq_false (show ¬ (("dropped" : Str) = "kept") by decide +kernel)]
      rfl
    rw [hmay]
    rfl
theorem ops_run {n : Str} (hn : isName n = true) : ∀ {os : List Str}, (∀ r ∈ os, opRow n r) → ∀ {s : Rs}, n ∈ s.walks → s.stack ≠ [] → s.deep ≤ (s.stack.length : Nat) → ∃ d : Int, d ≤ ((s.stack.length + os.length : Nat) : Int) ∧ d ≤ max s.deep ((s.stack.length + os.length : Nat) - 1 : Int) ∧ stepsR s (os.map sp1) = some { s with stack := s.stack ++ os.map (enOf n), deep := d }
  | [], _, s, _, _, hd => ⟨s.deep, by simpa using hd, by omega, by
      show some s = some { s with stack := s.stack ++ [], deep := s.deep }
      rw [List.append_nil]⟩
  | r :: os, h, s, hw, hne, hd => by
    have st := op_step hn (h r List.mem_cons_self) hw hne
    have hne2 : (s.push (enOf n r)).stack ≠ [] := List.append_ne_nil_of_right_ne_nil _ (by simp)
    have ld : (s.push (enOf n r)).deep ≤ ((s.push (enOf n r)).stack.length : Nat) ∧ (s.push (enOf n r)).deep ≤ max s.deep (s.stack.length : Nat) := by
      show (if (s.stack.length : Int) > s.deep then (s.stack.length : Int) else s.deep) ≤ (((s.stack ++ [enOf n r]).length : Nat) : Int) ∧ (if (s.stack.length : Int) > s.deep then (s.stack.length : Int) else s.deep) ≤ max s.deep (s.stack.length : Nat)
      rw [List.length_append]
      show _ ≤ ((s.stack.length + 1 : Nat) : Int) ∧ _
      split <;> omega
    obtain ⟨d, d1, d2, d3⟩ := ops_run hn (fun r hr => h r (List.mem_cons_of_mem _ hr)) (s := s.push (enOf n r)) hw hne2 ld.1
    have l2 : (s.push (enOf n r)).stack.length = s.stack.length + 1 := by
      show (s.stack ++ [enOf n r]).length = _
      rw [List.length_append]
      rfl
    rw [l2] at d1 d2
    refine ⟨d, ?_, ?_, ?_⟩
    · rw [List.length_cons]
      omega
    · have := ld.2
      rw [List.length_cons]
      omega
    · rw [List.map_cons, stepsR_cons st, d3]
      show some { s with stack := (s.stack ++ [enOf n r]) ++ os.map (enOf n), deep := d } = _
      rw [List.append_assoc]
      rfl
theorem cls_run {n : Str} {os cl : List Str} (h : Cls os cl) (hr : ∀ r ∈ os, opRow n r) : ∀ {s : Rs} {st : List En}, st ≠ [] → s.stack = st ++ os.reverse.map (enOf n) → stepsR s (cl.map sp1) = some { s with stack := st } := by
  have spE : sp1 (Str.ofString "end") = (["end"] : List Str) := by kernel_rfl
  induction h with
  | nil =>
    intro s st _ hs
    have : s.stack = st := by
      rw [hs]
      exact List.append_nil _
    subst this
    rfl
  | @snoc os cl g r _ hg ih =>
    intro s st hne hs
    have hs2 : s.stack = (st ++ [enOf n r]) ++ os.reverse.map (enOf n) := by
      rw [hs, List.reverse_append, List.append_assoc]
      rfl
    have e1 := ih (fun r h => hr r (List.mem_append.mpr (.inl h))) (List.append_ne_nil_of_right_ne_nil _ (by simp)) hs2
    rw [List.map_append, stepsR_app e1, List.map_append]
    rcases hg with ⟨hng, rfl⟩ | ⟨hgd, wd, hwd, rfl⟩
    · show stepsR _ [sp1 (Str.ofString "end")] = _
      have he : enOf n r ≠ .guard := by
        unfold enOf
        rw [if_neg hng]
        split
        · exact fun z => nomatch z
        · exact fun z => nomatch z
      have en : Rs.step { s with stack := st ++ [enOf n r] } [Str.ofString "end"] = some { s with stack := st } := end_in (s := { s with stack := st ++ [enOf n r] }) rfl hne he
      rw [spE, stepsR_cons en]
      rfl
    · have eg : enOf n r = .guard := by
        rw [hgd]
        unfold enOf
        rw [if_neg (by decide +kernel), if_pos rfl]
      have tn : ∀ e : En, Rs.turned { s with stack := st ++ [enOf n r] } e = some { s with stack := st ++ [e] } := fun e => by
        unfold Rs.turned
        rw [eg]
        show (if (st ++ [En.guard]).getLast? = _ then some { s with stack := (st ++ [En.guard]).dropLast ++ [e] } else none) = _
        rw [List.getLast?_concat, if_pos rfl, List.dropLast_concat]
      have ne2 : st ++ [enOf n r] ≠ [] := List.append_ne_nil_of_right_ne_nil _ (by simp)
      obtain ⟨e, he, e2⟩ : ∃ e : En, e ≠ .guard ∧ Rs.step { s with stack := st ++ [enOf n r] } (sp1 wd) = some { s with stack := st ++ [e] } := by
        simp only [List.mem_cons, List.not_mem_nil, or_false] at hwd
        rcases hwd with rfl | rfl
        · refine ⟨.late, by decide, ?_⟩
          rw [show sp1 (Str.ofString "late") = (["late"] : List Str) by kernel_rfl]
          show Rs.take { s with stack := st ++ [enOf n r] } "late" [] = _
          rw [take_in (by decide +kernel) ne2]
          unfold Rs.within
          rw [if_neg (by decide +kernel), if_neg (by decide +kernel), if_neg (by decide +kernel), if_pos rfl]
          unfold Rs.alone
          rw [if_pos rfl]
          exact tn _
        · refine ⟨.mend, by decide, ?_⟩
          rw [show sp1 (Str.ofString "mend") = (["mend"] : List Str) by kernel_rfl]
          show Rs.take { s with stack := st ++ [enOf n r] } "mend" [] = _
          rw [take_in (by decide +kernel) ne2]
          unfold Rs.within
          rw [if_neg (by decide +kernel), if_neg (by decide +kernel), if_neg (by decide +kernel), if_pos rfl]
          unfold Rs.alone
          rw [if_neg (by decide +kernel), if_pos rfl]
          exact tn _
      show stepsR _ [sp1 wd, sp1 (Str.ofString "end")] = _
      have en : Rs.step { s with stack := st ++ [e] } [Str.ofString "end"] = some { s with stack := st } := end_in (s := { s with stack := st ++ [e] }) rfl hne he
      rw [stepsR_cons e2, spE, stepsR_cons en]
      rfl
def baseR (n : Str) : List Str := [Str.ofString "walk " ++ n, Str.ofString "give", Str.ofString "end", Str.ofString "job main"]
theorem base_run {n : Str} (hn : isName n = true) : stepsR Rs.init ((baseR n).map sp1) = some { Rs.init with stack := [.job "main"], walks := [n] } := by
  have hjw : ¬ (Str.ofString "job" = Str.ofString "walk") := by decide +kernel
  have d := def_row (s := Rs.init) (sort := "walk") (n := n) rfl (.inl rfl) hn (by show n ∉ (if _ then [] else [] : List Str); rw [if_pos rfl]; exact fun h => nomatch h)
  rw [if_pos rfl, show Str.ofString "walk" ++ (" " : Str) = Str.ofString "walk " by kernel_rfl] at d
  have d2 : Rs.step { Rs.init with stack := [.walk n] } (sp1 (Str.ofString "give")) = some { Rs.init with stack := [.walk n] } := by
    rw [show sp1 (Str.ofString "give") = (["give"] : List Str) by kernel_rfl]
    show Rs.take { Rs.init with stack := [.walk n] } "give" [] = _
    rw [take_in (by decide +kernel) (by simp)]
    unfold Rs.within
    rw [if_neg (by decide +kernel), if_neg (by decide +kernel), if_neg (by decide +kernel), if_pos rfl]
    unfold Rs.alone
    rw [if_neg (by decide +kernel), if_neg (by decide +kernel), if_neg (by decide +kernel), if_pos rfl, if_pos]
    unfold Rs.mayGive
    rw [decide_eq_false (by simp)]
    rfl
  have d3 : Rs.step { Rs.init with stack := [.walk n] } (sp1 (Str.ofString "end")) = some { Rs.init with walks := [n] } := by
    rw [show sp1 (Str.ofString "end") = (["end"] : List Str) by kernel_rfl]
    show Rs.take { Rs.init with stack := [.walk n] } "end" [] = _
    unfold Rs.take
    rw [if_neg (by decide +kernel), if_pos rfl, if_pos rfl]
    rfl
  have d4 := def_row (s := { Rs.init with walks := [n] }) (sort := "job") (n := "main") rfl (.inr rfl) (by decide +kernel) (by show ("main" : Str) ∉ (if _ then _ else _ : List Str); rw [if_neg hjw]; exact fun h => nomatch h)
  rw [if_neg hjw, show (Str.ofString "job" ++ (" " : Str)) ++ Str.ofString "main" = Str.ofString "job main" by kernel_rfl] at d4
  show stepsR _ [sp1 (Str.ofString "walk " ++ n), sp1 (Str.ofString "give"), sp1 (Str.ofString "end"), sp1 (Str.ofString "job main")] = _
  rw [stepsR_cons d, stepsR_cons d2, stepsR_cons d3, stepsR_cons d4]
  rfl
theorem op_ok {n r : Str} (hn : isName n = true) (h : opRow n r) : r.length ≤ 30 ∧ okc r := by
  rcases h with rfl | rfl | rfl
  · exact ⟨by decide +kernel, okc_of (by decide +kernel)⟩
  · exact ⟨by decide +kernel, okc_of (by decide +kernel)⟩
  · have l := (name_short hn).1
    exact ⟨by rw [app_len, app_len]; show 5 + _ + 8 ≤ _; omega, okc_app (okc_app (okc_of (by decide +kernel)) (okc_name hn)) (okc_of (by decide +kernel))⟩
theorem nest_good {n : Str} {os cl : List Str} (hn : isName n = true) (ho : ∀ r ∈ os, opRow n r) (hl : os.length = 6) (hc : Cls os.reverse cl) : ∃ s, Good (((baseR n ++ os) ++ cl) ++ [Str.ofString "end"]) s := by
  have hlen := hc.len
  rw [List.length_reverse, hl] at hlen
  obtain ⟨d, _, d2, e2⟩ := ops_run hn ho (s := { Rs.init with stack := [.job "main"], walks := [n] }) List.mem_cons_self (by simp) (by show (0 : Int) ≤ 1; decide)
  have e3 := cls_run (n := n) hc (fun r hr => ho r (List.mem_reverse.mp hr)) (s := { Rs.init with stack := [.job "main"] ++ os.map (enOf n), walks := [n], deep := d }) (st := [.job "main"]) (by simp) (by rw [List.reverse_reverse])
  have e4 : Rs.step { Rs.init with stack := [.job "main"], walks := [n], deep := d } (sp1 (Str.ofString "end")) = some { Rs.init with jobs := ["main"], walks := [n], deep := d } := by
    rw [show sp1 (Str.ofString "end") = (["end"] : List Str) by kernel_rfl]
    show Rs.take { Rs.init with stack := [.job "main"], walks := [n], deep := d } "end" [] = _
    unfold Rs.take
    rw [if_neg (by decide +kernel), if_pos rfl, if_pos rfl]
    rfl
  have e : stepsR Rs.init ((((baseR n ++ os) ++ cl) ++ [Str.ofString "end"]).map sp1) = some { Rs.init with jobs := ["main"], walks := [n], deep := d } := by
    rw [List.map_append, List.map_append, List.map_append, List.append_assoc, List.append_assoc, stepsR_app (base_run hn), stepsR_app e2, stepsR_app e3]
    show stepsR _ [sp1 (Str.ofString "end")] = _
    rw [stepsR_cons e4]
    rfl
  have len : (((baseR n ++ os) ++ cl) ++ [Str.ofString "end"]).length ≤ 23 := by
    rw [List.length_append, List.length_append, List.length_append, hl]
    show 4 + 6 + cl.length + 1 ≤ 23
    omega
  have X := tx_many (a := ((baseR n ++ os) ++ cl) ++ [Str.ofString "end"]) (fun r hr => by
    have l := (name_short hn).1
    rcases List.mem_append.mp hr with hr | hr
    · rcases List.mem_append.mp hr with hr | hr
      · rcases List.mem_append.mp hr with hr | hr
        · unfold baseR at hr
          simp only [List.mem_cons, List.not_mem_nil, or_false] at hr
          rcases hr with rfl | rfl | rfl | rfl
          · exact ⟨by rw [app_len]; show 5 + _ ≤ _; omega, okc_app (okc_of (by decide +kernel)) (okc_name hn)⟩
          · exact ⟨by decide +kernel, okc_of (by decide +kernel)⟩
          · exact ⟨by decide +kernel, okc_of (by decide +kernel)⟩
          · exact ⟨by decide +kernel, okc_of (by decide +kernel)⟩
        · exact op_ok hn (ho r hr)
      · have := hc.mem r hr
        simp only [List.mem_cons, List.not_mem_nil, or_false] at this
        rcases this with rfl | rfl | rfl <;> exact ⟨by decide +kernel, okc_of (by decide +kernel)⟩
    · rw [List.mem_singleton.mp hr]
      exact ⟨by decide +kernel, okc_of (by decide +kernel)⟩)
  refine ⟨_, good_of X (by omega) (by omega) (by simp) e rfl List.mem_cons_self (fun _ h => nomatch h) (by omega) (by show 1 ≤ 6; decide) (by show 1 ≤ 6; decide) ?_ (by show 0 < 64; decide)⟩
  show d ≤ 6
  rw [hl] at d2
  have : max (0 : Int) (((1 + 6 : Nat) : Int) - 1) = 6 := by decide
  have d2' : d ≤ max (0 : Int) (((1 + 6 : Nat) : Int) - 1) := d2
  omega

end Ly
namespace Ly
open PySem PySem.Spec PyProof.Rows L2
/-! ### Program: ==, len, fields -/
theorem p_jobs {z dj dw tj tw tg} : (pflds z dj dw tj tw tg).lookup ("jobs" : Str) = some (.ref tj) := by kernel_rfl
theorem p_walks {z dj dw tj tw tg} : (pflds z dj dw tj tw tg).lookup ("walks" : Str) = some (.ref tw) := by kernel_rfl
theorem p_gates {z dj dw tj tw tg} : (pflds z dj dw tj tw tg).lookup ("gates" : Str) = some (.ref tg) := by kernel_rfl
theorem ProgAt.mono {K : PySem.W.Frag} {H H' : Hp} {x : Addr} {z : Str} {s : Rs} (h : ProgAt K H x z s) (sm : Same H H') : ProgAt K H' x z s := by
  obtain ⟨dx, dj, dw, tj, tw, tg, yj, yw, yg, h1, h2, h3, h4, r⟩ := h.ex
  exact ⟨dx, dj, dw, tj, tw, tg, yj, yw, yg, sm _ _ h1, sm _ _ h2, sm _ _ h3, sm _ _ h4, r⟩
section
variable {P : Program} {w : World} {K : PySem.W.Frag} {mg : Str → Option Value} {base : Heap}
def spPE (K : PySem.W.Frag) : Sp := fun vs H Q _ => ∃ (x : Addr) (z : Str) (s : Rs) (y : V), vs = [.ref x, y] ∧ ProgAt K H x z s ∧
  ((∃ (b : Addr) (z' : Str) (s' : Rs), y = .ref b ∧ ProgAt K H b z' s' ∧ Q (.bl (decide (z = z'))) H) ∨ (∃ z' : Str, y = .str z' ∧ Q (.bl false) H) ∨ (∃ (a : Addr) (xs : List V), y = .ref a ∧ H a = some (.tup xs) ∧ Q (.bl false) H))
theorem sc_peq : FnScope ["self", "other"] ["self", "other"] (defScope s_Program_eq) := ⟨rfl, rfl, rfl, by decide +kernel, rfl, by decide +kernel, by decide +kernel⟩
theorem ok_peq (T : Hd K mg) : ∃ (f : Addr) (fd : FuncData) (ps : List Str), LyO.EqC K (c_Program K) f ∧ FnOk P w K mg base CX0 1 f fd ps (spPE K) ∧ Binds K fd ps [] := by
  obtain ⟨fd, F⟩ := T.f_Program_eq
  refine ⟨_, fd, ["self", "other"], ⟨T.sp_Program_eq.1, T.sp_Program_eq.2, T.nb_Program, T.ob_Program⟩, F.ok sc_peq (fun vs H Q E h => ?_) (fun cdv A outer s H vs Q E hr h => ?_), F.bindsN fun _ _ _ _ _ _ us hl => match us, hl with | [_, _], _ => rfl⟩
  · obtain ⟨x, z, s, y, rfl, _⟩ := h
    rfl
  · obtain ⟨x, z, s, y, rfl, B, h⟩ := h
    obtain ⟨dx, dj, dw, tj, tw, tg, yj, yw, yg, h1, _⟩ := B.ex
    refine ⟨_, pss_one (ps_ret (pe_and (pe_callB call_isi (by rfl) T.n_isinstance (by decide +kernel) (pa_cons (pv 1) (pa_cons (pe_glob (v := .ref (c_Program K)) rfl T.g_Program rfl) pa_nil)))
      (pe_one (pe_cmpR op_eq (pe_fld (pv 0) rfl) (pe_fld (pv 1) rfl) (nomark _))))), ?_⟩
    have I := T.ic_Program
    rcases h with ⟨b, z', s', rfl, B', q⟩ | ⟨z', rfl, q⟩ | ⟨a, xs, rfl, ha, q⟩
    · obtain ⟨dx', dj', dw', tj', tw', tg', _, _, _, h1', _⟩ := B'.ex
      refine ⟨_, rfl, _, _, _, _, true, rfl, .own _, .base (.ins h1' I.cl I.ha I.hn I.htk I.hm), T.kw_Program_own, true, rfl, iteT ?_⟩
      refine ⟨_, rfl, x, _, dx, _, _, rfl, h1, T.cl_Program, T.na_Program_text, p_text, _, rfl, b, _, dx', _, _, rfl, h1', T.cl_Program, T.na_Program_text, p_text, rfl, ?_⟩
      rw [dec_str]
      exact q
    · exact ⟨_, rfl, _, _, _, _, false, rfl, .own _, .base (.str _), T.kw_Program_str, false, rfl, iteF q⟩
    · exact ⟨_, rfl, _, _, _, _, false, rfl, .own _, .base (.tup ha), T.kw_Program_tuple, false, rfl, iteF q⟩
def spPL (K : PySem.W.Frag) : Sp := fun vs H Q _ => ∃ (x : Addr) (z : Str) (s : Rs), vs = [.ref x] ∧ ProgAt K H x z s ∧ z.length < 40000 ∧ ∀ H', Same H H' → Q (.int ((Txt.split z "\n").length : Nat)) H'
theorem sc_pln : FnScope ["self"] ["self"] (defScope s_Program_len) := ⟨rfl, rfl, rfl, by decide +kernel, rfl, by decide +kernel, by decide +kernel⟩
theorem ok_pln (T : Hd K mg) : ∃ (f : Addr) (fd : FuncData) (ps : List Str), PySem.W.findIn K (.ref (c_Program K)) "__len__" = some (some (.ref f)) ∧ PySem.W.isFn K (.ref f) = true ∧ FnOk P w K mg base CX0 1 f fd ps (spPL K) ∧ Binds K fd ps [] := by
  obtain ⟨fd, F⟩ := T.f_Program_len
  refine ⟨_, fd, ["self"], T.sp_Program_len.1, T.sp_Program_len.2, F.ok sc_pln (fun vs H Q E h => ?_) (fun cdv A outer s H vs Q E hr h => ?_), F.bindsN fun _ _ _ _ _ _ us hl => match us, hl with | [_], _ => rfl⟩
  · obtain ⟨x, z, s, rfl, _⟩ := h
    rfl
  · obtain ⟨x, z, s, rfl, B, hz, k⟩ := h
    obtain ⟨dx, dj, dw, tj, tw, tg, yj, yw, yg, h1, _⟩ := B.ex
    refine ⟨_, pss_one (ps_ret (pe_callB call_len_seq (by rfl) T.n_len PySem.boot_len (pa_cons (pe_split (pe_fld (pv 0) rfl) pe_str) pa_nil))), ?_⟩
    have hz2 : z.length + 2 ≤ sizeLine := by
      rw [sizeLine_eq]
      omega
    refine ⟨_, rfl, x, _, dx, _, _, rfl, h1, T.cl_Program, T.na_Program_text, p_text, ⟨_, rfl⟩, z, _, rfl, rfl, (by decide +kernel), hz2, fun a ha => ?_⟩
    refine ⟨a, _, rfl, .inl (SqL.of upd_same), ?_⟩
    rw [List.length_map]
    exact k _ (LyC.same_new ha)
end

end Ly
namespace Ly
open PySem PySem.Spec PyProof.Rows L2
/-! ### k02: some_program -/
section
variable {P : Program} {w : World} {K : PySem.W.Frag} {mg : Str → Option Value} {base : Heap}
def spSome : Sp := fun vs H Q _ => ∃ b : Addr, vs = [.ref b] ∧ (∃ c s n : Int, H b = some (.lst [.int c, .int s, .int n])) ∧ ∀ p (rs : List Str) s H', Bx b H H' → H' p = some (.lst (rs.map V.str)) → Good rs s → Q (.ref p) H'
abbrev N_some : List Str := ["_law_box_here", "_law_jobs", "_law_walks", "_law_most"]
theorem sc_some : FnScope N_some ["_law_box_here"] (defScope s_law_some_program) := ⟨rfl, rfl, rfl, by decide +kernel, rfl, by decide +kernel, by decide +kernel⟩
theorem ok_some (T : Hd K mg) : LyC.Cl CX0 P w K mg base 18 "_law_some_program" spSome [] := by
  obtain ⟨fd, F⟩ := T.f_law_some_program
  refine ⟨_, fd, ["_law_box_here"], [], F.ok sc_some (fun vs H Q E h => ?_) (fun cdv A outer s H vs Q E hr h => ?_), T.g_law_some_program, F.kp, F.bindsN fun _ _ _ _ _ _ us hl => match us, hl with | [_], _ => rfl, .nil⟩
  · obtain ⟨b, rfl, _⟩ := h
    rfl
  · obtain ⟨b, rfl, hb, k⟩ := h
    refine ⟨_, (pss_cons (ps_asg (pe_ix ix_list (pe_lst (pa_cons (pe_tup (pa_cons pe_int (pa_cons pe_int (pa_cons pe_int pa_nil)))) (pa_cons (pe_tup (pa_cons pe_int (pa_cons pe_int (pa_cons pe_int pa_nil)))) (pa_cons (pe_tup (pa_cons pe_int (pa_cons pe_int (pa_cons pe_int pa_nil)))) (pa_cons (pe_tup (pa_cons pe_int (pa_cons pe_int (pa_cons pe_int pa_nil)))) pa_nil))))) (LyC.pe_f (ok_tk T) hr (pa_cons (pv 0) (pa_cons pe_int pa_nil))) (fun _ _ => rfl)) (pg_tup (n := 3) rfl (pgs_cons (pg_name (i := 1) sc_some.nd rfl (Or.inl rfl)) (pgs_cons (pg_name (i := 2) sc_some.nd rfl (Or.inl rfl)) (pgs_cons (pg_name (i := 3) sc_some.nd rfl (Or.inl rfl)) pgs_nil)))))
      (pss_one (ps_ret (LyC.pe_f (ok_prog T) hr (pa_cons (pv 0) (pa_cons (LyC.pe_f (ok_world T) hr (pa_cons (pv 0) (pa_cons (pv 1) (pa_cons (pv 2) pa_nil)))) (pa_cons (pv 3) pa_nil))))))), ?_⟩
    have box : ∀ {H' : Hp}, Same H H' → Bx b H H' := fun sm => (Bx.refl hb).same sm
    refine ⟨by decide, fun t1 h1 => ⟨by decide, fun t2 h2 => ⟨by decide, fun t3 h3 => ⟨by decide, fun t4 h4 => ⟨by show 4 ≤ sizeLine; decide, fun l hl => ?_⟩⟩⟩⟩⟩
    have s1 := LyC.same_new (o := .tup [V.int 6, V.int 6, V.int 1]) h1
    have s2 := LyC.same_new (o := .tup [V.int 6, V.int 6, V.int 2]) h2
    have s3 := LyC.same_new (o := .tup [V.int 3, V.int 3, V.int 4]) h3
    have s4 := LyC.same_new (o := .tup [V.int 3, V.int 3, V.int 4]) h4
    have s5 := LyC.same_new (o := .lst [V.ref t1, V.ref t2, V.ref t3, V.ref t4]) hl
    obtain ⟨c0, z0, n0, hb0⟩ := id hb
    have hb1 := s1 _ _ hb0
    have hb2 := s2 _ _ hb1
    have hb3 := s3 _ _ hb2
    have hb4 := s4 _ _ hb3
    have B0 := box ((((s1.trans s2).trans s3).trans s4).trans s5)
    refine ⟨_, rfl, b, 4, rfl, by decide, by decide, B0.bx, fun t H2 t00 t01 B2 => ?_⟩
    have hd : ∃ (tp : Addr) (nj nw most : Nat), atI [V.ref t1, V.ref t2, V.ref t3, V.ref t4] t = some (.ref tp) ∧ H2 tp = some (.tup [V.int (nj : Nat), V.int (nw : Nat), V.int (most : Nat)]) ∧ 1 ≤ nj ∧ nj ≤ 6 ∧ nw ≤ 6 ∧ most ≤ 10 ∧ (nj + nw) * (3 * most + 2) ≤ 100 ∧ (nj + nw) * (most + 1) < 64 := by
      rcases (show t = 0 ∨ t = 1 ∨ t = 2 ∨ t = 3 by omega) with rfl | rfl | rfl | rfl
      · exact ⟨t1, 6, 6, 1, rfl, B2.keep _ _ (ne_of_none hb0 h1).symm (s5 _ _ (s4 _ _ (s3 _ _ (s2 _ _ upd_same)))), by decide, by decide, by decide, by decide, by decide, by decide⟩
      · exact ⟨t2, 6, 6, 2, rfl, B2.keep _ _ (ne_of_none hb1 h2).symm (s5 _ _ (s4 _ _ (s3 _ _ upd_same))), by decide, by decide, by decide, by decide, by decide, by decide⟩
      · exact ⟨t3, 3, 3, 4, rfl, B2.keep _ _ (ne_of_none hb2 h3).symm (s5 _ _ (s4 _ _ upd_same)), by decide, by decide, by decide, by decide, by decide, by decide⟩
      · exact ⟨t4, 3, 3, 4, rfl, B2.keep _ _ (ne_of_none hb3 h4).symm (s5 _ _ upd_same), by decide, by decide, by decide, by decide, by decide, by decide⟩
    obtain ⟨tp, nj, nw, most, e1, e2, j1, j2, w1, m1, q1, q2⟩ := hd
    refine ⟨l, _, t, _, rfl, rfl, SqL.of (B2.keep _ _ (ne_of_none hb4 hl).symm upd_same), e1, tp, _, rfl, SqT.of e2, rfl, ?_⟩
    refine ⟨_, _, rfl, _, _, rfl, _, _, rfl, rfl, _, rfl, _, rfl, _, rfl, _, rfl, b, nj, nw, rfl, j1, j2, w1, B2.bx, fun W d H3 B3 nW S3 wn => ?_⟩
    have ok := wn.st j2 w1
    refine ⟨_, rfl, b, W, d, most, rfl, S3, ok, m1, fun p rs H' so kn lf ak js f S' _ hp pg pj ew => ?_⟩
    obtain ⟨s, G⟩ := drawn_good wn ok pg pj ew j2 w1 q1 q2
    exact k p rs s H' ((B0.trans B2).trans (fw_bx B3 f nW S'.bx)) hp G
end

end Ly
namespace Ly
open PySem PySem.Spec PyProof.Rows L2
/-! ### k02: long -/
theorem ix_listK {X : Cx} {K : PySem.W.Frag} (h : X.K = K) : IxR X (rIxL K) := by
  subst h
  exact ix_list
theorem op_inK {X : Cx} {K : PySem.W.Frag} (h : X.K = K) : OpR X (compareOp .In) (rIn K false) := by
  subst h
  exact op_in_seq
section
variable {P : Program} {w : World} {K : PySem.W.Frag} {mg : Str → Option Value} {base : Heap}
def spLong : Sp := fun vs H Q _ => ∃ b : Addr, vs = [.ref b] ∧ (∃ c s n : Int, H b = some (.lst [.int c, .int s, .int n])) ∧ ∀ p (rs : List Str) s H', Bx b H H' → H' p = some (.lst (rs.map V.str)) → Good rs s → Q (.ref p) H'
abbrev N_long : List Str := ["_law_box_here", "_law_name", "_law_found", "_law_turn", "_law_row_here"]
theorem sc_long : FnScope N_long ["_law_box_here"] (defScope s_law_long) := ⟨rfl, rfl, rfl, by decide +kernel, rfl, by decide +kernel, by decide +kernel⟩
theorem ok_long (T : Hd K mg) : LyC.Cl CX0 P w K mg base 4 "_law_long" spLong [] := by
  obtain ⟨fd, F⟩ := T.f_law_long
  refine ⟨_, fd, ["_law_box_here"], [], F.ok sc_long (fun vs H Q E h => ?_) (fun cdv A outer s H vs Q E hr h => ?_), T.g_law_long, F.kp, F.bindsN fun _ _ _ _ _ _ us hl => match us, hl with | [_], _ => rfl, .nil⟩
  · obtain ⟨b, rfl, _⟩ := h
    rfl
  · obtain ⟨b, rfl, hb, k⟩ := h
    refine ⟨_, (pss_cons (ps_set (i := 1) sc_long.nd rfl (Or.inr rfl) (pe_ix ix_list (LyC.pe_f (ok_nms T) hr (pa_cons (pv 0) (pa_cons pe_int pa_nil))) pe_int (fun _ _ => rfl)))
      (pss_cons (ps_if (pt_cmpR op_eq (LyC.pe_f (ok_tk T) hr (pa_cons (pv 0) (pa_cons pe_int pa_nil))) pe_int (nomark _))
        (pss_one (ps_ret (pe_op op_cat (pe_op op_cat (pe_lst (pa_cons pe_str pa_nil)) (pe_lc (own := [("_law_turn", 3)]) (g := gName 3) (tt := tYes) rfl sc_long.nd (pi_range1 rfl T.n_range (pa_cons pe_int pa_nil)) (blkOk_by (N := N_long) (sc := defScope s_law_long) (by decide +kernel)) (fun _ _ _ _ _ => (pg_name (i := 3) sc_long.nd rfl (Or.inl rfl))) (fun _ _ _ _ _ => pts_nil) (fun _ _ _ _ _ => (pe_op op_add_str (pe_ix (ix_listK (K := K) rfl) (pe_lst (pa_cons pe_str (pa_cons pe_str pa_nil))) (LyC.pe_f (ok_tk T) hr (pa_cons (pv 0) (pa_cons pe_int pa_nil))) (fun _ _ => rfl)) (pv 1))))) (pe_lst (pa_cons pe_str pa_nil)))))
        pss_nil)
      (pss_cons (ps_set (i := 2) sc_long.nd rfl (Or.inl rfl) (pe_lst (pa_cons (pe_op op_add_str pe_str (pv 1)) (pa_cons pe_str (pa_cons pe_str (pa_cons pe_str pa_nil))))))
      (pss_cons (ps_for (passes_of rfl) rfl (pi_range1 rfl T.n_range (pa_cons pe_int pa_nil)) (pg_name (i := 3) sc_long.nd rfl (Or.inl rfl))
        (pss_one (ps_expr (pe_bm PySem.F.plainAttrs_list PySem.F.slot_list_append PySem.F.type_list_append mt_append (pv 2) (pa_cons (pe_ix ix_list (pe_lst (pa_cons pe_str (pa_cons pe_str (pa_cons (pe_op op_add_str (pe_op op_add_str pe_str (pv 1)) pe_str) pa_nil)))) (LyC.pe_f (ok_tk T) hr (pa_cons (pv 0) (pa_cons pe_int pa_nil))) (fun _ _ => rfl)) pa_nil)))))
      (pss_cons (ps_for (passes_of rfl) rfl (pi_list (pe_revL (pe_slice sl_list (pv 2) (po_some pe_int) po_none))) (pg_name (i := 4) sc_long.nd rfl (Or.inl rfl))
        (pss_one (ps_expr (pe_bm PySem.F.plainAttrs_list PySem.F.slot_list_extend PySem.F.type_list_extend mt_extend (pv 2) (pa_cons (pe_op op_cat (pe_op op_rep (pe_lst (pa_cons (pe_ix ix_list (pe_lst (pa_cons pe_str (pa_cons pe_str pa_nil))) (LyC.pe_f (ok_tk T) hr (pa_cons (pv 0) (pa_cons pe_int pa_nil))) (fun _ _ => rfl)) pa_nil)) (pe_callTy call_int1 (by rfl) T.n_int (by decide +kernel) (pa_cons (pe_cmpR op_eq (pv 4) pe_str (nomark _)) pa_nil))) (pe_lst (pa_cons pe_str pa_nil))) pa_nil)))))
      (pss_one (ps_ret (pe_op op_cat (pv 2) (pe_lst (pa_cons pe_str pa_nil)))))))))), ?_⟩
    have one : 1 ≤ sizeLine := by decide
    have two : 2 ≤ sizeLine := by decide
    obtain ⟨c0, z0, n0, hb0⟩ := id hb
    refine ⟨_, rfl, b, 1, rfl, by decide, hb, fun p xs H1 B1 np hp hl hnd hnm => ?_⟩
    obtain ⟨n, rfl⟩ : ∃ n, xs = [n] := match xs, hl with | [n], _ => ⟨n, rfl⟩
    have hn := hnm n List.mem_cons_self
    have ln := (name_short hn).1
    refine ⟨p, _, 0, _, rfl, rfl, SqL.of hp, rfl, ?_⟩
    refine ⟨_, rfl, b, 2, rfl, by decide, by decide, B1.bx, fun t H2 t0 t1 B2 => ⟨rfl, _, rfl, ite2 (fun _ => ?_) (fun _ => ?_)⟩⟩
    · refine ⟨one, fun a1 h1 => ?_⟩
      obtain ⟨c2, z2, n2, hb2⟩ := B2.bx
      have na1 : a1 ≠ b := (ne_of_none hb2 h1).symm
      have B3 := (B1.trans B2).new (o := .lst [V.str "job main"]) h1
      refine ⟨98, rfl, by decide, by decide, fun D hD => ?_⟩
      obtain ⟨nD1, hD2⟩ := upd_no hD
      have nDb : D ≠ b := (ne_of_none hb2 hD2).symm
      have hD0 : H D = none := by
        cases e : H D with
        | none => rfl
        | some o =>
          have := (B1.trans B2).keep D o nDb e
          rw [hD2] at this
          cases this
      refine lc_it walk_range (fun i Hc => Bx b H Hc ∧ Hc a1 = some (.lst [V.str "job main"]) ∧ ∃ rs : List Str, Hc D = some (.lst (rs.map V.str)) ∧ rs.length = i ∧ ∀ r ∈ rs, lrow n r) ⟨B3.new hD, by rw [upd_ne (Ne.symm nD1), upd_same], [], upd_same, rfl, (fun _ h => nomatch h)⟩ (fun _ _ _ _ => trivial) ?_ ?_
      · rintro i x Ha Hb hi ⟨Bc, ha1, rs, hDc, hl, hrs⟩ ⟨rfl, rfl⟩
        have hi8 : i < 98 := hi
        obtain ⟨c4, z4, n4, hb4⟩ := Bc.bx
        refine ⟨rfl, two, fun l hl2 => ⟨_, rfl, b, 2, rfl, by decide, by decide, (Bc.new hl2).bx, fun u H5 u0 u1 B5 => ?_⟩⟩
        have nlb : l ≠ b := (ne_of_none hb4 hl2).symm
        have sl := LyC.same_new (o := .lst [V.str "say ", V.str "open "]) hl2
        obtain ⟨j, rfl⟩ := Int.eq_ofNat_of_zero_le u0
        have hwd : ∃ wd : Str, wd.length ≤ 5 ∧ lrow n (wd ++ n) ∧ ([V.str "say ", V.str "open "] : List V)[j]? = some (V.str wd) := by
          have hj : j < 2 := by omega
          match j, hj with
          | 0, _ => exact ⟨"say ", by decide +kernel, .inl rfl, rfl⟩
          | 1, _ => exact ⟨"open ", by decide +kernel, .inr rfl, rfl⟩
        obtain ⟨wd, w1, w2, w3⟩ := hwd
        have hD5 := B5.keep _ _ nDb (sl _ _ hDc)
        refine ⟨l, _, _, _, rfl, rfl, SqL.of (B5.keep _ _ nlb upd_same), atI_nat w3, _, rfl, _, _, rfl, rfl, (by rw [sizeLine_eq]; omega), _, hD5, (by rw [sizeLine_eq, List.length_map]; omega), ?_⟩
        refine ⟨((Bc.same sl).trans B5).put hD0 nDb, by rw [upd_ne (Ne.symm nD1)]; exact B5.keep _ _ na1 (sl _ _ ha1), rs ++ [wd ++ n], by rw [upd_same, List.map_append]; rfl, by rw [List.length_append, hl]; rfl, fun r hr => ?_⟩
        rcases List.mem_append.mp hr with z | z
        · exact hrs r z
        · rw [List.mem_singleton.mp z]
          exact w2
      · rintro Ha ⟨Bc, ha1, rs, hDc, hl, hrs⟩
        have hl : rs.length = 98 := hl
        refine ⟨a1, D, _, _, rfl, rfl, ha1, hDc, (by rw [sizeLine_eq, List.length_map]; show 1 + _ ≤ _; omega), fun a3 h3 => ⟨one, fun a4 h4 => ?_⟩⟩
        have s3 := LyC.same_new (o := .lst ([V.str "job main"] ++ rs.map V.str)) h3
        have s4 := LyC.same_new (o := .lst [V.str "end"]) h4
        refine ⟨a3, a4, _, _, rfl, rfl, s4 _ _ upd_same, upd_same, (by rw [sizeLine_eq, List.length_append, List.length_map]; show 1 + _ + 1 ≤ _; omega), fun a5 h5 => ?_⟩
        obtain ⟨s, G⟩ := long_good hn hrs hl
        refine k a5 _ s _ (((Bc.same s3).same s4).new h5) ?_ G
        rw [upd_same, List.map_append, List.map_append]
        rfl
    · refine ⟨_, rfl, _, _, rfl, rfl, (by rw [sizeLine_eq]; show 5 + _ ≤ _; omega), (by show 4 ≤ sizeLine; decide), fun Fd hFd => ?_⟩
      obtain ⟨c2, z2, n2, hb2⟩ := B2.bx
      have nFb : Fd ≠ b := (ne_of_none hb2 hFd).symm
      have hF : H Fd = none := by
        cases e : H Fd with
        | none => rfl
        | some o =>
          have := (B1.trans B2).keep Fd o nFb e
          rw [hFd] at this
          cases this
      have B3 := (B1.trans B2).new (o := .lst ((baseR n).map V.str)) hFd
      refine ⟨6, rfl, by decide, by decide, ?_⟩
      refine for_range (n := 6) (fun i σ Hc => ∃ v3, σ = [some (.ref b), some (.str n), some (.ref Fd), v3, none] ∧ Bx b H Hc ∧ ∃ os : List Str, Hc Fd = some (.lst ((baseR n ++ os).map V.str)) ∧ os.length = i ∧ ∀ r ∈ os, opRow n r) ⟨none, rfl, B3, [], upd_same, rfl, (fun _ h => nomatch h)⟩ ?_ ?_
      · rintro i σ Hc hi ⟨v3, rfl, Bc, os, hFc, hl, hos⟩
        obtain ⟨c4, z4, n4, hb4⟩ := Bc.bx
        refine ⟨_, rfl, .inl ⟨rfl, _, SqL.of hFc⟩, _, rfl, _, _, rfl, rfl, (by rw [sizeLine_eq]; show 5 + _ ≤ _; omega), _, _, rfl, rfl, (by rw [sizeLine_eq, app_len]; show 5 + _ + 8 ≤ _; omega), (by show 3 ≤ sizeLine; decide), fun l hl2 => ⟨_, rfl, b, 3, rfl, by decide, by decide, (Bc.new hl2).bx, fun u H5 u0 u1 B5 => ?_⟩⟩
        have nlb : l ≠ b := (ne_of_none hb4 hl2).symm
        have sl := LyC.same_new (o := .lst [V.str "repeat 9", V.str "guard", V.str ((Str.ofString "each " ++ n) ++ Str.ofString " dropped")]) hl2
        obtain ⟨j, rfl⟩ := Int.eq_ofNat_of_zero_le u0
        have hwd : ∃ wd : Str, opRow n wd ∧ ([V.str "repeat 9", V.str "guard", V.str ((Str.ofString "each " ++ n) ++ Str.ofString " dropped")] : List V)[j]? = some (V.str wd) := by
          have hj : j < 3 := by omega
          match j, hj with
          | 0, _ => exact ⟨"repeat 9", .inl rfl, rfl⟩
          | 1, _ => exact ⟨"guard", .inr (.inl rfl), rfl⟩
          | 2, _ => exact ⟨_, .inr (.inr rfl), rfl⟩
        obtain ⟨wd, w2, w3⟩ := hwd
        refine ⟨l, _, _, _, rfl, rfl, SqL.of (B5.keep _ _ nlb upd_same), atI_nat w3, Fd, _, _, rfl, rfl, B5.keep _ _ nFb (sl _ _ hFc), (by rw [sizeLine_eq, List.length_map, List.length_append]; show 4 + _ < _; omega), ?_⟩
        refine ⟨_, rfl, ((Bc.same sl).trans B5).put hF nFb, os ++ [wd], by rw [upd_same, ← List.append_assoc, List.map_append (l₁ := baseR n ++ os)]; rfl, by rw [List.length_append, hl]; rfl, fun r hr => ?_⟩
        rcases List.mem_append.mp hr with z | z
        · exact hos r z
        · rw [List.mem_singleton.mp z]
          exact w2
      · rintro σ Hc ⟨v3, rfl, Bc, os, hFc, hl, hos⟩
        refine ⟨_, rfl, _, rfl, Fd, _, rfl, SqL.of hFc, fun q hq => ?_⟩
        have ec : cutV ((baseR n ++ os).map V.str) (some 4) none = os.map V.str := by
          rw [show (some (4 : Int)) = some ((4 : Nat) : Int) from rfl, cutFrom, ← List.map_drop]
          rfl
        rw [ec]
        refine ⟨q, _, rfl, SqL.of upd_same, fun p2 hp2 => ⟨p2, rfl, ⟨_, SqL.of upd_same⟩, ?_⟩⟩
        have sq := LyC.same_new (o := .lst (os.map V.str)) hq
        have sp := LyC.same_new (o := .lst (os.map V.str).reverse) hp2
        have nFp : p2 ≠ Fd := (ne_of_none (sq _ _ hFc) hp2).symm
        obtain ⟨c3, z3, n3, hb3⟩ := Bc.bx
        have npb : p2 ≠ b := (ne_of_none (sq _ _ hb3) hp2).symm
        refine for_it (walk_list (xs := (os.map V.str).reverse)) (fun i σ Hi => ∃ v4, σ = [some (.ref b), some (.str n), some (.ref Fd), v3, v4] ∧ Bx b H Hi ∧ Hi p2 = some (.lst (os.map V.str).reverse) ∧ ∃ cl : List Str, Hi Fd = some (.lst (((baseR n ++ os) ++ cl).map V.str)) ∧ Cls (os.reverse.take i) cl)
          ⟨none, rfl, (Bc.same sq).same sp, upd_same, [], by rw [List.append_nil]; exact sp _ _ (sq _ _ hFc), .nil⟩ (fun i σ Hi _ hz => ?_) ?_ ?_
        · obtain ⟨_, _, _, h, _⟩ := hz
          exact SqL.of h
        · rintro i x σ Hi Hi' hi ⟨v4, rfl, Bi, hpi, cl, hFi, hc⟩ ⟨rfl, hx⟩
          rw [← List.map_reverse, List.getElem?_map] at hx
          obtain ⟨r, hr1, rfl⟩ := Option.map_eq_some_iff.mp hx
          have hcl := hc.len
          have htl : (os.reverse.take i).length ≤ 6 := by
            rw [List.length_take, List.length_reverse, hl]
            omega
          obtain ⟨c4, z4, n4, hb4⟩ := Bi.bx
          refine ⟨_, rfl, .inl ⟨rfl, _, SqL.of hFi⟩, two, fun w1 hw1 => ⟨_, rfl, b, 2, rfl, by decide, by decide, (Bi.new hw1).bx, fun u H5 u0 u1 B5 => ?_⟩⟩
          have nwb : w1 ≠ b := (ne_of_none hb4 hw1).symm
          have sw := LyC.same_new (o := .lst [V.str "late", V.str "mend"]) hw1
          obtain ⟨j, rfl⟩ := Int.eq_ofNat_of_zero_le u0
          have hwd : ∃ wd : Str, wd ∈ (["late", "mend"] : List Str) ∧ ([V.str "late", V.str "mend"] : List V)[j]? = some (V.str wd) := by
            have hj : j < 2 := by omega
            match j, hj with
            | 0, _ => exact ⟨"late", by decide +kernel, rfl⟩
            | 1, _ => exact ⟨"mend", by decide +kernel, rfl⟩
          obtain ⟨wd, hwd1, hwd2⟩ := hwd
          obtain ⟨ah, hah⟩ : ∃ ah, decide (V.str r = V.str "guard") = ah := ⟨_, rfl⟩
          refine ⟨w1, _, _, _, rfl, rfl, SqL.of (B5.keep _ _ nwb upd_same), atI_nat hwd2, one, fun a2 ha2 => ⟨_, rfl, rfl, .inr ⟨_, rfl, a2, _, _, rfl, rfl, upd_same, ?_, ?_, ?_, fun a3 ha3 => ?_⟩⟩⟩
          · rw [hah]; cases ah <;> decide
          · rw [hah]; cases ah <;> decide
          · rw [hah]
            cases ah
            · exact Nat.zero_le _
            · exact one
          revert ha3
          rw [hah]
          intro ha3
          have em : (List.replicate (Int.toNat (if ah = true then 1 else 0)) [V.str wd]).flatten = (if ah = true then [wd] else []).map V.str := by cases ah <;> rfl
          rw [em]
          have sa2 := LyC.same_new (o := .lst [V.str wd]) ha2
          have sa3 := LyC.same_new (o := .lst ((if ah = true then [wd] else []).map V.str)) ha3
          refine ⟨one, fun a4 ha4 => ?_⟩
          have sa4 := LyC.same_new (o := .lst [V.str "end"]) ha4
          refine ⟨a3, a4, _, _, rfl, rfl, sa4 _ _ upd_same, upd_same, (by cases ah; exact (show 0 + 1 ≤ sizeLine by decide); exact (show 1 + 1 ≤ sizeLine by decide)), fun a5 ha5 => ?_⟩
          have ee : (if ah = true then [wd] else []).map V.str ++ [V.str "end"] = ((if ah = true then [wd] else []) ++ [Str.ofString "end"]).map V.str := by cases ah <;> rfl
          rw [ee]
          have sa5 := LyC.same_new (o := .lst (((if ah = true then [wd] else []) ++ [Str.ofString "end"]).map V.str)) ha5
          have ss := ((sa2.trans sa3).trans sa4).trans sa5
          have hF5 := ss _ _ (B5.keep _ _ nFb (sw _ _ hFi))
          have lg : ((if ah = true then [wd] else []) ++ [Str.ofString "end"]).length ≤ 2 := by cases ah; exact (show 1 ≤ 2 by decide); exact (show 2 ≤ 2 by decide)
          refine ⟨Fd, a5, _, _, rfl, rfl, hF5, upd_same, (by rw [sizeLine_eq, List.length_map, List.length_map, List.length_append, List.length_append]; show 4 + _ + _ + _ ≤ _; omega), ?_⟩
          refine ⟨_, rfl, (((Bi.same sw).trans B5).same ss).put hF nFb, by rw [upd_ne nFp]; exact ss _ _ (B5.keep _ _ npb (sw _ _ hpi)), cl ++ ((if ah = true then [wd] else []) ++ [Str.ofString "end"]), ?_, ?_⟩
          · rw [upd_same, ← List.append_assoc (baseR n ++ os), List.map_append (l₁ := (baseR n ++ os) ++ cl)]
          · rw [List.take_add_one, hr1]
            refine hc.snoc ?_
            rw [dec_str] at hah
            cases ah
            · exact .inl ⟨of_decide_eq_false hah, rfl⟩
            · exact .inr ⟨of_decide_eq_true hah, wd, hwd1, rfl⟩
        · rintro σ Hi ⟨v4, rfl, Bi, hpi, cl, hFi, hc⟩
          have hc : Cls os.reverse cl := by
            rw [List.length_reverse, List.length_map, ← List.length_reverse (as := os), List.take_length] at hc
            exact hc
          have hcl := hc.len
          rw [List.length_reverse] at hcl
          refine ⟨_, rfl, one, fun a6 h6 => ?_⟩
          have s6 := LyC.same_new (o := .lst [V.str "end"]) h6
          refine ⟨Fd, a6, _, _, rfl, rfl, s6 _ _ hFi, upd_same, (by rw [sizeLine_eq, List.length_map, List.length_append, List.length_append]; show 4 + _ + _ + 1 ≤ _; omega), fun a7 h7 => ?_⟩
          obtain ⟨s, G⟩ := nest_good hn hos hl hc
          refine k a7 _ s _ ((Bi.same s6).new h7) ?_ G
          rw [upd_same, List.map_append (l₁ := (baseR n ++ os) ++ cl)]
          rfl
end

end Ly
namespace Ly
open PySem PySem.Spec PyProof.Rows L2
/-! ### k02: told -/
theorem nmsIn_next {ws : List Str} {rs : List Str} {i : Nat} {r : Str} (h : rs[i]? = some r) : nmsIn ws ((rs.take (i + 1)).map sp1) = nmsIn ws ((rs.take i).map sp1) ++ nmOf ws (sp1 r) := by
  rw [List.take_add_one, h, List.map_append]
  show (((rs.take i).map sp1) ++ [sp1 r]).flatMap _ = _
  rw [List.flatMap_append]
  show _ ++ (nmOf ws (sp1 r) ++ []) = _
  rw [List.append_nil]
  rfl
theorem nmOf_len (ws p : List Str) : (nmOf ws p).length ≤ 1 := by
  unfold nmOf
  split
  · split
    · exact Nat.le_refl 1
    · exact Nat.zero_le 1
  · exact Nat.zero_le 1
theorem nmsIn_len (ws : List Str) : ∀ rs : List Str, (nmsIn ws (rs.map sp1)).length ≤ rs.length
  | [] => Nat.le_refl _
  | r :: rs => by
    have := nmsIn_len ws rs
    have := nmOf_len ws (sp1 r)
    show (nmOf ws (sp1 r) ++ nmsIn ws (rs.map sp1)).length ≤ rs.length + 1
    rw [List.length_append]
    omega
def toldW : List (List Str) := [["job"], ["walk"], ["wait", "open"]]
/-- a tuple of the sorted names -/
def TupOf (H : Hp) (rs ws : List Str) (t : Addr) : Prop := ∃ ys : List Str, H t = some (.tup (ys.map V.str)) ∧ ys.Perm (LyS.metS (nmsIn ws (rs.map sp1))) ∧ sortedS ys = true
theorem Good.few {rs : List Str} {s : Rs} (G : Good rs s) {ws : List Str} (h : ws ∈ toldW) : (LyS.metS (nmsIn ws (rs.map sp1))).length < 64 := by
  have T := G.told.1
  have h1 := G.jl
  have h2 := G.wl
  have h3 := G.gl
  unfold toldW at h
  simp only [List.mem_cons, List.not_mem_nil, or_false] at h
  rcases h with rfl | rfl | rfl
  · rw [met_len T.nj G.j]
    omega
  · rw [met_len T.nw G.w]
    omega
  · rw [met_len T.ng T.g]
    omega
def KB (Fd : Addr) (H0 H1 : Hp) : Prop := ∀ x o, x ≠ Fd → H0 x = some o → H1 x = some o
theorem told_word {ws : List Str} (h : ws ∈ toldW) {wd : Str} (c : wd ∈ ws) : wd ∈ (["job", "walk", "wait", "open"] : List Str) := by
  unfold toldW at h
  simp only [List.mem_cons, List.not_mem_nil, or_false] at h
  rcases h with rfl | rfl | rfl
  · rw [List.mem_singleton.mp c]
    decide +kernel
  · rw [List.mem_singleton.mp c]
    decide +kernel
  · simp only [List.mem_cons, List.not_mem_nil, or_false] at c
    rcases c with rfl | rfl <;> decide +kernel
theorem strs_flat (xs : List Str) : (xs.map V.str).all flatV = true := by
  rw [List.all_map]
  exact List.all_eq_true.mpr fun _ _ => rfl
section
variable {P : Program} {w : World} {K : PySem.W.Frag} {mg : Str → Option Value} {base : Heap}
def spTold : Sp := fun vs H Q _ => ∃ (a : Addr) (rs : List Str) (s : Rs), vs = [.ref a] ∧ H a = some (.lst (rs.map V.str)) ∧ Good rs s ∧
  ∀ p t1 t2 t3 H', Same H H' → H p = none → H' p = some (.lst [.ref t1, .ref t2, .ref t3]) → TupOf H' rs ["job"] t1 → TupOf H' rs ["walk"] t2 → TupOf H' rs ["wait", "open"] t3 → Q (.ref p) H'
abbrev N_told : List Str := ["_law_rows_here", "_law_found", "_law_words", "_law_names_here", "_law_row_here"]
theorem sc_told : FnScope N_told ["_law_rows_here"] (defScope s_law_told) := ⟨rfl, rfl, rfl, by decide +kernel, rfl, by decide +kernel, by decide +kernel⟩
theorem ok_told (T : Hd K mg) : LyC.Cl CX0 P w K mg base 2 "_law_told" spTold [] := by
  obtain ⟨fd, F⟩ := T.f_law_told
  refine ⟨_, fd, ["_law_rows_here"], [], F.ok sc_told (fun vs H Q E h => ?_) (fun cdv A outer s H vs Q E hr h => ?_), T.g_law_told, F.kp, F.bindsN fun _ _ _ _ _ _ us hl => match us, hl with | [_], _ => rfl, .nil⟩
  · obtain ⟨a, rs, s, rfl, _⟩ := h
    rfl
  · obtain ⟨a, rs, gs, rfl, ha, G, k⟩ := h
    refine ⟨_, (pss_cons (ps_set (i := 1) sc_told.nd rfl (Or.inl rfl) (pe_lst pa_nil))
      (pss_cons (ps_for (passes_of rfl) rfl (pi_tup (pe_tup (pa_cons (pe_lst (pa_cons pe_str pa_nil)) (pa_cons (pe_lst (pa_cons pe_str pa_nil)) (pa_cons (pe_lst (pa_cons pe_str (pa_cons pe_str pa_nil))) pa_nil))))) (pg_name (i := 2) sc_told.nd rfl (Or.inr rfl))
        (pss_cons (ps_setLc (i := 3) (own := [("_law_row_here", 4)]) (g := gName 4) rfl sc_told.nd rfl rfl (sw_true rfl rfl rfl (by decide +kernel)) (pi_list (pv 0)) (blkOk_by (N := N_told) (sc := defScope s_law_told) (by decide +kernel)) (fun _ _ _ _ _ => (pg_name (i := 4) sc_told.nd rfl (Or.inl rfl))) (fun _ _ _ _ _ => pts_one (pt_cmpR (op_inK (K := K) rfl) (pe_ix (ix_listK (K := K) rfl) (pe_split (pv 4) pe_str) pe_int (fun _ _ => rfl)) (pv 2) rfl)) (fun _ _ _ _ _ => (pe_ix (ix_listK (K := K) rfl) (pe_split (pv 4) pe_str) pe_int (fun _ _ => rfl))))
        (pss_one (ps_expr (pe_bm PySem.F.plainAttrs_list PySem.F.slot_list_append PySem.F.type_list_append mt_append (pv 1) (pa_cons (pe_callTy call_tuple_of (by rfl) T.n_tuple (by decide +kernel) (pa_cons (pe_callB (LyS.cr_sortS rfl) (by rfl) T.n_sorted (by decide +kernel) (pa_cons (pe_callTy (LyS.cr_setL rfl) (by rfl) T.n_set (by decide +kernel) (pa_cons (pv 3) pa_nil)) pa_nil)) pa_nil)) pa_nil))))))
      (pss_one (ps_ret (pv 1))))), ?_⟩
    have one : 1 ≤ sizeLine := by decide
    have hlen := G.tx.len
    refine ⟨Nat.zero_le _, fun Fd hF => ⟨one, fun l1 h1 => ⟨one, fun l2 h2 => ⟨by show 2 ≤ sizeLine; decide, fun l3 h3 => ⟨by show 3 ≤ sizeLine; decide, fun tp htp => ⟨tp, rfl, ⟨_, SqT.of upd_same⟩, ?_⟩⟩⟩⟩⟩⟩
    have s0 := LyC.same_new (o := .lst []) hF
    have s1 := LyC.same_new (o := .lst [V.str "job"]) h1
    have s2 := LyC.same_new (o := .lst [V.str "walk"]) h2
    have s3 := LyC.same_new (o := .lst [V.str "wait", V.str "open"]) h3
    have s4 := LyC.same_new (o := .tup [V.ref l1, V.ref l2, V.ref l3]) htp
    have f1 : l1 ≠ Fd := (ne_of_none (upd_same (o := HO.lst [])) h1).symm
    have f2 : l2 ≠ Fd := (ne_of_none (s1 _ _ upd_same) h2).symm
    have f3 : l3 ≠ Fd := (ne_of_none (s2 _ _ (s1 _ _ upd_same)) h3).symm
    have f4 : tp ≠ Fd := (ne_of_none (s3 _ _ (s2 _ _ (s1 _ _ upd_same))) htp).symm
    generalize hH0 : upd (upd (upd (upd (upd H Fd (.lst [])) l1 (.lst [V.str "job"])) l2 (.lst [V.str "walk"])) l3 (.lst [V.str "wait", V.str "open"])) tp (.tup [V.ref l1, V.ref l2, V.ref l3]) = H0
    have e1 : H0 l1 = some (.lst [V.str "job"]) := by
      rw [← hH0]
      exact s4 _ _ (s3 _ _ (s2 _ _ upd_same))
    have e2 : H0 l2 = some (.lst [V.str "walk"]) := by
      rw [← hH0]
      exact s4 _ _ (s3 _ _ upd_same)
    have e3 : H0 l3 = some (.lst [V.str "wait", V.str "open"]) := by
      rw [← hH0]
      exact s4 _ _ upd_same
    have e4 : H0 tp = some (.tup [V.ref l1, V.ref l2, V.ref l3]) := by
      rw [← hH0]
      exact upd_same
    have e5 : H0 Fd = some (.lst []) := by
      rw [← hH0]
      exact s4 _ _ (s3 _ _ (s2 _ _ (s1 _ _ upd_same)))
    have e6 : Same H H0 := by
      rw [← hH0]
      exact (((s0.trans s1).trans s2).trans s3).trans s4
    have naF : a ≠ Fd := ne_of_none ha hF
    refine for_it (walk_tup (xs := [V.ref l1, V.ref l2, V.ref l3])) (fun i σ Hc => ∃ v2 v3, σ = [some (.ref a), some (.ref Fd), v2, v3, none] ∧ KB Fd H0 Hc ∧ ∃ ts : List Addr, Hc Fd = some (.lst (ts.map V.ref)) ∧ ts.length = i ∧ ∀ (j : Nat) t ws, ts[j]? = some t → toldW[j]? = some ws → TupOf Hc rs ws t)
      ⟨none, none, rfl, fun _ _ _ h => h, [], e5, rfl, (fun _ _ _ h => nomatch h)⟩ (fun i σ Hc _ hz => ?_) ?_ ?_
    · obtain ⟨_, _, _, kb, _⟩ := hz
      exact SqT.of (kb _ _ f4 e4)
    · rintro i x σ Hz Hc hi ⟨v2, v3, rfl, kb, ts, hFc, hl, htt⟩ ⟨rfl, hx⟩
      have hi3 : i < 3 := hi
      obtain ⟨l, ws, rfl, hws, hlc⟩ : ∃ l ws, x = V.ref l ∧ toldW[i]? = some ws ∧ Hc l = some (.lst (ws.map V.str)) := by
        match i, hi3, hx with
        | 0, _, hx => cases hx; exact ⟨l1, _, rfl, rfl, kb _ _ f1 e1⟩
        | 1, _, hx => cases hx; exact ⟨l2, _, rfl, rfl, kb _ _ f2 e2⟩
        | 2, _, hx => cases hx; exact ⟨l3, _, rfl, rfl, kb _ _ f3 e3⟩
      have hwm : ws ∈ toldW := List.mem_of_getElem? hws
      have hac := kb _ _ naF (e6 _ _ ha)
      refine ⟨_, rfl, a, rfl, ⟨_, SqL.of hac⟩, fun D hD => ?_⟩
      refine lc_it (walk_list (K := K) (a := a) (xs := rs.map V.str)) (LyC.LcP Hc D (fun i => (nmsIn ws ((rs.take i).map sp1)).map V.str)) (LyC.lcp0 hD rfl) (fun i Hx _ z => SqL.of (z.1 _ _ hac)) ?_ ?_
      · rintro m y Ha Hb hm ⟨sc, ec⟩ ⟨rfl, hy⟩
        rw [List.getElem?_map] at hy
        obtain ⟨r, hr1, rfl⟩ := Option.map_eq_some_iff.mp hy
        have hrm := List.mem_of_getElem? hr1
        obtain ⟨wd, rest, esp, htwo⟩ := G.told.2 r hrm
        have hrl := (G.tx.row r hrm).1
        have hsz : r.length + 2 ≤ sizeLine := by
          rw [sizeLine_eq]
          omega
        refine ⟨rfl, _, rfl, ⟨_, rfl⟩, r, _, rfl, rfl, (by decide +kernel), hsz, fun q hq => ?_⟩
        have sq := LyC.same_new (o := .lst ((Txt.split r " ").map V.str)) hq
        refine ⟨q, _, 0, .str wd, rfl, rfl, SqL.of upd_same, (by show atI ((sp1 r).map V.str) ((0 : Nat) : Int) = _; rw [esp]; exact atI_nat rfl), _, rfl, l, ws.map V.str, rfl, .inl (SqL.of (sq _ _ (sc _ _ hlc))), rfl, strs_flat ws, _, rfl, ?_⟩
        rw [show (if false = true then !inV (V.str wd) (ws.map V.str) else inV (V.str wd) (ws.map V.str)) = inV (V.str wd) (ws.map V.str) from rfl, LyC.inV_strs]
        have en := nmsIn_next (ws := ws) hr1
        rw [esp] at en
        have hDq := sq _ _ ec
        by_cases c : wd ∈ ws
        · obtain ⟨nm, rfl⟩ := htwo (told_word hwm c)
          rw [nmOf_yes c] at en
          rw [decide_eq_true c]
          refine iteT ⟨_, rfl, ⟨_, rfl⟩, r, _, rfl, rfl, (by decide +kernel), hsz, fun q2 hq2 => ?_⟩
          have sq2 := LyC.same_new (o := .lst ((Txt.split r " ").map V.str)) hq2
          refine ⟨q2, _, 1, .str nm, rfl, rfl, SqL.of upd_same, (by show atI ((sp1 r).map V.str) ((1 : Nat) : Int) = _; rw [esp]; exact atI_nat rfl), ?_⟩
          refine LyC.lcp_next hD (sc.trans (sq.trans sq2)) (sq2 _ _ hDq) ?_ ?_
          · have l1 := nmsIn_len ws (rs.take m)
            have l2 : (rs.take m).length ≤ rs.length := by rw [List.length_take]; omega
            rw [sizeLine_eq, List.length_map]
            omega
          · show (nmsIn ws ((rs.take (m + 1)).map sp1)).map V.str = _
            rw [en, List.map_append]
            rfl
        · rw [nmOf_no c, List.append_nil] at en
          rw [decide_eq_false c]
          refine iteF (LyC.lcp_skip (sc.trans sq) hDq ?_)
          show (nmsIn ws ((rs.take (m + 1)).map sp1)).map V.str = _
          rw [en]
      · rintro Ha ⟨sc, ec⟩
        have hD2 : Ha D = some (.lst ((nmsIn ws (rs.map sp1)).map V.str)) := by
          rw [ec, List.length_map]
          show some (HO.lst ((nmsIn ws ((rs.take rs.length).map sp1)).map V.str)) = _
          rw [List.take_length]
        have hFa := sc _ _ hFc
        have ln := nmsIn_len ws rs
        have lr := G.ln
        refine ⟨_, rfl, .inl ⟨rfl, _, SqL.of hFa⟩, _, rfl, D, _, rfl, SqL.of hD2, by omega, fun p1 hp1 => ⟨p1, _, rfl, upd_same, G.few hwm, fun ys p2 pm so hp2 => ⟨p2, _, rfl, .inl ⟨SqL.of upd_same, fun p3 hp3 => ?_⟩⟩⟩⟩
        have q1 := LyC.same_new (o := LyS.SetO P w p1 (LyS.metS (nmsIn ws (rs.map sp1)))) hp1
        have q2 := LyC.same_new (o := .lst (ys.map V.str)) hp2
        have q3 := LyC.same_new (o := .tup (ys.map V.str)) hp3
        have qq := ((sc.trans q1).trans q2).trans q3
        have hF3 := qq _ _ hFc
        have n3 : p3 ≠ Fd := (ne_of_none (q2 _ _ (q1 _ _ hFa)) hp3).symm
        refine ⟨Fd, _, _, rfl, rfl, hF3, (by rw [sizeLine_eq, List.length_map]; omega), ?_⟩
        refine ⟨_, _, rfl, fun x o nx e => ?_, ts ++ [p3], by rw [upd_same, List.map_append]; rfl, by rw [List.length_append, hl]; rfl, fun j t ws2 ht hw2 => ?_⟩
        · rw [upd_ne nx]
          exact qq _ _ (kb x o nx e)
        · by_cases c : j < ts.length
          · rw [List.getElem?_append_left c] at ht
            obtain ⟨y2, y3, y4⟩ := htt j t ws2 ht hw2
            have nt : t ≠ Fd := ne_of y3 hFc (fun z => nomatch z)
            exact ⟨y2, by rw [upd_ne nt]; exact qq _ _ y3, y4⟩
          · rw [List.getElem?_append_right (by omega)] at ht
            have hj : j = ts.length := by
              cases hz : j - ts.length with
              | zero => omega
              | succ v =>
                rw [hz] at ht
                cases ht
            rw [hj, Nat.sub_self] at ht
            cases ht
            rw [hj, hl] at hw2
            rw [hw2] at hws
            cases hws
            exact ⟨ys, by rw [upd_ne n3, upd_same], pm, so⟩
    · rintro σ Hc ⟨v2, v3, rfl, kb, ts, hFc, hl, htt⟩
      have hl3 : ts.length = 3 := hl
      obtain ⟨t1, t2, t3, rfl⟩ : ∃ t1 t2 t3, ts = [t1, t2, t3] := match ts, hl3 with | [t1, t2, t3], _ => ⟨t1, t2, t3, rfl⟩
      exact ⟨_, rfl, k Fd t1 t2 t3 Hc (fun x o e => kb x o (ne_of_none e hF) (e6 _ _ e)) hF hFc (htt 0 _ _ rfl rfl) (htt 1 _ _ rfl rfl) (htt 2 _ _ rfl rfl)⟩
end

end Ly
namespace Ly
open PySem PySem.Spec PyProof.Rows L2
/-! ### k02: before the law -/
def toldD (a b c : List Str) : PyData := .list [.tuple (a.map PyData.str), .tuple (b.map PyData.str), .tuple (c.map PyData.str)]
theorem lay_strs : ∀ {xs : List Str}, (∀ x ∈ xs, PyData.strOk x = true) → PyData.canLayAll0 (xs.map PyData.str) = true
  | [], _ => rfl
  | x :: xs, h => by
    show (PyData.strOk x && PyData.canLayAll0 (xs.map PyData.str)) = true
    rw [h x List.mem_cons_self, lay_strs fun y hy => h y (List.mem_cons_of_mem _ hy)]
    rfl
theorem dep_strs : ∀ xs : List Str, PyData.depthAll (xs.map PyData.str) = 0
  | [] => rfl
  | x :: xs => by
    show max 0 (PyData.depthAll (xs.map PyData.str)) = 0
    rw [dep_strs xs]
    rfl
theorem toldD_ok {a b c : List Str} (h1 : ∀ x ∈ a, PyData.strOk x = true) (h2 : ∀ x ∈ b, PyData.strOk x = true) (h3 : ∀ x ∈ c, PyData.strOk x = true) : SeqAt.shaped (toldD a b c) = true := by
  unfold SeqAt.shaped
  have e1 : (toldD a b c).canLay0 = true := by
    show (PyData.canLayAll0 (a.map PyData.str) && (PyData.canLayAll0 (b.map PyData.str) && (PyData.canLayAll0 (c.map PyData.str) && true))) = true
    rw [lay_strs h1, lay_strs h2, lay_strs h3]
    rfl
  have e2 : (toldD a b c).depth ≤ 64 := by
    show max (PyData.depthAll (a.map PyData.str) + 1) (max (PyData.depthAll (b.map PyData.str) + 1) (max (PyData.depthAll (c.map PyData.str) + 1) 0)) + 1 ≤ 64
    rw [dep_strs, dep_strs, dep_strs]
    decide
  rw [e1, decide_eq_true e2]
  rfl
theorem dpa_strs {K : PySem.W.Frag} {H : Hp} : ∀ xs : List Str, DpAll K H (xs.map V.str) (xs.map PyData.str)
  | [] => .nil
  | x :: xs => .cons (.str x) (dpa_strs xs)
theorem dp_told {K : PySem.W.Frag} {H : Hp} {p t1 t2 t3 : Addr} {a b c : List Str} (h : H p = some (.lst [.ref t1, .ref t2, .ref t3])) (h1 : H t1 = some (.tup (a.map V.str))) (h2 : H t2 = some (.tup (b.map V.str))) (h3 : H t3 = some (.tup (c.map V.str))) : Dp K H (.ref p) (toldD a b c) :=
  .lst (SqL.of h) (.cons (.tup (SqT.of h1) (dpa_strs a)) (.cons (.tup (SqT.of h2) (dpa_strs b)) (.cons (.tup (SqT.of h3) (dpa_strs c)) .nil)))
theorem nm_ok {rs : List Str} {s : Rs} (G : Good rs s) {ws ys : List Str} (p : ys.Perm (LyS.metS (nmsIn ws (rs.map sp1)))) : ∀ x ∈ ys, PyData.strOk x = true := fun x hx => by
  have h := (LyS.metS_mem _ _).mp (p.mem_iff.mp hx)
  obtain ⟨q, hq, hx2⟩ := List.mem_flatMap.mp h
  obtain ⟨r, hr, rfl⟩ := List.mem_map.mp hq
  have hxs : x ∈ sp1 r := by
    unfold nmOf at hx2
    split at hx2
    · rename_i wd n t e
      split at hx2
      · rw [e, List.mem_singleton.mp hx2]
        exact List.mem_cons_of_mem _ List.mem_cons_self
      · cases hx2
    · cases hx2
  unfold PyData.strOk
  rw [Array.all_eq_true_iff_forall_mem]
  intro c hc
  have := ((G.tx.row r hr).2 c (split_codes hxs (Array.mem_toList_iff.mpr hc))).1
  exact decide_eq_true (by omega)
/-- what is told of the rows is what the program tells -/
theorem tell_eq {K : PySem.W.Frag} {rs : List Str} {s : Rs} (G : Good rs s) {H : Hp} {t1 t2 t3 : Addr} (a : TupOf H rs ["job"] t1) (b : TupOf H rs ["walk"] t2) (c : TupOf H rs ["wait", "open"] t3) {yj yw yg : List Str}
    (p1 : yj.Perm s.jobs) (p2 : yw.Perm s.walks) (p3 : yg.Perm s.gates) (s1 : sortedS yj = true) (s2 : sortedS yw = true) (s3 : sortedS yg = true) :
    H t1 = some (.tup (yj.map V.str)) ∧ H t2 = some (.tup (yw.map V.str)) ∧ H t3 = some (.tup (yg.map V.str)) ∧ SeqAt.shaped (toldD yj yw yg) = true := by
  obtain ⟨a1, a2, a3, a4⟩ := a
  obtain ⟨b1, b2, b3, b4⟩ := b
  obtain ⟨c1, c2, c3, c4⟩ := c
  have T := G.told.1
  have e1 := met_eq T.nj G.j a3 a4 p1 s1
  have e2 := met_eq T.nw G.w b3 b4 p2 s2
  have e3 := met_eq T.ng T.g c3 c4 p3 s3
  subst e1 e2 e3
  exact ⟨a2, b2, c2, toldD_ok (nm_ok G a3) (nm_ok G b3) (nm_ok G c3)⟩
theorem ProgAt.kb {K : PySem.W.Frag} {H H' : Hp} {x M : Addr} {z : Str} {s : Rs} {xs : List V} (h : ProgAt K H x z s) (hM : H M = some (.lst xs)) (kb : KB M H H') : ProgAt K H' x z s := by
  obtain ⟨dx, dj, dw, tj, tw, tg, yj, yw, yg, h1, h2, h3, h4, r⟩ := h.ex
  exact ⟨dx, dj, dw, tj, tw, tg, yj, yw, yg, kb _ _ (ne_of h1 hM (fun z => nomatch z)) h1, kb _ _ (ne_of h2 hM (fun z => nomatch z)) h2, kb _ _ (ne_of h3 hM (fun z => nomatch z)) h3, kb _ _ (ne_of h4 hM (fun z => nomatch z)) h4, r⟩
/-- a pair of a text and the program read from it -/
def MadeAt (K : PySem.W.Frag) (H : Hp) (m : Addr) : Prop := ∃ (z : Str) (x : Addr) (rs : List Str) (s : Rs), H m = some (.tup [.str z, .ref x]) ∧ ProgAt K H x z s ∧ Good rs s ∧ z = Txt.join "\n" rs
theorem MadeAt.kb {K : PySem.W.Frag} {H H' : Hp} {m M : Addr} {xs : List V} (h : MadeAt K H m) (hM : H M = some (.lst xs)) (kb : KB M H H') : MadeAt K H' m := by
  obtain ⟨z, x, rs, s, h1, h2, h3⟩ := h
  exact ⟨z, x, rs, s, kb _ _ (ne_of h1 hM (fun z => nomatch z)) h1, h2.kb hM kb, h3⟩
theorem MadeAt.same {K : PySem.W.Frag} {H H' : Hp} {m : Addr} (h : MadeAt K H m) (sm : Same H H') : MadeAt K H' m := by
  obtain ⟨z, x, rs, s, h1, h2, h3⟩ := h
  exact ⟨z, x, rs, s, sm _ _ h1, h2.mono sm, h3⟩
def Gz (z : Str) : Prop := ∃ rs s, Good rs s ∧ z = Txt.join "\n" rs
theorem Good.text {rs : List Str} {s : Rs} (G : Good rs s) : (rs.map (·.length)).sum + rs.length * (Str.ofString "\n").length ≤ 16777216 ∧ (Txt.join "\n" rs).length < 40000 := G.tx.text (by decide)
theorem Good.split {rs : List Str} {s : Rs} (G : Good rs s) : Txt.split (Txt.join "\n" rs) "\n" = rs := split_join' G.ne fun r hr z => ((G.tx.row r hr).2 10 z).2 rfl
theorem Good.run_eq {rs : List Str} {s s' : Rs} (G : Good rs s) (e : runR Rs.init 0 (partsOf (Txt.join "\n" rs)) = .inr s') : s = s' := by
  rw [G.run] at e
  cases e
  rfl
theorem Good.gates_lt {rs : List Str} {s s' : Rs} (G : Good rs s) (e : runR Rs.init 0 (partsOf (Txt.join "\n" rs)) = .inr s') : s'.gates.length < 64 := by
  rw [← G.run_eq e]
  exact G.gl
theorem Good.not_row {rs : List Str} {s : Rs} (G : Good rs s) {i : Nat} (e : readOut (Txt.join "\n" rs) = .row i) : False := by
  rw [G.out] at e
  cases e
theorem Good.not_unk {rs : List Str} {s : Rs} (G : Good rs s) {i : Str} (e : readOut (Txt.join "\n" rs) = .unk i) : False := by
  rw [G.out] at e
  cases e
theorem Good.not_many {rs : List Str} {s : Rs} (G : Good rs s) {i : Str} (e : readOut (Txt.join "\n" rs) = .many i) : False := by
  rw [G.out] at e
  cases e
theorem two_bools (c : Bool) : SeqAt.shaped (.list [.bool c, .bool (!c)]) = true := by cases c <;> decide +kernel
theorem two_same (c : Bool) : PyData.eqv (.list [.bool c, .bool (!c)]) (.list [.bool c, .bool (!c)]) = true := by cases c <;> decide +kernel

end Ly
namespace Ly
open PySem PySem.Spec PyProof.Rows L2
/-! ### k02: law -/
theorem sqL_same {K : PySem.W.Frag} {H H' : Hp} {a : Addr} {xs : List V} (e : Same H H') (h : SqL K H a xs) : SqL K H' a xs := by
  rcases h with (h | ⟨o, h⟩) | h
  · exact .inl (.inl (e _ _ h))
  · exact .inl (.inr ⟨o, e _ _ h⟩)
  · exact .inr h
def rJoinK (K : PySem.W.Frag) : V → List V → Hp → VK → Prop := fun x xs H Q => ∃ a p, ∃ ys : List Str, x = .str a ∧ xs = [.ref p] ∧ (SqL K H p (ys.map V.str) ∨ SqT K H p (ys.map V.str)) ∧
    (ys.map (·.length)).sum + ys.length * a.length ≤ 16777216 ∧ Q (.str (Txt.join a ys)) H
theorem pe_joinK {X : Cx} {K : PySem.W.Frag} (h : X.K = K) {o e : Expr} {to te : TE} {apos pos : Pos} (ho : PE X o to) (he : PE X e te) (hs : starEach [e] X.env = [(false, eval e X.env)] := by rfl) (hbase : attributeBase o "join" X.env (eval o X.env) = eval o X.env := by rfl) (hline : (apos.endLine == pos.line) = true := by rfl) :
    PE X (.Call (.Attribute o "join" apos) [e] [] pos) (tM1 (rJoinK K) to te) := by
  subst h
  exact pe_join ho he hs hbase hline
theorem KB.same {M : Addr} {H0 H1 H2 : Hp} (k : KB M H0 H1) (s : Same H1 H2) : KB M H0 H2 := fun x o n e => s _ _ (k x o n e)
theorem bx_none {b x : Addr} {H H' : Hp} (B : Bx b H H') (n : x ≠ b) (h : H' x = none) : H x = none := by
  cases e : H x with
  | none => rfl
  | some o =>
    have := B.keep x o n e
    rw [h] at this
    cases this
section
variable {P : Program} {w : World} {K : PySem.W.Frag} {mg : Str → Option Value} {base : Heap}
def spLaw (K : PySem.W.Frag) : Sp := fun vs H Q _ => ∃ (a : Addr) (ns : List Int), vs = [.ref a] ∧ SqL K H a (ns.map V.int) ∧ ns.length ≤ 1000 ∧ ∀ H', Q (.bl true) H'
abbrev N_law : List Str := ["_law_script", "_law_k", "_law_box_here", "_law_made", "_law_texts", "_law_text", "_law_one", "_law_rows_here", "_law_other", "_law_two", "_law_turn"]
theorem sc_law : FnScope N_law ["_law_script"] (defScope s_law) := ⟨rfl, rfl, rfl, by decide +kernel, rfl, by decide +kernel, by decide +kernel⟩
theorem ok_law (T : Hd K mg) : ∃ fd, (∀ base : Heap, LyG.FnG P w K mg base CX0 19 (He.ga K "law") fd ["_law_script"] (spLaw K)) ∧ ∀ (s : Shared) (u : Value), BindsTo s fd ⟨[u], []⟩ [("_law_script", u)] := by
  obtain ⟨fd, F⟩ := T.f_law
  refine ⟨fd, fun base => LyG.okG F sc_law (fun vs H Q E h => ?_) (fun cdv A outer s H vs Q E hg hr h => ?_), ?_⟩
  · obtain ⟨a, ns, rfl, _⟩ := h
    rfl
  · obtain ⟨a, ns, rfl, ha, hl, k⟩ := h
    obtain ⟨fS, fdS, psS, hs1, hs2, FS, bS⟩ := ok_str (P := P) (w := w) (base := base) T
    obtain ⟨fL, fdL, psL, hl1, hl2, FL, bL⟩ := ok_pln (P := P) (w := w) (base := base) T
    obtain ⟨fE, fdE, psE, cE, FE, bE⟩ := ok_peq (P := P) (w := w) (base := base) T
    have one : 1 ≤ sizeLine := by decide
    have two : 2 ≤ sizeLine := by decide
    refine ⟨_, (pss_cons (ps_for (passes_of rfl) rfl (pi_range1 rfl T.n_range (pa_cons (pe_callB (call_max2 rfl) (by rfl) T.n_max (by decide +kernel) (pa_cons pe_int (pa_cons (pe_callB (call_min2 rfl) (by rfl) T.n_min (by decide +kernel) (pa_cons pe_int (pa_cons (pe_callB call_len_seq (by rfl) T.n_len PySem.boot_len (pa_cons (pv 0) pa_nil)) pa_nil))) pa_nil))) pa_nil)) (pg_name (i := 1) sc_law.nd rfl (Or.inl rfl))
        (pss_cons (ps_asg (pe_tup (pa_cons (LyC.pe_f (ok_box T) hr (pa_cons (pv 0) (pa_cons (pv 1) (pa_cons pe_int pa_nil)))) (pa_cons (pe_lst pa_nil) pa_nil))) (pg_tup (n := 2) rfl (pgs_cons (pg_name (i := 2) sc_law.nd rfl (Or.inr rfl)) (pgs_cons (pg_name (i := 3) sc_law.nd rfl (Or.inl rfl)) pgs_nil))))
        (pss_cons (ps_setLc (i := 4) (own := [("_law_turn", 10)]) (g := gName 10) (tt := tYes) rfl sc_law.nd rfl rfl (sw_true rfl rfl rfl (by decide +kernel)) (pi_range1 rfl T.n_range (pa_cons pe_int pa_nil)) (blkOk_by (N := N_law) (sc := defScope s_law) (by decide +kernel)) (fun _ _ _ _ _ => (pg_name (i := 10) sc_law.nd rfl (Or.inl rfl))) (fun _ _ _ _ _ => pts_nil) (fun _ _ _ _ _ => (pe_joinK (K := K) rfl pe_str (LyC.pe_f (ok_some T) hr (pa_cons (pv 2) pa_nil)))))
        (pss_cons (ps_expr (pe_bm PySem.F.plainAttrs_list PySem.F.slot_list_append PySem.F.type_list_append mt_append (pv 4) (pa_cons (pe_join pe_str (LyC.pe_f (ok_long T) hr (pa_cons (pv 2) pa_nil))) pa_nil)))
        (pss_cons (ps_for (passes_of rfl) rfl (pi_list (pe_op op_cat (pv 4) (pe_lst (pa_cons (pe_ix ix_list (pv 4) pe_int (fun _ _ => rfl)) pa_nil)))) (pg_name (i := 5) sc_law.nd rfl (Or.inl rfl))
          (pss_cons (ps_par (i := 6) (j := 7) (by rfl) sc_law.nd rfl rfl (by decide) rfl rfl (pa_cons (LyC.pe_sN (ok_read T) hr (pa_cons (pv 5) pa_nil)) (pa_cons (pe_split (pv 5) pe_str) pa_nil)) (by rfl))
          (pss_cons (ps_if (PW.pt (pw_or (pt_cmpR op_ne (pe_callTy (LyC.call_strO (j := 1) hs1 hs2 FS bS (hr.mono (by decide))) (by rfl) T.n_str (by decide +kernel) (pa_cons (pv 6) pa_nil)) (pv 5) (nomark _)) (pw_or (pt_cmpR op_ne (pe_callB (LyO.call_lenO hl1 hl2 FL bL (hr.mono (by decide))) (by rfl) T.n_len PySem.boot_len (pa_cons (pv 6) pa_nil)) (pe_callB call_len_seq (by rfl) T.n_len PySem.boot_len (pa_cons (pv 7) pa_nil)) (nomark _)) (pw_or1 (pt_cmpR (op_neD hr.units) (pe_lst (pa_cons (pe_fld (pv 6) rfl) (pa_cons (pe_fld (pv 6) rfl) (pa_cons (pe_fld (pv 6) rfl) pa_nil)))) (LyC.pe_f (ok_told T) hr (pa_cons (pv 7) pa_nil)) (nomark _))))))
            (pss_one (ps_ret pe_bl))
            pss_nil)
          (pss_one (ps_expr (pe_bm PySem.F.plainAttrs_list PySem.F.slot_list_append PySem.F.type_list_append mt_append (pv 3) (pa_cons (pe_tup (pa_cons (pv 5) (pa_cons (pv 6) pa_nil))) pa_nil)))))))
        (pss_one (ps_for (passes_of rfl) rfl (pi_list (pv 3)) (pg_tup (n := 2) rfl (pgs_cons (pg_name (i := 5) sc_law.nd rfl (Or.inl rfl)) (pgs_cons (pg_name (i := 6) sc_law.nd rfl (Or.inl rfl)) pgs_nil)))
          (pss_cons (ps_for (passes_of rfl) rfl (pi_list (pv 3)) (pg_tup (n := 2) rfl (pgs_cons (pg_name (i := 8) sc_law.nd rfl (Or.inl rfl)) (pgs_cons (pg_name (i := 9) sc_law.nd rfl (Or.inl rfl)) pgs_nil)))
            (pss_one (ps_if (pt_cmpR (op_neD hr.units) (pe_lst (pa_cons (pe_cmpR (LyO.op_ownEq cE FE bE (hr.mono (by decide))) (pv 6) (pv 9) (nomark _)) (pa_cons (pe_cmpR (LyO.op_ownNe cE FE bE (hr.mono (by decide))) (pv 6) (pv 9) (nomark _)) pa_nil))) (pe_lst (pa_cons (pe_cmpR op_eq (pv 5) (pv 8) (nomark _)) (pa_cons (pe_cmpR op_ne (pv 5) (pv 8) (nomark _)) pa_nil))) (nomark _))
              (pss_one (ps_ret pe_bl))
              pss_nil)))
          (pss_one (ps_if (PW.pt (pw_or (pt_cmpR (LyO.op_ownEq cE FE bE (hr.mono (by decide))) (pv 6) (pv 5) (nomark _)) (pw_or (pt_not (pt_cmpR (LyO.op_ownNe cE FE bE (hr.mono (by decide))) (pv 6) (pv 5) (nomark _))) (pw_or (pt_cmpR (LyO.op_ownEq cE FE bE (hr.mono (by decide))) (pv 6) (pe_fld (pv 6) rfl) (nomark _)) (pw_or1 (pt_not (pt_cmpR (LyO.op_ownEq cE FE bE (hr.mono (by decide))) (pv 6) (LyC.pe_sN (ok_read T) hr (pa_cons (pv 5) pa_nil)) (nomark _))))))))
            (pss_one (ps_ret pe_bl))
            pss_nil))))))))))
      (pss_one (ps_ret pe_bl))), ?_⟩
    have hn : (0 : Int) ≤ (if (if (((ns.map V.int).length : Nat) : Int) < 5 then (((ns.map V.int).length : Nat) : Int) else 5) > 2 then (if (((ns.map V.int).length : Nat) : Int) < 5 then (((ns.map V.int).length : Nat) : Int) else 5) else 2) ∧ (if (if (((ns.map V.int).length : Nat) : Int) < 5 then (((ns.map V.int).length : Nat) : Int) else 5) > 2 then (if (((ns.map V.int).length : Nat) : Int) < 5 then (((ns.map V.int).length : Nat) : Int) else 5) else 2) ≤ 5 := by
      constructor <;> split <;> (try split) <;> omega
    refine ⟨_, rfl, a, _, rfl, .inl ha, _, _, rfl, _, _, rfl, _, rfl, by omega, by omega, ?_⟩
    refine for_range (fun i σ Hc => ∃ v1 v2 v3 v4 v5 v6 v7 v8 v9, σ = [some (.ref a), v1, v2, v3, v4, v5, v6, v7, v8, v9, none] ∧ Same H Hc) ⟨none, none, none, none, none, none, none, none, none, rfl, Same.refl H⟩ ?_ ?_
    · rintro i σ Hc hi ⟨v1, v2, v3, v4, v5, v6, v7, v8, v9, rfl, sm⟩
      refine ⟨_, rfl, _, rfl, a, ns, _, 2, rfl, sqL_same sm ha, hl, by omega, by omega, by decide, by decide, fun b H1 c0 z0 n0 nb sm1 hb => ?_⟩
      refine ⟨Nat.zero_le _, fun Md hMd => ⟨two, fun tp htp => ⟨tp, _, rfl, SqT.of upd_same, rfl, _, _, rfl, _, _, rfl, rfl, ?_⟩⟩⟩
      have fb : H b = none := same_none sm nb
      have nMb : Md ≠ b := (ne_of_none hb hMd).symm
      have q1 := LyC.same_new (o := .lst []) hMd
      have q2 := LyC.same_new (o := .tup [.ref b, .ref Md]) htp
      generalize hHs : upd (upd H1 Md (.lst [])) tp (.tup [.ref b, .ref Md]) = Hs
      have hMs : Hs Md = some (.lst []) := by
        rw [← hHs]
        exact q2 _ _ upd_same
      have hbs : ∃ c s n : Int, Hs b = some (.lst [.int c, .int s, .int n]) := ⟨c0, z0, n0, by
        rw [← hHs]
        exact q2 _ _ (q1 _ _ hb)⟩
      have sHs : Same H1 Hs := by
        rw [← hHs]
        exact q1.trans q2
      -- three texts
      refine ⟨3, rfl, by decide, by decide, fun D hD => ?_⟩
      have nDb : D ≠ b := by
        obtain ⟨_, _, _, e⟩ := hbs
        exact (ne_of_none e hD).symm
      have nDM : D ≠ Md := (ne_of_none hMs hD).symm
      refine lc_it walk_range (fun i Hx => Bx b Hs Hx ∧ ∃ zs : List Str, Hx D = some (.lst (zs.map V.str)) ∧ zs.length = i ∧ ∀ z ∈ zs, Gz z) ⟨(Bx.refl hbs).new hD, [], upd_same, rfl, (fun _ h => nomatch h)⟩ (fun _ _ _ _ => trivial) ?_ ?_
      · rintro j x Ha Hb hj ⟨Bc, zs, hDc, hl2, hzs⟩ ⟨rfl, rfl⟩
        have hj3 : j < 3 := hj
        refine ⟨rfl, ⟨_, rfl⟩, _, rfl, b, rfl, Bc.bx, fun p rs s H' B' hp G => ⟨_, p, _, rfl, rfl, .inl (SqL.of hp), G.text.1, _, B'.keep _ _ nDb hDc, (by rw [sizeLine_eq, List.length_map]; omega), (Bc.trans B').put hD nDb, zs ++ [Txt.join "\n" rs], by rw [upd_same, List.map_append]; rfl, by rw [List.length_append, hl2]; rfl, fun z hz => ?_⟩⟩
        rcases List.mem_append.mp hz with h | h
        · exact hzs z h
        · rw [List.mem_singleton.mp h]
          exact ⟨rs, s, G, rfl⟩
      · rintro Ha ⟨Bc, zs, hDc, hl2, hzs⟩
        have hl3 : zs.length = 3 := hl2
        refine ⟨_, rfl, .inl ⟨rfl, _, SqL.of hDc⟩, ⟨_, rfl⟩, _, rfl, b, rfl, Bc.bx, fun p rs s H' B' hp G => ⟨_, p, _, rfl, rfl, .inl (SqL.of hp), G.text.1, D, _, _, rfl, rfl, B'.keep _ _ nDb hDc, (by rw [sizeLine_eq, List.length_map]; omega), ?_⟩⟩
        have B2 := (Bc.trans B').put (o := .lst ((zs ++ [Txt.join "\n" rs]).map V.str)) hD nDb
        have ez : zs.map V.str ++ [V.str (Txt.join "\n" rs)] = (zs ++ [Txt.join "\n" rs]).map V.str := by
          rw [List.map_append]
          rfl
        rw [ez]
        have hz4 : ∀ z ∈ zs ++ [Txt.join "\n" rs], Gz z := fun z hz => by
          rcases List.mem_append.mp hz with h | h
          · exact hzs z h
          · rw [List.mem_singleton.mp h]
            exact ⟨rs, s, G, rfl⟩
        have l4 : (zs ++ [Txt.join "\n" rs]).length = 4 := by
          rw [List.length_append, hl3]
          rfl
        generalize zs ++ [Txt.join "\n" rs] = z4 at hz4 l4 B2 ⊢
        generalize hH2 : upd H' D (.lst (z4.map V.str)) = H2 at B2 ⊢
        have hD2 : H2 D = some (.lst (z4.map V.str)) := by
          rw [← hH2]
          exact upd_same
        obtain ⟨z0, zr, rfl⟩ : ∃ z0 zr, z4 = z0 :: zr := match z4, l4 with | z :: r, _ => ⟨z, r, rfl⟩
        refine ⟨_, rfl, _, rfl, D, _, 0, .str z0, rfl, rfl, SqL.of hD2, (by show atI ((z0 :: zr).map V.str) ((0 : Nat) : Int) = _; exact atI_nat rfl), one, fun l1 hl1 => ?_⟩
        have q3 := LyC.same_new (o := .lst [V.str z0]) hl1
        refine ⟨D, l1, _, _, rfl, rfl, q3 _ _ hD2, upd_same, (by rw [sizeLine_eq, List.length_map, l4]; show 4 + 1 ≤ _; decide), fun L hL => ⟨L, rfl, ⟨_, SqL.of upd_same⟩, ?_⟩⟩
        have q4 := LyC.same_new (o := .lst ((z0 :: zr).map V.str ++ [V.str z0])) hL
        have e5 : (z0 :: zr).map V.str ++ [V.str z0] = ((z0 :: zr) ++ [z0]).map V.str := by
          rw [List.map_append]
          rfl
        have hz5 : ∀ z ∈ (z0 :: zr) ++ [z0], Gz z := fun z hz => by
          rcases List.mem_append.mp hz with h | h
          · exact hz4 z h
          · rw [List.mem_singleton.mp h]
            exact hz4 z0 List.mem_cons_self
        have l5 : ((z0 :: zr) ++ [z0]).length = 5 := by
          rw [List.length_append, l4]
          rfl
        have hM2 : H2 Md = some (.lst []) := B2.keep _ _ nMb hMs
        have nLM : L ≠ Md := (ne_of_none (q3 _ _ hM2) hL).symm
        have hM0 := q4 _ _ (q3 _ _ hM2)
        have hL0 : upd (upd H2 l1 (.lst [V.str z0])) L (.lst ((z0 :: zr).map V.str ++ [V.str z0])) L = some (.lst (((z0 :: zr) ++ [z0]).map V.str)) := by
          rw [upd_same, e5]
        have sm2 := q3.trans q4
        rw [e5]
        rw [e5] at hM0 hL0 sm2
        generalize (z0 :: zr) ++ [z0] = z5 at hz5 l5 hM0 hL0 sm2 ⊢
        generalize upd (upd H2 l1 (.lst [V.str z0])) L (.lst (z5.map V.str)) = H0 at hM0 hL0 sm2 ⊢
        refine for_it (walk_list (xs := z5.map V.str)) (fun j σ Hc => ∃ v5 v6 v7, σ = [some (.ref a), some (.int (0 + (i : Nat))), some (.ref b), some (.ref Md), some (.ref D), v5, v6, v7, v8, v9, none] ∧ KB Md H0 Hc ∧ ∃ ms : List Addr, Hc Md = some (.lst (ms.map V.ref)) ∧ ms.length = j ∧ ∀ m ∈ ms, MadeAt K Hc m)
          ⟨_, _, _, rfl, fun _ _ _ h => h, [], hM0, rfl, (fun _ h => nomatch h)⟩ (fun j σ Hc _ hz => ?_) ?_ ?_
        · obtain ⟨_, _, _, _, kb, _⟩ := hz
          exact SqL.of (kb _ _ nLM hL0)
        · rintro j x σ Hz Hc hj ⟨v5, v6, v7, rfl, kb, ms, hMc, hlm, hms⟩ ⟨rfl, hx⟩
          rw [List.getElem?_map] at hx
          obtain ⟨z, hz1, rfl⟩ := Option.map_eq_some_iff.mp hx
          obtain ⟨rs, s', G, rfl⟩ := hz5 z (List.mem_of_getElem? hz1)
          have hj5 : j < 5 := by
            rw [List.length_map, l5] at hj
            exact hj
          have htx := G.text.2
          have hln := G.ln
          refine ⟨_, rfl, _, rfl, htx, fun _ e => G.gates_lt e, fun i e => (G.not_row e).elim, fun i e => (G.not_unk e).elim, fun i e => (G.not_many e).elim, fun _ x s2 H3 er sm3 nx pa => ?_⟩
          obtain rfl := G.run_eq er
          refine ⟨_, rfl, ⟨_, rfl⟩, _, _, rfl, rfl, (by decide +kernel), (by rw [sizeLine_eq]; omega), fun R hR => ⟨_, _, rfl, ?_⟩⟩
          rw [G.split]
          have sR := LyC.same_new (o := .lst (rs.map V.str)) hR
          have paR := pa.mono sR
          have hRR : upd H3 R (.lst (rs.map V.str)) R = some (.lst (rs.map V.str)) := upd_same
          have sm4 := sm3.trans sR
          generalize upd H3 R (.lst (rs.map V.str)) = HR at paR hRR sm4 ⊢
          obtain ⟨dx, dj, dw, tj, tw, tg, yj, yw, yg, o1, o2, o3, o4, p1, p2, p3, s1, s2, s3⟩ := paR.ex
          refine ⟨_, rfl, x, dx, _, rfl, o1, x, _, s', rfl, paR, _, rfl, _, rfl, rfl, _, rfl, ?_⟩
          rw [decide_eq_true rfl]
          refine iteF ⟨_, rfl, x, dx, _, rfl, o1, x, _, s', rfl, paR, htx, fun H5 sm5 => ⟨_, rfl, Int.natCast_nonneg _, (by rw [G.split]; omega), _, rfl, R, _, rfl, .inl (SqL.of (sm5 _ _ hRR)), rfl, _, rfl, ?_⟩⟩
          rw [G.split, List.length_map, decide_eq_true rfl]
          refine iteF ⟨_, rfl, x, _, dx, _, _, rfl, sm5 _ _ o1, T.cl_Program, T.na_Program_jobs, p_jobs, _, rfl, x, _, dx, _, _, rfl, sm5 _ _ o1, T.cl_Program, T.na_Program_walks, p_walks, _, rfl, x, _, dx, _, _, rfl, sm5 _ _ o1, T.cl_Program, T.na_Program_gates, p_gates, (by show 3 ≤ sizeLine; decide), fun l6 h6 => ?_⟩
          have q6 := LyC.same_new (o := .lst [V.ref tj, V.ref tw, V.ref tg]) h6
          have sm6 := sm5.trans q6
          refine ⟨_, rfl, R, rs, s', rfl, sm6 _ _ hRR, G, fun p t1 t2 t3 H7 sm7 np hp T1 T2 T3 => ?_⟩
          obtain ⟨f1, f2, f3, f4⟩ := tell_eq (K := K) G T1 T2 T3 p1 p2 p3 s1 s2 s3
          have sm8 := sm6.trans sm7
          refine ⟨toldD yj yw yg, toldD yj yw yg, dp_told (sm7 _ _ upd_same) (sm8 _ _ o2) (sm8 _ _ o3) (sm8 _ _ o4), dp_told hp f1 f2 f3, f4, f4, _, rfl, ?_⟩
          rw [SeqAt.eqv_refl _ (SeqAt.canLay_of_shaped f4)]
          have sm9 := sm4.trans sm8
          have hM7 := sm9 _ _ hMc
          refine iteF ⟨_, rfl, .inl ⟨rfl, _, SqL.of hM7⟩, _, rfl, _, rfl, two, fun m hm => ?_⟩
          have q9 := LyC.same_new (o := .tup [V.str (Txt.join "\n" rs), V.ref x]) hm
          have hM9 := q9 _ _ hM7
          refine ⟨Md, _, _, rfl, rfl, hM9, (by rw [sizeLine_eq, List.length_map]; omega), ?_⟩
          have kbu : ∀ {Hq : Hp} {o : HO}, KB Md Hq (upd Hq Md o) := fun x o n e => by
            rw [upd_ne n]
            exact e
          refine ⟨_, _, _, rfl, fun x o n e => ?_, ms ++ [m], by rw [upd_same, List.map_append]; rfl, by rw [List.length_append, hlm]; rfl, fun m' hm' => ?_⟩
          · rw [upd_ne n]
            exact q9 _ _ (sm9 _ _ (kb x o n e))
          · rcases List.mem_append.mp hm' with h | h
            · exact ((hms m' h).same (sm9.trans q9)).kb hM9 kbu
            · rw [List.mem_singleton.mp h]
              exact MadeAt.kb ⟨_, x, rs, s', upd_same, (paR.mono sm8).mono q9, G, rfl⟩ hM9 kbu
        · rintro σ Hc ⟨v5, v6, v7, rfl, kb, ms, hMc, hlm, hms⟩
          refine ⟨_, rfl, Md, rfl, ⟨_, SqL.of hMc⟩, ?_⟩
          refine for_it (walk_list (xs := ms.map V.ref)) (fun j σ Hd => ∃ v5 v6 v8 v9, σ = [some (.ref a), some (.int (0 + (i : Nat))), some (.ref b), some (.ref Md), some (.ref D), v5, v6, v7, v8, v9, none] ∧ Same Hc Hd)
            ⟨_, _, _, _, rfl, Same.refl _⟩ (fun j σ Hd _ hz => ?_) ?_ ?_
          · obtain ⟨_, _, _, _, _, sd⟩ := hz
            exact SqL.of (sd _ _ hMc)
          · rintro j x σ Hz Hd hj ⟨v5, v6, v8, v9, rfl, sd⟩ ⟨rfl, hx⟩
            obtain ⟨m, hm, rfl⟩ := List.mem_map.mp (List.mem_of_getElem? hx)
            obtain ⟨z, x, rs, s', hmt, pa, G, rfl⟩ := (hms m hm).same sd
            refine ⟨m, _, rfl, SqT.of hmt, rfl, _, _, rfl, _, _, rfl, rfl, ?_⟩
            have hMd2 := sd _ _ hMc
            refine ⟨_, rfl, Md, rfl, ⟨_, SqL.of hMd2⟩, ?_⟩
            refine for_it (walk_list (xs := ms.map V.ref)) (fun j σ He => ∃ v8 v9, σ = [some (.ref a), some (.int (0 + (i : Nat))), some (.ref b), some (.ref Md), some (.ref D), some (.str (Txt.join "\n" rs)), some (.ref x), v7, v8, v9, none] ∧ Same Hd He)
              ⟨_, _, rfl, Same.refl _⟩ (fun j σ He _ hz => ?_) ?_ ?_
            · obtain ⟨_, _, _, se⟩ := hz
              exact SqL.of (se _ _ hMd2)
            · rintro j2 y σ Hy He hj2 ⟨v8, v9, rfl, se⟩ ⟨rfl, hy⟩
              obtain ⟨m2, hm2, rfl⟩ := List.mem_map.mp (List.mem_of_getElem? hy)
              obtain ⟨z2, x2, rs2, s2, hmt2, pa2, G2, ez2⟩ := (hms m2 hm2).same (sd.trans se)
              have pa' := pa.mono se
              refine ⟨m2, _, rfl, SqT.of hmt2, rfl, _, _, rfl, _, _, rfl, rfl, ?_⟩
              obtain ⟨dx, dj, dw, tj, tw, tg, yj, yw, yg, o1, _⟩ := pa'.ex
              obtain ⟨dx2, _, _, _, _, _, _, _, _, o2, _⟩ := pa2.ex
              refine ⟨_, rfl, _, rfl, x, dx, _, _, rfl, o1, .ins o2, x, _, s', _, rfl, pa', .inl ⟨x2, z2, s2, rfl, pa2, _, rfl, ?_⟩⟩
              refine ⟨_, rfl, _, rfl, x, dx, _, _, rfl, o1, .ins o2, x, _, s', _, rfl, pa', .inl ⟨x2, z2, s2, rfl, pa2, _, rfl, two, fun l1 h1 => ?_⟩⟩
              refine ⟨_, rfl, _, rfl, rfl, _, rfl, _, rfl, rfl, two, fun l2 h2 => ?_⟩
              have r1 := LyC.same_new (o := .lst [V.bl (id (decide (Txt.join "\n" rs = z2))), V.bl (!(decide (Txt.join "\n" rs = z2)))]) h1
              rw [dec_str]
              have r2 := LyC.same_new (o := .lst [V.bl (decide (Txt.join "\n" rs = z2)), V.bl (!(decide (Txt.join "\n" rs = z2)))]) h2
              refine ⟨.list [.bool (decide (Txt.join "\n" rs = z2)), .bool (!decide (Txt.join "\n" rs = z2))], .list [.bool (decide (Txt.join "\n" rs = z2)), .bool (!decide (Txt.join "\n" rs = z2))], .lst (SqL.of (r2 _ _ upd_same)) (.cons (.bl _) (.cons (.bl _) .nil)), .lst (SqL.of upd_same) (.cons (.bl _) (.cons (.bl _) .nil)), two_bools _, two_bools _, _, rfl, ?_⟩
              rw [two_same]
              exact iteF ⟨_, _, rfl, (se.trans r1).trans r2⟩
            · rintro σ He ⟨v8, v9, rfl, se⟩
              have pa' := pa.mono se
              obtain ⟨dx, dj, dw, tj, tw, tg, yj, yw, yg, o1, o2, _⟩ := pa'.ex
              refine ⟨_, rfl, _, rfl, x, dx, _, _, rfl, o1, .str _, x, _, s', _, rfl, pa', .inr (.inl ⟨_, rfl, _, rfl, _, rfl, iteF ?_⟩)⟩
              refine ⟨_, rfl, _, rfl, x, dx, _, _, rfl, o1, .str _, x, _, s', _, rfl, pa', .inr (.inl ⟨_, rfl, _, rfl, _, rfl, iteF ?_⟩)⟩
              refine ⟨_, rfl, _, rfl, x, _, dx, _, _, rfl, o1, T.cl_Program, T.na_Program_jobs, p_jobs, x, dx, _, _, rfl, o1, .tup o2, x, _, s', _, rfl, pa', .inr (.inr ⟨tj, _, rfl, o2, _, rfl, _, rfl, iteF ?_⟩)⟩
              refine ⟨_, rfl, _, rfl, _, rfl, G.text.2, fun _ e => G.gates_lt e, fun i e => (G.not_row e).elim, fun i e => (G.not_unk e).elim, fun i e => (G.not_many e).elim, fun _ x2 s2 H5 er sm5 nx2 pa2 => ?_⟩
              obtain rfl := G.run_eq er
              obtain ⟨dx2, _, _, _, _, _, _, _, _, o3, _⟩ := pa2.ex
              refine ⟨x, dx, _, _, rfl, sm5 _ _ o1, .ins o3, x, _, s', _, rfl, pa'.mono sm5, .inl ⟨x2, _, s', rfl, pa2, _, rfl, _, rfl, ?_⟩⟩
              rw [decide_eq_true rfl]
              exact iteF ⟨_, _, _, _, rfl, (sd.trans se).trans sm5⟩
          · rintro σ Hd ⟨v5, v6, v8, v9, rfl, sd⟩
            refine ⟨_, _, _, _, _, _, _, _, _, rfl, fun x o e => ?_⟩
            have h1 := sm1 _ _ (sm _ _ e)
            have nxb : x ≠ b := ne_of_none e fb
            have nxM : x ≠ Md := ne_of_none h1 hMd
            exact sd _ _ (kb x o nxM (sm2 _ _ (B2.keep x o nxb (sHs _ _ h1))))
    · rintro σ Hc ⟨v1, v2, v3, v4, v5, v6, v7, v8, v9, rfl, sm⟩
      exact k _
  · intro s u
    have b := FunD.bindsA (ps := ["_law_script"]) F fun _ _ _ _ _ _ us hl => match us, hl with | [_], _ => rfl
    exact b s [u] rfl
end

end Ly
open PySem PySem.W PySem.Calls PyProof.Rows
theorem PySem.Challenge.cw_lateyields_k02_programs_read_and_shown_holds : PySem.Challenge.rw_lateyields_k02_programs_read_and_shown.Holds := by
  w_on; o_law
  refine HandSHeadRun.head_any (r := OpenLaw.row PySem.Challenge.rw_lateyields_k02_programs_read_and_shown) (q := view (OpenLaw.row PySem.Challenge.rw_lateyields_k02_programs_read_and_shown).prog [42]) (H := Ly.hk) (ob := Ly.ob) (M := 6000) (loose := Ly.loose) (d := HandSHeadRun.topDef (OpenLaw.row PySem.Challenge.rw_lateyields_k02_programs_read_and_shown).prog 42) (kwd := []) Ly.ob_eq
    (by kernel_rfl) (fun s => by kernel_rfl) Ly.run (by kernel_rfl) (by kernel_rfl) (by kernel_rfl) (by rfl) (by first | assumption | decide +kernel) (by decide +kernel) ⟨rfl, rfl, rfl, rfl, rfl, by decide +kernel⟩ ?hw ?hc
  case hw => w_witness2
  case hc =>
    refine LyG.walkG (l := PySem.Challenge.rw_lateyields_k02_programs_read_and_shown) (n := 63) (k := 19) (x := "_law_script") (CX := fun _ => L2.CX0) rfl (by decide) (by kernel_rfl) ⟨rfl, by decide, by decide⟩ ?F (fun _ _ _ _ _ z => z)
    intro w mg fa h Y G hmg0
    obtain ⟨K, KX, c⟩ := Y
    have hmg : mg ("law" : PySem.Str) = some (.ref fa) := by
      have e : (HandSHeadRun.topDef (OpenLaw.row PySem.Challenge.rw_lateyields_k02_programs_read_and_shown).prog 42).name = ("law" : PySem.Str) := by kernel_rfl
      rw [← e]
      exact hmg0
    have T := Ly.hd_of KX G c
    have e2 := hmg.symm.trans T.g_law
    cases e2
    obtain ⟨fd, F0, hb⟩ := Ly.ok_law (P := (PySem.Challenge.rw_lateyields_k02_programs_read_and_shown).prog) (w := w) T
    exact ⟨K, fd, Ly.spLaw K, KX, hb, fun H a ns hl _ hS => ⟨a, ns, rfl, hS, Nat.le_trans hl (by decide), fun _ => rfl⟩, fun base _ _ => F0 base⟩
