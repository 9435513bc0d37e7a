import PyProof.Rows.All
import Wide.All
import OpenK.AllK
import Wide.FinOn
import PyProof.EqAt
import PyProof.EqKinds
import PyProof.TupleCall
import KE.KExcInit
import HandS.Base
import HandS.Call
import HandS.List
import HandS.Dict
import HandS.Ends
import HandS.Exc
import HandS.ExcInit
import HandS.More
import HandS.TryMany
import HandS.ExcField
import HandS.ExcIs
import HandS.OwnEq
import HandS.IsInst
import HandS.Defaults
import HandS.Deep
import HandS.DeepEq
import HandS.Conv
import HandS.Wide
import HandS.Style
import HandS.Flow
import HandS.Words
import HandS.WordsList
import HandS.WordsDict
import HandS.WordsExc
import HandS.Comp
import HandS.Iter
import HandS.NamedTup0
import HandS.HeadEnd
import HandS.HeadHook2
import KE.KStateDown
import Lean
import HandS.Head0
import HandS.Head1
import HandS.Head2
import HandS.HeadHook1
import PySem.Challenge.RW_causehall_k78_plain_deeds
set_option Elab.async false
set_option linter.all false
set_option maxRecDepth 100000
set_option maxHeartbeats 4000000
/-! rules of this claim: own errors under a base of one's own; len and == by own methods -/
namespace PySem
namespace CR
open PySem.W PySem.Calls PyProof.Rows PySem.HandSPX
/-- own classes, then a built-in tail -/
def refsTo (tl : List Value) : List Value → Bool
  | .ref _ :: r => refsTo tl r
  | l => decide (l = tl)
theorem refsTo_cases {tl : List Value} : ∀ {l : List Value}, refsTo tl l = true → (∃ a r, l = Value.ref a :: r ∧ refsTo tl r = true) ∨ l = tl := by
  intro l h
  unfold refsTo at h
  split at h
  · exact .inl ⟨_, _, rfl, h⟩
  · exact .inr (of_decide_eq_true h)
theorem refsTo_pass {tl : List Value} (ht : ∀ self, refuseLoop self "__setattr__" tl = pure ()) (self : Value) : ∀ l : List Value, refsTo tl l = true → refuseLoop self "__setattr__" l = pure () := by
  intro l
  induction l with
  | nil =>
    intro e
    rcases refsTo_cases e with ⟨_, _, q, _⟩ | q
    · cases q
    · rw [q]; exact ht self
  | cons a r ih =>
    intro e
    rcases refsTo_cases e with ⟨c, r', q, h⟩ | q
    · obtain ⟨rfl, rfl⟩ := List.cons.inj q
      rw [refuseLoop_ref]; exact ih h
    · rw [q]; exact ht self
theorem refsTo_contains {tl : List Value} (X : String) : ∀ l : List Value, refsTo tl l = true → l.contains (.type X) = tl.contains (.type X) := by
  intro l
  induction l with
  | nil =>
    intro e
    rcases refsTo_cases e with ⟨_, _, q, _⟩ | q
    · cases q
    · rw [q]
  | cons a r ih =>
    intro e
    rcases refsTo_cases e with ⟨c, r', q, h⟩ | q
    · obtain ⟨rfl, rfl⟩ := List.cons.inj q
      rw [List.contains_cons, ih h]; rfl
    · rw [q]
theorem refsTo_ne {tl l : List Value} (ht : tl ≠ []) (e : refsTo tl l = true) : l.isEmpty = false := by
  cases l with
  | nil =>
    rcases refsTo_cases e with ⟨_, _, q, _⟩ | q
    · cases q
    · exact absurd q.symm ht
  | cons _ _ => rfl
/-- what is asked of the built-in base's tail -/
structure TailOk (tl : List Value) : Prop where
  ne : tl ≠ []
  ob : tl.contains (.type "object") = true
  pass : ∀ self, refuseLoop self "__setattr__" tl = pure ()
section
variable {prog : Program} {w : World} {A : Around} {E : Value → Shared → Prop} {R : Result → Shared → Prop} {hp : Heap} {g : Array GenState} {d : Drawn} {t : Nat} {os : OsState}
open Builtin Builtin.ObjectAttr
theorem exc_osa {tl : List Value} (T : TailOk tl) {K : W.Frag} {name : Str} {tk : Tok} {v : Value} {x C : Addr} {fv : Array Value} {cd : ClassData}
    (X : K.In hp) (hx : hp.get? x = some { cls := .ref C, data := .fields fv }) (hcd : W.clsIn K C = some cd) (hm : refsTo tl cd.mro = true) (hh : cd.hasDict = true) (ha : W.findIn K (.ref C) name = some none)
    (hq : ∀ h' tk' dx, (∀ b o, b ≠ x → hp.get? b = some o → h'.get? b = some o) → hp.objs.size ≤ dx → dx ≠ x → h'.get? x = some { cls := .ref C, dict := some dx, data := .fields fv } →
      h'.Ns1 dx (fun y => if y = name then some v else none) → R (.ok (.ret .none)) ⟨h', g, d, tk', os⟩) :
    codeAny (model prog w) A (.call (.builtin "object.__setattr__") ⟨[.ref x, .str name tk, v], []⟩) R ⟨hp, g, d, t, os⟩ := by
  have I : W.InstAt hp x { cls := .ref C, data := .fields fv } C none := ⟨hx, rfl, rfl, trivial⟩
  have SF := F.store_object
  have ne := refsTo_ne T.ne hm
  have hob : cd.mro.contains (.type "object") = true := (refsTo_contains "object" _ hm).trans T.ob
  have hxs : x ≠ hp.objs.size := Nat.ne_of_lt (Heap.lt_size hx)
  have sub : W.Looks (model prog w) hp (isInstance (.ref x) (.type "object")) true := I.type.andThen (W.looks_mroIn X (by unfold W.mroIn; rw [hcd, Option.bind_some, if_neg (by rw [ne]; decide), hob]))
  refine codeAny_call_builtin SF.slot.plain SF.entry (@W.check_slot (model prog w) _ _ ⟨hp, g, d, t, os⟩ "object.__setattr__" "object" "__setattr__" (.ref x) [.str name tk, v] [] _ SF.kind SF.split sub (SF.args (.ref x) (.str name tk) v) ?_)
  have hmr : W.Looks (model prog w) hp (mroOf (.ref C)) cd.mro := (W.looks_clsIn X hcd).andThen .now
  have L3 : W.Looks (model prog w) hp (storeTaker? none) none := .now
  have hcls : W.Looks (model prog w) hp (classData C) cd := W.looks_clsIn X hcd
  rw [W.osa_eq, refuse_eq]
  refine wpAny_bind (wpAny_bind (I.type.at (wpAny_bind (hmr.at ?_))))
  rw [refsTo_pass T.pass _ _ hm]
  refine wpAny_pure (wpAny_bind (I.type.at (wpAny_bind ((W.looks_findIn X ha).at (wpAny_bind (L3.at ?_))))))
  show wpAny _ _ (storeInOwnDict (.ref x) (.ref C) (.str name tk) name v false) _ _ _
  obtain ⟨nm, bs, mro, ns, qn, hd, sn, sb, ab, col, del⟩ := cd
  dsimp only at hh
  subst hh
  unfold storeInOwnDict ownDictForStores
  repeat (first | with_reducible refine store_in_new ?_ ?_ | with_reducible refine wpAny_loadPart_at hx ?_ | with_reducible refine hcls.at ?_ | wp_step)
  · exact ⟨_, #[], _, (Heap.get?_update_ne _ _ _ _ hxs.symm).trans (Heap.get?_push_at rfl rfl), rfl, fun e he => absurd he (by simp), fun _ => rfl⟩
  · intro h' tk' hn' hs
    have hx₁ : (hp.push { cls := .type "dict", data := .dict #[] }).get? x = some { cls := .ref C, data := .fields fv } := Heap.get?_push_of_some _ hx
    refine hq h' tk' hp.objs.size (fun b o hb ho => ?_) (Nat.le_refl _) hxs.symm ?_ hn'
    · exact (hs.2 b (Nat.ne_of_lt (Heap.lt_size ho))).trans ((Heap.get?_update_ne _ _ _ _ hb).trans (Heap.get?_push_of_some _ ho))
    · exact (hs.2 x hxs).trans (Heap.get?_update_self _ hx₁ rfl)
end
abbrev tlVE : List Value := [.type "ValueError", .type "Exception", .type "BaseException", .type "object"]
abbrev tlLE : List Value := [.type "LookupError", .type "Exception", .type "BaseException", .type "object"]
theorem tail_VE : TailOk tlVE := ⟨by decide +kernel, by decide +kernel, F.store_ValueError.passes⟩
theorem tail_LE : TailOk tlLE := ⟨by decide +kernel, by decide +kernel, F.store_LookupError.passes⟩
end CR
end PySem

namespace L2
open PySem PySem.Spec PyProof.Rows
/-- what the written part says of an own error class at C -/
structure OwnX (K : PySem.W.Frag) (C : Addr) (newId : String) (tl : List Value) : Prop where
  cls : ∃ nm q N bs bm sn sub ab col dd k0 k1 k2 k3 k5, K.lookup C = some (excClassObj nm q C N bs bm true sn sub ab col dd k0 k1 k2 k3 k5 newId) ∧ PySem.CR.refsTo tl bm = true
  sa : PySem.W.findIn K (.ref C) "__setattr__" = some (some (.builtin "object.__setattr__"))
  exC : PySem.W.subIn K (.ref C) (.type "BaseException") = some true
  tyC : PySem.W.typeIn K (.ref C) = some (.type "type")
  kC : PySem.W.keepIn K (.ref C) = true
/-- the kind of an own error's built-in base -/
structure XBase (newId initId : String) (tl : List Value) : Prop where
  tok : PySem.CR.TailOk tl
  make : ∃ B, ExcBaseFacts B newId initId tl
  hi : PySem.W.handedIn (.builtin initId) = true
theorem xb_VE : XBase "ValueError.__new__" "ValueError.__init__" PySem.CR.tlVE := ⟨PySem.CR.tail_VE, ⟨_, PySem.F.excBase_ValueError⟩, by decide +kernel⟩
theorem xb_LE : XBase "LookupError.__new__" "LookupError.__init__" PySem.CR.tlLE := ⟨PySem.CR.tail_LE, ⟨_, PySem.F.excBase_LookupError⟩, by decide +kernel⟩
section
variable {X : Cx} {pins : List (Addr × Obj)} {σ : St} {H : Hp} {s : Shared} {a C dx : Addr} {f : Str} {y : V} {u : Value} {fs : List (Str × V)} {Q : Unit → Shared → Prop} {E : Value → Shared → Prop} {A : Around} {newId initId : String} {tl : List Value}
theorem xst_new (XB : XBase newId initId tl) (T : OwnX X.K C newId tl) (I : Inv X pins σ H s) (e : H a = some (exo a C none)) (hno : PySem.W.findIn X.K (.ref C) f = some none) (ry : RelV y u)
    (h : ∀ dx s', H dx = none → dx ≠ a → Inv X pins σ (upd (upd H dx (exd dx [(f, y)])) a (exo a C (some dx))) s' → Q () s') : wpAny (model X.prog X.w) A (setAttr (.ref a) f u) Q E s := by
  obtain ⟨nm, q, N, bs, bm, sn, sub, ab, col, dd, k0, k1, k2, k3, k5, hC, hbm⟩ := T.cls
  have hcl : PySem.W.clsIn X.K C = some { name := nm, bases := bs, mro := .ref C :: bm, ns := N, qualname := q, hasDict := true, slotNames := sn, subclasses := sub, abstract := ab, collection := col, hasDel := false } := by unfold PySem.W.clsIn; rw [hC] <;> rfl
  obtain ⟨t1, ho⟩ := exo_at I.hok e
  obtain ⟨hp, g, d, t, os⟩ := s
  refine PySem.W.set_plain I.kIn (ox := { cls := .ref C, dict := none, data := .fields #[.ref t1, .none, .none, .none, .bool false, .none] }) (od := none) ⟨ho, rfl, rfl, trivial⟩ T.sa ?_
  refine PySem.CR.exc_osa XB.tok I.kIn ho hcl (show PySem.CR.refsTo tl (.ref C :: bm) = true from hbm) rfl hno (fun h' tk' dx k dn dne hx hn => ?_)
  have hnd : H dx = none := I.hok.fresh dn
  have nd : ∀ {b : Addr} {o : Obj}, hp.get? b = some o → b ≠ dx := fun {b o} q => Nat.ne_of_lt (Nat.lt_of_lt_of_le (Heap.lt_size q) dn)
  have na : ∀ {b : Addr}, H b = none → b ≠ a := fun {b} n z => by
    rw [z, e] at n
    cases n
  have Un1 : Un X.fs [] H (upd (upd H dx (exd dx [(f, y)])) a (exo a C (some dx))) hp h' := {
    keep := fun b o q n _ _ => k b o (na n) q
    slot := fun b o q n _ _ => ⟨o.slots, k b o (na n) q⟩
    free := fun b o q n _ => by rw [upd_ne (na n), upd_ne (nd q)]; exact n
    there := fun b o q _ => by
      by_cases hb : b = a
      · exact ⟨_, by rw [hb]; exact hx⟩
      · exact ⟨o, k b o hb q⟩
    tups := fun b xs q => by rw [upd_ne (at_ne e q exo_tup), upd_ne (ne_of_none q hnd)]; exact q
    frzs := fun b o v q => by rw [upd_ne (at_ne e q exo_frz), upd_ne (ne_of_none q hnd)]; exact q
    tbls := fun b ps q => ⟨#[], by rw [upd_ne (at_ne e q exo_tbl), upd_ne (ne_of_none q hnd), q]; simp⟩ }
  refine h dx _ hnd dne (I.un (t' := tk') Un1 fun b o q => ?_)
  by_cases hb : b = a
  · subst hb
    rw [upd_same] at q
    cases q
    exact exo_ok hx
  · rw [upd_ne hb] at q
    by_cases hd : b = dx
    · subst hd
      rw [upd_same] at q
      cases q
      exact exd_ok hn (relO_put (fs := []) ry fun g => True.intro)
    · rw [upd_ne hd] at q
      exact (I.hok b o q).stay (fun c v hc z => k c v (by
          rcases hc with hc | hc
          · rw [hc]
            exact hb
          · exact at_ne e hc exo_own) z)
        (fun c hc => by rw [upd_ne (at_ne e hc exo_own), upd_ne (ne_of_none hc hnd)]; exact hc) (fun c xs hc => by rw [upd_ne (at_ne e hc exo_tup), upd_ne (ne_of_none hc hnd)]; exact hc)
/-- Base.__init__(self, ..): nothing of it is told -/
theorem xinit_ok {us : List Value} {Q : Value → Shared → Prop} (XB : XBase newId initId tl) (T : OwnX X.K C newId tl) (I : Inv X pins σ H s) (e : H a = some (exo a C none)) (hl : us.length ≤ sizeLine) (h : ∀ s', Inv X pins σ H s' → Q .none s') :
    wpAny (model X.prog X.w) A (call (.builtin initId) (.ref a :: us)) Q E s := by
  obtain ⟨nm, q, N, bs, bm, sn, sub, ab, col, dd, k0, k1, k2, k3, k5, hC, hbm⟩ := T.cls
  obtain ⟨t1, ho⟩ := exo_at I.hok e
  obtain ⟨B, FB⟩ := XB.make
  obtain ⟨hp, g, d, t, os⟩ := s
  refine wpAny_call (PySem.HandSPX.init_base FB (fun Y => PySem.CR.refsTo_contains Y bm hbm) (I.kIn _ _ hC) ho hl fun h' t2 k hx => ?_)
  have J := I.write (t' := t) (x := a) (e := a) (o := exo a C none) (by rw [e]; exact True.intro) (.inl rfl) k ⟨_, hx⟩ (exo_ok hx)
  have eu : upd H a (exo a C none) = H := by
    funext b
    by_cases hb : b = a
    · rw [hb, upd_same, e]
    · rw [upd_ne hb]
  rw [eu] at J
  exact h _ J
end
/-! ### readings and rules -/
/-- Base.__init__(self, ..), Base an own class without __init__ of its own -/
def tXinit (K : PySem.W.Frag) (newId : String) (tl : List Value) (ta : TA) : TE := fun σ H Q => ta σ H fun vs H1 => ∃ (a C : Addr) (ws : List V), vs = .ref a :: ws ∧ ws.length ≤ 1000 ∧ OwnX K C newId tl ∧ H1 a = some (exo a C none) ∧ Q .non H1
/-- self.f = e, the first one -/
def tXst (K : PySem.W.Frag) (newId : String) (tl : List Value) (f : Str) (to te : TE) : TS := fun D σ H => te σ H fun y H1 => to σ H1 fun x H2 => ∃ a C : Addr, x = .ref a ∧ OwnX K C newId tl ∧ PySem.W.findIn K (.ref C) f = some none ∧
  H2 a = some (exo a C none) ∧ ∀ dx, H2 dx = none → dx ≠ a → D.nx σ (upd (upd H2 dx (exd dx [(f, y)])) a (exo a C (some dx)))
section
variable {X : Cx} {o e : Expr} {es : List Expr} {to te : TE} {ta : TA} {f x : Str} {p p' p1 p2 pos : Pos} {newId initId : String} {tl : List Value} {D C : Addr}
theorem pe_xinit {pl : Sem Bool} (XB : XBase newId initId tl) (hg : Gl X x) (hm : X.mg x = some (.ref D)) (hsp : PySem.W.specialIn X.K (.ref D) "__getattribute__" = some (some (.builtin "type.__getattribute__")))
    (hrd : PySem.W.readsIn X.K D (.type "type") = true) (hf : PySem.W.findCls X.K (.ref D) (.type "type") "__init__" = some (.val (.builtin initId))) (ha : PA X (e :: es) ta)
    (hdb : (x == ("__debug__" : Str)) = false := by decide)
    (hc : eval (.Call (.Attribute (.Name x p1) "__init__" p2) (e :: es) [] pos) X.env = (do
      let ov ← eval (.Name x p1) X.env
      standAt p2.atName
      let (f, first) ← holding [ov] (getMethod ov "__init__" pl)
      callWith pos f first (backTo pos (starEach (e :: es) X.env)) (backToKw pos (keywordEach [] X.env))) := by rfl)
    (he : starEach (e :: es) X.env = (false, eval e X.env) :: starEach es X.env := by rfl) (hpl : (backTo pos (starEach es X.env)).any (·.1) = false := by rfl) :
    PE X (.Call (.Attribute (.Name x p1) "__init__" p2) (e :: es) [] pos) (tXinit X.K newId tl ta) := by
  refine ⟨fun pins s σ H Q I h => ?_⟩
  refine PySem.W.methodCall_KW (ld_glob I hg hm ?_ hdb) hc
  refine PySem.W.method_cls I.kIn hsp (PySem.W.cls_value I.kIn hrd hf XB.hi ?_)
  show wpAny _ _ (callWith pos (Value.builtin initId) [] (backTo pos (starEach (e :: es) X.env)) []) _ _ _
  refine PyProof.Rows.callWith_method1 (thn (ha.run pos pins _ σ H _ (I.tok _) h) fun us s1 ⟨vs, H1, I1, r1, a, C, ws, ev, hl, T, ea, q⟩ => ?_) he hpl
  subst ev
  cases r1 with
  | @cons _ u0 _ ur ra rw' =>
    obtain rfl : u0 = Value.ref a := ra
    have hlen : ur.length ≤ sizeLine := by
      rw [← Paired.length rw', sizeLine_eq]
      omega
    exact xinit_ok XB T I1 ea hlen fun s' J => ⟨.non, H1, J, rfl, q⟩
theorem ps_xst (XB : XBase newId initId tl) (ho : PE X o to) (he : PE X e te) (hs : swapsWith e (some (.Attribute o f p')) pos.line X.env = pure false := by rfl) : PS X (.Assign [.Attribute o f p'] e pos) (tXst X.K newId tl f to te) := by
  refine ⟨fun pins s σ H D I h => ?_⟩
  refine plainObj_wpAny_Assign_Attribute (thn (he.run pins s σ H _ I h) fun v s1 ⟨y, H1, I1, r1, q1⟩ => thn (ho.run pins s1 σ H1 _ I1 q1) fun u s2 ⟨x, H2, I2, r2, a, C, ex, T, hno, ea, q⟩ => ?_) hs
  subst ex
  obtain rfl : u = Value.ref a := r2
  exact xst_new XB T I2 ea hno r1 fun dx s' n ne J => ⟨σ, _, J, q dx n ne⟩
theorem pmk_ownx {CX : CXT} {fI : Addr} {k : Nat} {fd : FuncData} {ps : List Str} {sp : Sp} {ds : List Value} {dvs : List V} (XB : XBase newId initId tl) (T : OwnX X.K C newId tl) (iC : PySem.W.findIn X.K (.ref C) "__init__" = some (some (.ref fI))) (tI : PySem.W.typeIn X.K (.ref fI) = some (.type "function"))
    (F1 : FnOk X.prog X.w X.K X.mg X.base CX k fI fd ps sp) (hr : Room (k + 1) X.A) (hb : Binds X.K fd ps ds) (hd : Vals dvs ds) (hx : Passes CX X (fun _ _ _ => False)) (hg : Gl X x) (hm : X.mg x = some (.ref C)) (ha : PA X (e :: es) ta)
    (hdb : (x == ("__debug__" : Str)) = false := by decide) (he : starEach (e :: es) X.env = (false, eval e X.env) :: starEach es X.env := by rfl) (hpl : (backTo pos (starEach es X.env)).any (·.1) = false := by rfl) :
    PMk X (.Call (.Name x p) (e :: es) [] pos) (tMkO C sp dvs ta) := by
  intro pins s σ H Q I h
  obtain ⟨nm, q, N, bs, bm, sn, sub, ab, col, dd, k0, k1, k2, k3, k5, hC, hbm⟩ := T.cls
  obtain ⟨B, FB⟩ := XB.make
  refine wpAny_Call_Name_kw (ld_glob I hg hm ?_ hdb)
  refine PySem.W.callWith_K (h₀ := X.base) I.ok.mod.kin T.kC (thn (ha.run pos pins s σ H _ I h) fun us s1 ⟨vs, H1, I1, r1, hz, q1⟩ => ⟨I1.kIn, ?_⟩) he hpl
  show wpAny _ _ (call (.ref C) us) _ _ _
  obtain ⟨hp, g, dr, tk, os⟩ := s1
  have hsz : hp.objs.size ≤ hp.objs.size + 1 := Nat.le_succ _
  have hn : H1 (hp.objs.size + 1) = none := I1.hok.fresh hsz
  have hq := q1 (hp.objs.size + 1) hn
  have kk : ∀ b o, hp.get? b = some o → ((hp.push (PySem.W.kdv_tup us)).push (PySem.HandSPX.excO C hp.objs.size)).get? b = some o := fun b o e => Heap.get?_push_of_some _ (Heap.get?_push_of_some _ e)
  have hget : ((hp.push (PySem.W.kdv_tup us)).push (PySem.HandSPX.excO C hp.objs.size)).get? (hp.objs.size + 1) = some (PySem.HandSPX.excO C hp.objs.size) := by heap_get
  have I2 : Inv X pins σ (upd H1 (hp.objs.size + 1) (exo (hp.objs.size + 1) C none)) ⟨(hp.push (PySem.W.kdv_tup us)).push (PySem.HandSPX.excO C hp.objs.size), g, dr, tk, os⟩ :=
    I1.laid (t' := tk) (a := hp.objs.size + 1) (o := exo (hp.objs.size + 1) C none) (h' := (hp.push (PySem.W.kdv_tup us)).push (PySem.HandSPX.excO C hp.objs.size)) kk hsz (exo_ok hget)
  have r2 : Vals (V.ref (hp.objs.size + 1) :: (vs ++ dvs)) (Value.ref (hp.objs.size + 1) :: (us ++ ds)) := .cons rfl (r1.append hd)
  have hl : (Value.ref (hp.objs.size + 1) :: us ++ ds).length = ps.length := by
    have e := r2.length
    rw [F1.len _ _ _ _ hq] at e
    exact e.symm
  have hus : us.length ≤ sizeLine := by
    rw [← Paired.length r1, sizeLine_eq]
    omega
  refine wpAny_call (PySem.HandSPX.call_own FB (fun Y => PySem.CR.refsTo_contains Y bm hbm) (I1.kIn _ _ hC) (PySem.W.looks_findIn I1.kIn iC) (fun self => PySem.W.bind_fn I1.kIn self tI) hus
    (codeAny_mono (F1.run _ X.stack _ _ ⟨Value.ref (hp.objs.size + 1) :: us, []⟩ (Value.ref (hp.objs.size + 1) :: (us ++ ds)) _ _ (fun _ _ _ => False) (hr.make C us []) (I2.env0.make C us []) (hb _ (Value.ref (hp.objs.size + 1) :: us) I2.kIn hl) r2 hq) fun r s' hq' => ?_))
  cases r with
  | error er => exact hx pins σ _ _ er s' I2 hq'
  | ok fl =>
    cases fl with
    | ret u =>
      obtain ⟨v, H2, os2, bare2, un2, hok2, rv, ev, d, fs, ea, ed, hd1, q2⟩ := hq'
      subst ev
      obtain ⟨h2, g2, d2, t2, os'⟩ := s'
      exact ⟨rv, mk_end (raises_own T.exC T.tyC) I1 hsz kk un2 hok2 os2 bare2 ea ed hd1 q2⟩
    | next => exact False.elim hq'
    | brk => exact False.elim hq'
    | cont => exact False.elim hq'
end
end L2
set_option Elab.async false
set_option linter.all false
set_option maxRecDepth 100000
set_option maxHeartbeats 4000000
/-! words of this claim: defs, methods and classes as data; the head's facts by one Bool -/
namespace L2
open PySem PySem.Spec PyProof.Rows
/-! ### callables -/
section
variable (P : Program) (w : World) (K : PySem.W.Frag) (mg : Str → Option Value) (base : Heap)
structure CalX (k : Nat) (x : Str) (sp : Sp) (dvs : List V) : Prop where
  ex : ∃ (f : Addr) (fd : FuncData) (ps : List Str) (ds : List Value), FnOk P w K mg base (L2.CX P w) k f fd ps sp ∧ mg x = some (.ref f) ∧ PySem.W.keepIn K (.ref f) = true ∧ Binds K fd ps ds ∧ Vals dvs ds
structure MetX (k : Nat) (C : Addr) (m : Str) (sp : Sp) (dvs : List V) : Prop where
  ex : ∃ (f : Addr) (fd : FuncData) (ps : List Str) (ds : List Value), FnOk P w K mg base (L2.CX P w) k f fd ps sp ∧ Cls K C ∧ Meth K C m f ∧ Binds K fd ps ds ∧ Vals dvs ds
structure MakX (k : Nat) (x : Str) (C : Addr) (sp : Sp) (dvs : List V) : Prop where
  ex : ∃ (f : Addr) (fd : FuncData) (ps : List Str) (ds : List Value), FnOk P w K mg base (L2.CX P w) k f fd ps sp ∧ Mk K C f ∧ mg x = some (.ref C) ∧ Binds K fd ps ds ∧ Vals dvs ds
/-- a def found by a special lookup on the class -/
structure SpeX (k : Nat) (C : Addr) (m : Str) (sp : Sp) : Prop where
  ex : ∃ (f : Addr) (fd : FuncData) (ps : List Str), FnOk P w K mg base (L2.CX P w) k f fd ps sp ∧ PySem.W.findIn K (.ref C) m = some (some (.ref f)) ∧ PySem.W.typeIn K (.ref f) = some (.type "function") ∧ Binds K fd ps []
end
section
variable {X : Cx} {k j : Nat} {x m : Str} {sp : Sp} {dvs : List V} {E : XK} {C : Addr} {p pos apos : Pos} {e o : Expr} {es : List Expr} {t : TA} {ta : TE}
theorem pe_cal (c : CalX X.prog X.w X.K X.mg X.base k x sp dvs) (hr : Room j X.A) (hk : k ≤ j) (hx : Passes (L2.CX X.prog X.w) X E) (hg : Gl X x) (ha : PA X (e :: es) t) (hdb : (x == ("__debug__" : Str)) = false := by decide)
    (he : starEach (e :: es) X.env = (false, eval e X.env) :: starEach es X.env := by rfl) (hpl : (backTo pos (starEach es X.env)).any (·.1) = false := by rfl) : PE X (.Call (.Name x p) (e :: es) [] pos) (tCall sp dvs E t) := by
  obtain ⟨f, fd, ps, ds, F, hm, hkp, hb, hd⟩ := c.ex
  exact pe_call F (hr.mono hk) hg hm hkp hb hd hx ha hdb he hpl
theorem pe_met {pl : Sem Bool} (c : MetX X.prog X.w X.K X.mg X.base k C m sp dvs) (hr : Room j X.A) (hk : k ≤ j) (hx : Passes (L2.CX X.prog X.w) X E) (hto : PE X o ta) (ha : PA X (e :: es) t)
    (he : starEach (e :: es) X.env = (false, eval e X.env) :: starEach es X.env := by rfl) (hpl : (backTo pos (starEach es X.env)).any (·.1) = false := by rfl)
    (ht : eval (.Call (.Attribute o m apos) (e :: es) [] pos) X.env = (do
      let ov ← eval o X.env
      standAt apos.atName
      let (f, first) ← holding [ov] (getMethod ov m pl)
      callWith pos f first (backTo pos (starEach (e :: es) X.env)) (backToKw pos (keywordEach [] X.env))) := by rfl) :
    PE X (.Call (.Attribute o m apos) (e :: es) [] pos) (tMeth C m sp dvs E ta t) := by
  obtain ⟨f, fd, ps, ds, F, cl, hm, hb, hd⟩ := c.ex
  exact pe_meth (pl := pl) hto cl hm F (hr.mono hk) hb hd hx ha he hpl ht
theorem pe_met0 {pl : Sem Bool} (c : MetX X.prog X.w X.K X.mg X.base k C m sp dvs) (hr : Room j X.A) (hk : k ≤ j) (hx : Passes (L2.CX X.prog X.w) X E) (hto : PE X o ta)
    (ht : eval (.Call (.Attribute o m apos) [] [] pos) X.env = (do
      let ov ← eval o X.env
      standAt apos.atName
      let (f, first) ← holding [ov] (getMethod ov m pl)
      callWith pos f first (backTo pos (starEach [] X.env)) (backToKw pos (keywordEach [] X.env))) := by rfl) :
    PE X (.Call (.Attribute o m apos) [] [] pos) (tMeth C m sp dvs E ta tNil) := by
  obtain ⟨f, fd, ps, ds, F, cl, hm, hb, hd⟩ := c.ex
  exact pe_meth0 (pl := pl) hto cl hm F (hr.mono hk) hb hd hx ht
theorem pe_mak (c : MakX X.prog X.w X.K X.mg X.base k x C sp dvs) (hr : Room j X.A) (hk : k + 1 ≤ j) (hx : Passes (L2.CX X.prog X.w) X E) (hg : Gl X x) (ha : PA X (e :: es) t) (hdb : (x == ("__debug__" : Str)) = false := by decide)
    (he : starEach (e :: es) X.env = (false, eval e X.env) :: starEach es X.env := by rfl) (hpl : (backTo pos (starEach es X.env)).any (·.1) = false := by rfl) : PE X (.Call (.Name x p) (e :: es) [] pos) (tMake C sp dvs E t) := by
  obtain ⟨f, fd, ps, ds, F, M, hm, hb, hd⟩ := c.ex
  exact pe_make M F (hr.mono hk) hg hm hb hd hx ha hdb he hpl
/-- a callee's run, in any around -/
theorem run_c {A : Around} {f : Addr} {fd : FuncData} {ps : List Str} {pins : List (Addr × Obj)} {σ : St} {H : Hp} {s : Shared} {Q : VK} {us : List Value} {vs : List V} (F : FnOk X.prog X.w X.K X.mg X.base (L2.CX X.prog X.w) k f fd ps sp) (hb : Binds X.K fd ps [])
    (hr : Room k A) (e0 : Env0 X.prog X.w X.K X.mg X.base A X.stack s H) (hx : Passes (L2.CX X.prog X.w) X E) (I : Inv X pins σ H s) (r : Vals vs us) (h : sp vs H Q E) :
    codeAny (model X.prog X.w) A (.call (.ref f) ⟨us, []⟩) (fun r s' => match r with | .ok (.ret v) => EP X pins σ Q v s' | .ok _ => False | .error e => X.xe e s') s := by
  have hl : (us ++ ([] : List Value)).length = ps.length := by
    rw [List.append_nil, ← r.length]
    exact F.len _ _ _ _ h
  have hbt := hb s us I.kIn hl
  rw [List.append_nil] at hbt
  refine codeAny_mono (F.run A X.stack s H ⟨us, []⟩ us vs Q E hr e0 hbt r h) fun r s' hq => ?_
  cases r with
  | error e => exact hx pins σ H s e s' I hq
  | ok fl =>
    cases fl with
    | ret u => exact I.after hq
    | next => exact False.elim hq
    | brk => exact False.elim hq
    | cont => exact False.elim hq
/-! ### len(x) by an own __len__ -/
def rLenO (C : Addr) (sp : Sp) (E : XK) : List V → Hp → VK → Prop := fun xs H Q => ∃ a dx fs, xs = [V.ref a] ∧ H a = some (.ins C dx fs) ∧ sp [.ref a] H (fun v H' => ∃ n : Nat, v = .int n ∧ n ≤ sizeLine ∧ Q (.int n) H') E
theorem call_lenO (c : SpeX X.prog X.w X.K X.mg X.base k C "__len__" sp) (hr : Room j X.A) (hk : k + 1 ≤ j) (hx : Passes (L2.CX X.prog X.w) X E) : CallR X (.builtin "len") (rLenO C sp E) := by
  obtain ⟨f, fd, ps, F, hs, ht, hb⟩ := c.ex
  intro pins s σ H xs us Q I r h
  obtain ⟨a, dx, fs, rfl, ea, q⟩ := h
  obtain ⟨u, rfl, ru⟩ := vals1 r
  cases (show u = Value.ref a from ru)
  obtain ⟨mA, O, _, _, _, _⟩ := ins_get I.hok ea
  obtain ⟨od, J, _⟩ := O.look
  have sp1 : PySem.W.Looks (model X.prog X.w) s.heap (specialOf (.ref a) "__len__") (some (.ref f)) := (J.type (M := model X.prog X.w)).andThen (PySem.W.looks_findIn I.kIn hs)
  have hsl : sizeLine = 16777216 := sizeLine_eq
  have hr1 : Room k X.A.in1 := Room.in1 (hr.mono (show k + 1 ≤ j from hk))
  refine Calls.call_function_entry kind_len plain_len entry_len (args_len1 _) ?_
  unfold Builtin.«len»
  refine wpAny_bind (m := oneArg "len" _) (wpAny_pure ?_)
  refine wpAny_bind (m := callSpecial? (.ref a) (PySem.Str.ofString "__len__")) ?_
  simp only [callSpecial?]
  refine wpAny_bind (sp1.here ?_)
  refine wpAny_holding (wpAny_bind ((PySem.W.bind_fn I.kIn (.ref a) ht).here ?_))
  refine wpAny_bind (wpAny_mono (wpAny_call (run_c (us := [.ref a]) (vs := [.ref a]) F hb hr1 I.env0.in1 hx I (.cons rfl .nil) q)) (fun v s' z => ?_) fun _ _ x => x)
  obtain ⟨v1, H1, I1, rv, n, ev, hn, q1⟩ := z
  subst ev
  obtain ⟨t, rfl⟩ := rv
  refine wpAny_pure ?_
  refine wpAny_bind (wpAny_holding (wpAny_pure ?_))
  refine wpAny_bind (wpAny_letGo ?_)
  show wpAny _ _ (if ((n : Nat) : Int) < 0 then _ else _) _ _ _
  rw [if_neg (by omega)]
  show wpAny _ _ (if ((n : Nat) : Int) ≥ 2 ^ 63 then _ else _) _ _ _
  rw [if_neg (by omega)]
  exact wpAny_bind (wpAny_mkInt (wpAny_pure ⟨_, rfl, .int n, H1, I1.tok _, ⟨_, rfl⟩, q1⟩))
/-! ### x op y by an own method of x -/
/-- the type of y, of whatever the heap knows of it -/
def rOwnI (K : PySem.W.Frag) (C : Addr) (sp : Sp) (E : XK) : R2 := fun x y H Q => ∃ a dx fs tb, x = .ref a ∧ H a = some (.ins C dx fs) ∧ TyOf K H y tb ∧ PySem.W.notFirst K C tb = true ∧ sp [x, y] H Q E
theorem cmpback' {P : Value → Shared → Prop} {z : V} {v : Value} {s' : Shared} (r : RelV z v) (h : P v s') : PySem.W.CmpBack P v s' := by
  cases z with
  | non => cases (show v = Value.none from r); exact h
  | bl b => cases (show v = Value.bool b from r); exact h
  | int i =>
    obtain ⟨t, e⟩ := (show ∃ t, v = Value.int i t from r)
    cases e
    exact h
  | str x =>
    obtain ⟨t, e⟩ := (show ∃ t, v = Value.str x t from r)
    cases e
    exact h
  | byt b =>
    obtain ⟨t, e⟩ := (show ∃ t, v = Value.bytes b t from r)
    cases e
    exact h
  | flt b =>
    obtain ⟨t, e⟩ := (show ∃ t, v = Value.float b t from r)
    cases e
    exact h
  | ref a => cases (show v = Value.ref a from r); exact h
  | ty n => cases (show v = Value.type n from r); exact h
theorem looksTy {pins : List (Addr × Obj)} {σ : St} {H : Hp} {s : Shared} {y : V} {u tb : Value} {M : Model} (I : Inv X pins σ H s) (ry : RelV y u) (t : TyOf X.K H y tb) : PySem.W.Looks M s.heap (typeOf u) tb := by
  cases t with
  | non => cases (show u = Value.none from ry); exact .of_pure rfl
  | bl b => cases (show u = Value.bool b from ry); exact .of_pure rfl
  | int i => obtain ⟨t, e⟩ := (show ∃ t, u = Value.int i t from ry); cases e; exact .of_pure rfl
  | str x => obtain ⟨t, e⟩ := (show ∃ t, u = Value.str x t from ry); cases e; exact .of_pure rfl
  | flt b => obtain ⟨t, e⟩ := (show ∃ t, u = Value.float b t from ry); cases e; exact .of_pure rfl
  | @lst a xs e =>
    cases (show u = Value.ref a from ry)
    obtain ⟨_, its, n, _, h⟩ := (show ObjOk X.prog X.w H s.heap a (.lst xs) from I.hok a _ e)
    exact fun A Q E s' k q => wpAny_typeOf_ref (k _ _ h) q
  | @frz a o xs e =>
    cases (show u = Value.ref a from ry)
    obtain ⟨_, _, its, n, _, h⟩ := (show ObjOk X.prog X.w H s.heap a (.frz o (.lst xs)) from I.hok a _ e)
    exact fun A Q E s' k q => wpAny_typeOf_ref (k _ _ h) q
  | @tup a xs e =>
    cases (show u = Value.ref a from ry)
    obtain ⟨_, _, _, o, h1, h2, _⟩ := (show ObjOk X.prog X.w H s.heap a (.tup xs) from I.hok a _ e)
    exact fun A Q E s' k q => wpAny_typeOf_ref (k _ _ h1) (by rw [h2]; exact q)
  | @dK a kvs e =>
    cases (show u = Value.ref a from ry)
    obtain ⟨_, _, vs, _, o, es, ep, h1, h2, _⟩ := (show ObjOk X.prog X.w H s.heap a (.dK kvs) from I.hok a _ e)
    exact fun A Q E s' k q => wpAny_typeOf_ref (k _ _ h1) (by rw [h2.1]; exact q)
  | @dT a kvs e =>
    cases (show u = Value.ref a from ry)
    obtain ⟨_, _, xs, _, o, es, ep, h1, h2, _⟩ := (show ObjOk X.prog X.w H s.heap a (.dT kvs) from I.hok a _ e)
    exact fun A Q E s' k q => wpAny_typeOf_ref (k _ _ h1) (by rw [h2.1]; exact q)
  | @ins a C dx fs e =>
    cases (show u = Value.ref a from ry)
    obtain ⟨mA, O, _, _, _, _⟩ := ins_get I.hok e
    obtain ⟨od, J, _⟩ := O.look
    exact J.type
theorem op_ownI {op : CmpOp} {m : Str} (hop : ∀ a b, compareOp op a b = richCompare op a b) (hm : (cmpInfo op).2.1 = m) (c : SpeX X.prog X.w X.K X.mg X.base k C m sp) (hr : Room j X.A) (hk : k ≤ j) (hx : Passes (L2.CX X.prog X.w) X E) :
    OpR X (compareOp op) (rOwnI X.K C sp E) := by
  obtain ⟨f, fd, ps, F, hs, ht, hb⟩ := c.ex
  subst hm
  intro pins s σ H x y v u Q I rx ry h
  obtain ⟨a, dx, fs, tb, rfl, ea, ty, hn, q⟩ := h
  cases (show v = Value.ref a from rx)
  obtain ⟨mA, O, _, _, _, _⟩ := ins_get I.hok ea
  obtain ⟨od, J, _⟩ := O.look
  obtain ⟨m, hF⟩ := I.fr
  have hrk : Room k X.A := hr.mono hk
  have hf : PySem.W.isFn X.K (.ref f) = true := by unfold PySem.W.isFn; rw [ht]; decide +kernel
  rw [hop]
  refine PySem.W.cmp_K (op := op) (tb := tb) hrk.units0 hF I.ok.mod.kin J (looksTy I ry ty) hn hs hf ?_
  refine wpAny_mono (wpAny_call (run_c (us := [.ref a, u]) (vs := [.ref a, y]) F hb hrk I.env0 hx I (.cons rfl (.cons ry .nil)) q)) (fun w s' z => ?_) fun _ _ x => x
  obtain ⟨z', H', I', rz, qz⟩ := z
  exact cmpback' rz ⟨z', H', I', rz, qz⟩
/-! ### == of two lists, two tuples, item by item; of two dicts -/
theorem depth_of {d : PyData} (h : SeqAt.shaped d = true) : d.depth ≤ 64 := by
  have z : (d.canLay0 && decide (d.depth ≤ 64)) = true := h
  exact of_decide_eq_true (Bool.and_eq_true_iff.mp z).2
/-- equal as items: the very same thing, or equal data -/
def EqI (K : PySem.W.Frag) (H : Hp) (x y : V) : Prop := (x = y ∧ (flatB x = true ∨ ∃ a, x = .ref a)) ∨ ∃ d e, Dp K H x d ∧ Dp K H y e ∧ SeqAt.shaped d = true ∧ SeqAt.shaped e = true ∧ PyData.eqv d e = true
theorem eqI_at {pins : List (Addr × Obj)} {σ : St} {H : Hp} {s : Shared} {A : Around} {x y : V} {u v : Value} (I : Inv X pins σ H s) (hu : A.units + 64 < cLine) (h : EqI X.K H x y) (rx : RelV x u) (ry : RelV y v) : SeqAt.EqAt A s u v true := by
  rcases h with ⟨rfl, f | ⟨a, rfl⟩⟩ | ⟨d, e, hd, he, sd, se, q⟩
  · exact eqAt_same rx ry f
  · cases (show u = Value.ref a from rx)
    cases (show v = Value.ref a from ry)
    exact SeqAt.EqAt.same _
  · obtain ⟨as, r1⟩ := Dp.reads I d x u hd rx
    obtain ⟨bs, r2⟩ := Dp.reads I e y v he ry
    have z := SeqAt.eqAt_reads d e A s u v as bs r1 r2 (SeqAt.canLay_of_shaped sd) (SeqAt.canLay_of_shaped se) (by have := depth_of sd; omega)
    rw [q] at z
    exact z
def rEqS (K : PySem.W.Frag) : R2 := fun x y H Q => ∃ a b xs ys, x = .ref a ∧ y = .ref b ∧ ((SqL K H a xs ∧ SqL K H b ys) ∨ (SqT K H a xs ∧ SqT K H b ys)) ∧ Paired (EqI K H) xs ys ∧ Q (.bl true) H
theorem pairedI {pins : List (Addr × Obj)} {σ : St} {H : Hp} {s : Shared} {A : Around} (I : Inv X pins σ H s) (hu : A.units + 64 < cLine) {xs ys : List V} (hp : Paired (EqI X.K H) xs ys) :
    ∀ {us ws : List Value}, Vals xs us → Vals ys ws → ∀ j (h1 : j < us.length) (h2 : j < ws.length), SeqAt.EqAt A s us[j] ws[j] true := by
  induction hp with
  | nil =>
    intro us ws r1 r2 j h1 h2
    cases r1
    exact absurd h1 (Nat.not_lt_zero j)
  | cons h _ k =>
    intro us ws r1 r2 j h1 h2
    cases r1 with
    | cons a1 b1 =>
      cases r2 with
      | cons a2 b2 =>
        cases j with
        | zero => exact eqI_at I hu h a1 a2
        | succ j => exact k b1 b2 j (Nat.lt_of_succ_lt_succ h1) (Nat.lt_of_succ_lt_succ h2)
theorem rc_eqS {pins : List (Addr × Obj)} {σ : St} {H : Hp} {s : Shared} (hu : X.A.units + 66 < cLine) {x y : V} {v u : Value} (I : Inv X pins σ H s) (rx : RelV x v) (ry : RelV y u)
    (h : ∃ a b xs ys, x = .ref a ∧ y = .ref b ∧ ((SqL X.K H a xs ∧ SqL X.K H b ys) ∨ (SqT X.K H a xs ∧ SqT X.K H b ys)) ∧ Paired (EqI X.K H) xs ys) : SeqAt.RcAt X.A s v u true := by
  obtain ⟨a, b, xs, ys, rfl, rfl, hs, hp⟩ := h
  cases (show v = Value.ref a from rx)
  cases (show u = Value.ref b from ry)
  have hl := Paired.length hp
  rcases hs with ⟨ha, hb⟩ | ⟨ha, hb⟩
  · obtain ⟨us, r1, p1, _⟩ := I.list ha
    obtain ⟨ws, r2, p2, _⟩ := I.list hb
    have l1 := r1.length
    have l2 := r2.length
    have z := SeqAt.RcAt.lists (A := X.A) (s := s) (e := fun _ => true) p1.isList p2.isList (by simp; omega) (by omega) (fun j h1 h2 => by
      have q := pairedI (A := X.A.in1) I (by show X.A.units + 1 + 64 < cLine; omega) hp r1 r2 j (by simpa using h1) (by simpa using h2)
      simpa using q)
    rw [show ((List.range us.toArray.size).all fun _ => true) = true from List.all_eq_true.mpr fun _ _ => rfl] at z
    exact z
  · obtain ⟨us, r1, p1, _⟩ := I.tuple ha
    obtain ⟨ws, r2, p2, _⟩ := I.tuple hb
    have l1 := r1.length
    have l2 := r2.length
    have z := SeqAt.RcAt.tuples (A := X.A) (s := s) (e := fun _ => true) (show s.heap.IsTuple a us.toArray from p1) (show s.heap.IsTuple b ws.toArray from p2) (by omega) (fun j h1 h2 => by
      have q := pairedI (A := X.A.in1) I (by show X.A.units + 1 + 64 < cLine; omega) hp r1 r2 j (by simpa using h1) (by simpa using h2)
      simpa using q)
    have e : ((List.range (min us.toArray.size ws.toArray.size)).all (fun _ => true) && us.toArray.size == ws.toArray.size) = true := by
      rw [show ((List.range (min us.toArray.size ws.toArray.size)).all fun _ => true) = true from List.all_eq_true.mpr fun _ _ => rfl]
      simp; omega
    rw [e] at z
    exact z
theorem op_eqS (hu : X.A.units + 66 < cLine) : OpR X (compareOp .Eq) (rEqS X.K) := by
  intro pins s σ H x y v u Q I rx ry h
  obtain ⟨a, b, xs, ys, e1, e2, hs, hp, q⟩ := h
  exact rc_eqS hu I rx ry ⟨a, b, xs, ys, e1, e2, hs, hp⟩ X.prog X.w X.xe _ ⟨.bl true, H, I, rfl, q⟩
/-- dicts by keys, their values data: whether all are equal -/
inductive HitsD (K : PySem.W.Frag) (H : Hp) (ls : List (Key × V)) : List (Key × V) → Bool → Prop
  | nil : HitsD K H ls [] true
  | cons {k : Key} {v u : V} {d e : PyData} {r : List (Key × V)} {b : Bool} : valV ls k = some u → Dp K H v d → Dp K H u e → SeqAt.shaped d = true → SeqAt.shaped e = true → HitsD K H ls r b → HitsD K H ls ((k, v) :: r) (PyData.eqv d e && b)
theorem hitsD_run {pins : List (Addr × Obj)} {σ : St} {H : Hp} {s : Shared} {A : Around} (I : Inv X pins σ H s) (hu : A.units + 64 < cLine) {ls : List (Key × V)} {vb : List (Key × Value)} (rb : KV ls vb) {ks : List (Key × V)} {r : Bool} (h : HitsD X.K H ls ks r) :
    ∀ {va : List (Key × Value)}, KV ks va → PySem.W.KeqHitsP X.prog X.w A s vb va r := by
  induction h with
  | nil =>
    intro va ra
    cases ra
    exact .nil
  | cons hv hd he sd se _ ih =>
    intro va ra
    cases ra with
    | @cons p q ps qs h t =>
      obtain ⟨h1, h2⟩ := h
      rename_i k v u d e r b _
      have rr : RelO (some u) (valueAt vb k) := by rw [← hv]; exact rb.val k
      obtain ⟨y, hy, ry⟩ := rr.some_of
      obtain ⟨key, vq⟩ := q
      have h1' : k = key := h1
      subst h1'
      obtain ⟨as, q1⟩ := Dp.reads I d v vq hd h2
      obtain ⟨bs, q2⟩ := Dp.reads I e u y he ry
      have z := SeqAt.eqAt_reads d e A s vq y as bs q1 q2 (SeqAt.canLay_of_shaped sd) (SeqAt.canLay_of_shaped se) (by have := depth_of sd; omega)
      exact .hit hy z.eqP (ih t)
def rEqDi (K : PySem.W.Frag) (neg : Bool) : R2 := fun x y H Q => ∃ a b ks ls r, x = .ref a ∧ y = .ref b ∧ H a = some (.dK ks) ∧ H b = some (.dK ls) ∧ HitsD K H ls ks r ∧ Q (.bl (ks.length == ls.length && r)) H
theorem op_eqDi (hu : X.A.units + 66 < cLine) : OpR X (compareOp .Eq) (rEqDi X.K false) := by
  intro pins s σ H x y v u Q I rx ry h
  obtain ⟨a, b, ks, ls, r, rfl, rfl, ha, hb, hh, q⟩ := h
  cases (show v = Value.ref a from rx)
  cases (show u = Value.ref b from ry)
  obtain ⟨_, ya, va, ra, da⟩ := (show ObjOk X.prog X.w H s.heap a (.dK ks) from I.hok a _ ha)
  obtain ⟨_, yb, vb, rb, db⟩ := (show ObjOk X.prog X.w H s.heap b (.dK ls) from I.hok b _ hb)
  refine PySem.W.rcP_dicts (knd := mixKind X.prog X.w) (r := r) ya yb da db (by omega) (fun _ => hitsD_run (A := X.A.in1) I (by show X.A.units + 1 + 64 < cLine; omega) rb hh ra) X.xe _ ?_
  have e1 : va.length = ks.length := (Paired.length ra).symm
  have e2 : vb.length = ls.length := (Paired.length rb).symm
  rw [e1, e2]
  exact ⟨.bl (ks.length == ls.length && r), H, I, rfl, q⟩
end
end L2
set_option Elab.async false
set_option linter.all false
set_option maxRecDepth 100000
set_option maxHeartbeats 4000000
/-! try with several clauses, each over a class or a tuple of classes, with or without a name -/
namespace L2
open PySem PySem.Spec PyProof.Rows
@[reducible] def dAs (oi : Option Nat) (D : Ends) : Ends := match oi with
  | none => D
  | some i => { nx := fun σ' H' => D.nx (σ'.set i none) H', rt := D.rt, bk := fun σ' H' => D.bk (σ'.set i none) H', ct := fun σ' H' => D.ct (σ'.set i none) H' }
@[reducible] def sAs (oi : Option Nat) (a : Addr) (σ : St) : St := match oi with
  | none => σ
  | some i => σ.set i (some (.ref a))
abbrev ClG : Type := (Value → Option Bool) × Option Nat × (Addr → Obj → List (Addr × Obj) → Value → Option Addr → TS)
/-- what the clauses wish, one behind another -/
def wG (Wout : WX) (D : Ends) : List ClG → WX
  | [] => Wout
  | (m, oi, ts) :: r => fun cls d σ H => ∃ b, m cls = some b ∧ (b = true → ∀ a, H a = none → ∀ oe pn, ts a oe pn cls d (dAs oi D) (sAs oi a σ) H) ∧ (b = false → wG Wout D r cls d σ H)
/-- a clause's class or tuple of classes, looked at -/
def TestX (X : Cx) (t : Expr) (mt : Value → Option Bool) : Prop := ∀ (a : Addr) (oe : Obj) (pn : List (Addr × Obj)) (σ : St) (H : Hp) (s : Shared) (cls : Value) (b : Bool) (A : Around) (Q : Bool → Shared → Prop) (E : Value → Shared → Prop),
  Inv (X.suite a ((a, oe) :: pn)) [] σ H s → PySem.W.Looks (model X.prog X.w) s.heap (typeOf (.ref a)) cls → mt cls = some b → (∀ h', (∀ q o, s.heap.get? q = some o → h'.get? q = some o) → Q b { s with heap := h' }) →
  wpAny (model X.prog X.w) A (eval t X.env) (fun c s₁ => wpAny (model X.prog X.w) A (excMatches (.ref a) c) Q E s₁) E s
theorem ld_names {X : Cx} {x : Str} {c : Value} {a : Addr} {oe : Obj} {pn : List (Addr × Obj)} {σ : St} {H : Hp} {s : Shared} {A : Around} {np : Pos} {Q : Value → Shared → Prop} {E : Value → Shared → Prop} (n : Names X x c) (S : Inv (X.suite a ((a, oe) :: pn)) [] σ H s) (q : Q c s) :
    wpAny (model X.prog X.w) A (eval (.Name x np) X.env) Q E s := by
  obtain ⟨hg, hdbg, hm | ⟨hm, hv, hnn⟩⟩ := n
  · exact Calls.Name_function_global S.ok.kind hg (Calls.loadGlobal_global (by rw [S.ok.glob]; exact S.mod.glob.keeps S.bk) hm q) hdbg
  · obtain ⟨mb, h1, h2⟩ := S.mod.blt
    exact Calls.Name_function_global S.ok.kind hg (Calls.loadGlobal_builtin (by rw [S.ok.glob]; exact S.mod.glob.keeps S.bk) hm (by rw [S.ok.blt]; exact h1.keeps S.bk) ((h2 x hnn).trans hv) q) hdbg
theorem test_one {X : Cx} {x : Str} {c : Value} {np : Pos} (n : Names X x c) : TestX X (.Name x np) (fun cls => PySem.W.exmOne X.K cls c) := fun a oe pn σ H s cls b A Q E S LT hb q =>
  ld_names n S ((PySem.W.exm_one (M := model X.prog X.w) S.kIn LT hb).here (q s.heap fun _ _ z => z))
theorem test_three {X : Cx} {x1 x2 x3 : Str} {c1 c2 c3 : Value} {p1 p2 p3 tpos : Pos} {kk : Nat} (n1 : Names X x1 c1) (n2 : Names X x2 c2) (n3 : Names X x3 c3) :
    TestX X (.Tuple [.Name x1 p1, .Name x2 p2, .Name x3 p3] kk tpos) (fun cls => PySem.W.exmAny X.K cls [c1, c2, c3]) := fun a oe pn σ H s cls b A Q E S LT hb q => by
  refine wpAny_Tuple ?_
  refine wpAny_items_cons (ld_names n1 S ?_)
  refine wpAny_items_cons (ld_names n2 S ?_)
  refine wpAny_items_cons (ld_names n3 S ?_)
  refine wpAny_items_nil ⟨by size_fits, ?_⟩
  have kp : ∀ q o, s.heap.get? q = some o → (s.heap.push { cls := .type "tuple", data := .seq [c1, c2, c3].toArray }).get? q = some o := fun _ _ z => Heap.get?_push_of_some _ z
  exact (PySem.W.exm_tup3 (S.kIn.keeps kp) (LT.keeps kp) (Heap.get?_push_size s.heap rfl) hb).here (q _ kp)
theorem test_two {X : Cx} {x1 x2 : Str} {c1 c2 : Value} {p1 p2 tpos : Pos} {kk : Nat} (n1 : Names X x1 c1) (n2 : Names X x2 c2) :
    TestX X (.Tuple [.Name x1 p1, .Name x2 p2] kk tpos) (fun cls => PySem.W.exmAny X.K cls [c1, c2]) := fun a oe pn σ H s cls b A Q E S LT hb q => by
  refine wpAny_Tuple ?_
  refine wpAny_items_cons (ld_names n1 S ?_)
  refine wpAny_items_cons (ld_names n2 S ?_)
  refine wpAny_items_nil ⟨by size_fits, ?_⟩
  have kp : ∀ q o, s.heap.get? q = some o → (s.heap.push { cls := .type "tuple", data := .seq [c1, c2].toArray }).get? q = some o := fun _ _ z => Heap.get?_push_of_some _ z
  exact (PySem.W.exm_tup2 (S.kIn.keeps kp) (LT.keeps kp) (Heap.get?_push_size s.heap rfl) hb).here (q _ kp)
inductive HdG (X : Cx) : List ExceptHandler → List ClG → Prop
  | nil : HdG X [] []
  | plain {t : Expr} {m : Value → Option Bool} {ts : Addr → Obj → List (Addr × Obj) → Value → Option Addr → TS} {b₀ : Stmt} {suite : List Stmt} {pos' : Pos} {hds : List ExceptHandler} {l : List ClG} (ht : TestX X t m)
      (hsu : ∀ (a : Addr) (oe : Obj) (cls : Value) (d : Option Addr) (pn : List (Addr × Obj)), Zc cls d oe → (∃ vs, oe.data = .fields vs) → PSs (X.suite a ((a, oe) :: pn)) (b₀ :: suite) (ts a oe pn cls d)) (r : HdG X hds l) :
      HdG X (.ExceptHandler (some t) none (b₀ :: suite) pos' :: hds) ((m, none, ts) :: l)
  | named {t : Expr} {m : Value → Option Bool} {ts : Addr → Obj → List (Addr × Obj) → Value → Option Addr → TS} {b₀ : Stmt} {suite : List Stmt} {n : Str} {i : Nat} {pos' : Pos} {hds : List ExceptHandler} {l : List ClG} (ht : TestX X t m) (hN : X.N.Nodup) (hi : X.N[i]? = some n) (hln : X.env.kindOf n = some .local)
      (hsu : ∀ (a : Addr) (oe : Obj) (cls : Value) (d : Option Addr) (pn : List (Addr × Obj)), Zc cls d oe → (∃ vs, oe.data = .fields vs) → PSs (X.suite a ((a, oe) :: pn)) (b₀ :: suite) (ts a oe pn cls d)) (r : HdG X hds l) :
      HdG X (.ExceptHandler (some t) (some n) (b₀ :: suite) pos' :: hds) ((m, some i, ts) :: l)
theorem flying_keeps {B : Heap} {l : List Env} {e : Addr} {Z : Obj → Prop} {h h' : Heap} (f : HandSPX.FlyingZ B l e Z h) (k : ∀ b o, h.get? b = some o → h'.get? b = some o) : HandSPX.FlyingZ B l e Z h' := by
  obtain ⟨k1, k2, k3, oe, vs, T, oT, ts, he, hz, hd, h1, h2, h3, h4, h5, h6⟩ := f
  exact ⟨fun b o z => k b o (k1 b o z), k2, Heap.FunFrames.of_keeps (fun b o z _ => ⟨o, k b o z, rfl⟩) k3, oe, vs, T, oT, ts, k _ _ he, hz, hd, h1, h2, h3, k _ _ h4, h5, h6⟩
section
variable {X : Cx} {body : List Stmt} {h₀ : ExceptHandler} {hds : List ExceptHandler} {l : List ClG} {pos : Pos} {tb : WX → List (Addr × Obj) → (Value → Shared → Prop) → TS} {Wout : WX}
theorem ps_tryG (hs : X.stack = X.env :: X.outer) (hf : X.env.frame = some X.env.locals) (tk : Takes X Wout)
    (hb : ∀ (W : WX) (pn : List (Addr × Obj)) (xe : Value → Shared → Prop), Takes (X.tr pn xe) W → PassesOwn (model X.prog X.w) X.A X.env xe → PSs (X.tr pn xe) body (tb W pn xe))
    (hh : HdG X (h₀ :: hds) l) : PS X (.Try body (h₀ :: hds) [] [] pos) (fun D σ H => ∀ pn xe, tb (wG Wout D l) pn xe D σ H) := by
  refine ⟨fun pins s σ H D I h => ?_⟩
  have ok := I.ok
  have hfr : X.A.frames = some (X.env :: X.outer) := by rw [ok.frames, hs]
  refine wpAny_Try_except ?_
  refine wpAny_mono ((hb (wG Wout D l) (X.pn ++ pins) (fun e s₁ => wpAny (model X.prog X.w) X.A (noteFrame e X.env) (fun _ s₂ => wpAny (model X.prog X.w) X.A (setFlight e none) (fun _ s₃ =>
    wpAny (model X.prog X.w) X.A (handleBy e X.env (h₀ :: hds)) (SP X pins D) X.xe s₃) X.xe s₂) X.xe s₁) (fun u s' xx => ?_) PassesOwn.looking).run [] s σ H D (I.toTry _) (h _ _)) (fun f s1 hsp => ?_) (fun e s1 he => he)
  · -- the catch
    obtain ⟨a, B, sI, pins', σ', H', cls, d, rfl, J', nb, up, sky, na, os, ag, w⟩ := xx
    have J : Inv X pins σ' H' sI := J'.ofTry ok
    have sky' : Sky B (X.env :: X.outer) a (Zc cls d) X.env.locals s'.heap := by rw [← hs]; exact sky
    show wpAny (model X.prog X.w) X.A (noteFrame (.ref a) X.env) _ _ _
    refine Sky.land Zc.steady hfr hf sky' fun h3 fl3 up3 => ?_
    have go : ∀ {hds' : List ExceptHandler} {l' : List ClG}, HdG X hds' l' → ∀ h3, HandSPX.FlyingZ B (X.env :: X.outer) a (Zc cls d) h3 → s'.heap.UpToSlots h3 → wG Wout D l' cls d σ' H' →
        wpAny (model X.prog X.w) X.A (handleBy (.ref a) X.env hds') (SP X pins D) X.xe { s' with heap := h3 } := by
      intro hds' l' hk
      have pre : ∀ h3, HandSPX.FlyingZ B (X.env :: X.outer) a (Zc cls d) h3 → s'.heap.UpToSlots h3 → ∃ oe vs, Inv (X.suite a ((a, oe) :: (X.pn ++ pins))) [] σ' H' { s' with heap := h3 } ∧ Zc cls d oe ∧ oe.data = .fields vs ∧ h3.get? a = some oe := by
        intro h3 fl3 up3
        have J3 : Inv X pins σ' H' { s' with heap := h3 } := J.landed nb fl3.1 (up.trans up3) os ag
        obtain ⟨oe3, vs3, he3, hz3, hd3⟩ := fl3.there
        have nfr : a ∉ frs (X.env :: X.outer) := fun hm => by
          obtain ⟨_, o', e', hnf⟩ := fl3.2.2.1.mem hm
          rw [he3] at e'; cases e'
          exact hnf _ hd3
        have nL : a ≠ X.env.locals := fun z => nfr (List.mem_filterMap.mpr ⟨X.env, List.mem_cons_self, by rw [hf, z]⟩)
        have nF : a ∉ X.fs := fun hm => by
          obtain ⟨e, he, q⟩ := List.mem_filterMap.mp hm
          exact nfr (List.mem_filterMap.mpr ⟨e, List.mem_cons_of_mem _ he, q⟩)
        exact ⟨oe3, vs3, J3.suite he3 hd3 na nL nF, hz3, hd3, he3⟩
      have looksT : ∀ {h3 : Heap} {oe : Obj}, Zc cls d oe → h3.get? a = some oe → PySem.W.Looks (model X.prog X.w) h3 (typeOf (.ref a)) cls := fun hz he A Q E s k q => wpAny_typeOf_ref (k _ _ he) (by rw [hz.1]; exact q)
      induction hk with
      | nil =>
        intro h3 fl3 up3 w
        refine wpAny_handleBy_nil ?_
        obtain ⟨k1, k2, k3, oe, vs, T, oT, ts', he, hz, hd, h1, hr⟩ := id fl3
        unfold PySem.passOn
        refine wpAny_bind (wpAny_field he hd h1 ?_)
        rw [if_neg (show ¬ ((Value.ref T == Value.none) = true) from by simp)]
        have fin : wpAny (model X.prog X.w) X.A (setFlight (.ref a) X.env.frame) (fun _ s4 => wpAny (model X.prog X.w) X.A (throw (.ref a) : Sem Flow) (SP X pins D) X.xe s4) X.xe { s' with heap := h3 } := by
          rw [hf]
          refine HandSPX.setFlight_upZ fl3 fun h4 hh4 up4 => wpAny_throw (tk _ _ ?_)
          exact ⟨a, B, sI, pins, σ', H', cls, d, rfl, J, nb, (up.trans up3).trans up4, .inr (.inr (by rw [hs]; exact hh4)), na, os, ag, w⟩
        first
          | exact wpAny_bind (wpAny_pure (wpAny_bind fin))
          | exact wpAny_bind fin
      | @plain t m ts b₀ suite pos' hds2 l2 ht hsu r ih =>
        intro h3 fl3 up3 w
        obtain ⟨b, hb1, hyes, hno⟩ := w
        obtain ⟨oe3, vs3, S3, hz3, hd3, he3⟩ := pre h3 fl3 up3
        refine wpAny_handleBy_cons (codeAny_handlers_test ?_) (by intro q; cases q)
        refine ht a oe3 (X.pn ++ pins) σ' H' { s' with heap := h3 } cls b _ _ _ S3 (looksT hz3 he3) hb1 fun h5 k5 => ?_
        have fl5 := flying_keeps fl3 k5
        have up5 : s'.heap.UpToSlots h5 := up3.trans (Heap.UpToSlots.of_keeps k5)
        cases b with
        | true =>
          refine codeAny_handlers_suite ?_
          refine HandSPX.lands_againZ fl5 fun h4 fl4 up4 => ?_
          obtain ⟨oe4, vs4, S4, hz4, hd4, he4⟩ := pre h4 fl4 (up5.trans up4)
          refine wpAny_mono ((hsu a oe4 cls d (X.pn ++ pins) hz4 ⟨_, hd4⟩).run [] _ _ H' _ S4 (hyes rfl a na oe4 (X.pn ++ pins))) (fun f s6 hsp => ?_) (fun _ _ z => False.elim z)
          cases f with
          | next =>
            obtain ⟨σ6, H6, S6, q6⟩ := hsp
            exact ⟨_, _, S6.unsuite ok, q6⟩
          | brk =>
            obtain ⟨σ6, H6, S6, q6⟩ := hsp
            exact ⟨_, _, S6.unsuite ok, q6⟩
          | cont =>
            obtain ⟨σ6, H6, S6, q6⟩ := hsp
            exact ⟨_, _, S6.unsuite ok, q6⟩
          | ret u =>
            obtain ⟨v6, σ6, H6, S6, r6, q6⟩ := hsp
            exact ⟨_, _, _, S6.unsuite ok, r6, q6⟩
        | false =>
          show wpAny _ X.A (handleBy (.ref a) X.env hds2) _ _ _
          exact ih h5 fl5 up5 (hno rfl)
      | @named t m ts b₀ suite n i pos' hds2 l2 ht hN hi hln hsu r ih =>
        intro h3 fl3 up3 w
        obtain ⟨b, hb1, hyes, hno⟩ := w
        obtain ⟨oe3, vs3, S3, hz3, hd3, he3⟩ := pre h3 fl3 up3
        have hloc : Loc X.env.scope n := .inl hln
        refine wpAny_handleBy_cons (codeAny_handlers_test ?_) (by intro q; cases q)
        refine ht a oe3 (X.pn ++ pins) σ' H' { s' with heap := h3 } cls b _ _ _ S3 (looksT hz3 he3) hb1 fun h5 k5 => ?_
        have fl5 := flying_keeps fl3 k5
        have up5 : s'.heap.UpToSlots h5 := up3.trans (Heap.UpToSlots.of_keeps k5)
        cases b with
        | true =>
          refine codeAny_handlers_suite_as ?_
          refine HandSPX.lands_againZ fl5 fun h4 fl4 up4 => ?_
          obtain ⟨oe4, vs4, S4, hz4, hd4, he4⟩ := pre h4 fl4 (up5.trans up4)
          refine store_ok (X := X.suite a ((a, oe4) :: (X.pn ++ pins))) (v := .ref a) S4 hN hi hloc rfl (fun s5 S5 => ?_) (.inr hln)
          refine wpAny_mono ((hsu a oe4 cls d (X.pn ++ pins) hz4 ⟨_, hd4⟩).run [] s5 _ H' _ S5 (hyes rfl a na oe4 (X.pn ++ pins))) (fun f s6 hsp => ?_) (fun _ _ z => False.elim z)
          have end_ : ∀ {σ6 : St} {H6 : Hp} {Q : Shared → Prop}, Inv (X.suite a ((a, oe4) :: (X.pn ++ pins))) [] σ6 H6 s6 → (∀ s7, Inv X pins (σ6.set i none) H6 s7 → Q s7) →
              wpAny (model X.prog X.w) X.A (do bindName X.env n .none; unbindBehindTheSuite X.env n pos') (fun _ s7 => Q s7) X.xe s6 := fun {σ6 H6 Q} S6 hq => gone_ok (S6.unsuite ok) hN hi hln hq
          cases f with
          | next =>
            obtain ⟨σ6, H6, S6, q6⟩ := hsp
            exact end_ S6 fun s7 J7 => ⟨_, _, J7, q6⟩
          | brk =>
            obtain ⟨σ6, H6, S6, q6⟩ := hsp
            exact end_ S6 fun s7 J7 => ⟨_, _, J7, q6⟩
          | cont =>
            obtain ⟨σ6, H6, S6, q6⟩ := hsp
            exact end_ S6 fun s7 J7 => ⟨_, _, J7, q6⟩
          | ret u =>
            obtain ⟨v6, σ6, H6, S6, r6, q6⟩ := hsp
            exact end_ S6 fun s7 J7 => ⟨_, _, _, J7, r6, q6⟩
        | false =>
          show wpAny _ X.A (handleBy (.ref a) X.env hds2) _ _ _
          exact ih h5 fl5 up5 (hno rfl)
    exact go hh h3 fl3 up3 w
  · cases f with
    | next =>
      obtain ⟨σ', H', J', q⟩ := hsp
      exact wpAny_execs_nil ⟨σ', H', J'.ofTry ok, q⟩
    | brk =>
      obtain ⟨σ', H', J', q⟩ := hsp
      exact ⟨σ', H', J'.ofTry ok, q⟩
    | cont =>
      obtain ⟨σ', H', J', q⟩ := hsp
      exact ⟨σ', H', J'.ofTry ok, q⟩
    | ret u =>
      obtain ⟨v, σ', H', J', r, q⟩ := hsp
      exact ⟨v, σ', H', J'.ofTry ok, r, q⟩
end
end L2
set_option Elab.async false
set_option linter.all false
set_option maxRecDepth 100000
set_option maxHeartbeats 4000000
/-! a caught error of an own class: isinstance, its field -/
namespace PySem.W
open PySem PySem.Spec PySem.Calls PyProof.Rows
section
variable {prog : Program} {w : World} {A : Around} {E : Value → Shared → Prop} {s : Shared} {K : Frag} {x D : Addr} {ox : Obj} {od : Option Obj}
theorem cx_class {Q : Option Value → Shared → Prop} (hga : findIn K (.ref D) "__getattribute__" = some (some (.builtin "BaseException.__getattribute__"))) (hgt : findIn K (.ref D) "__getattr__" = some none) (hsub : subIn K (.ref D) (.type "BaseException") = some true)
    (hf : findObj K D od "__class__" = some (.bind (.builtin "getset_descriptor.__get__") (.builtin "object.__class__"))) (hm : mroIn K D (.type "object") = some true)
    (X : K.In s.heap) (I : InstAt s.heap x ox D od) (h : Q (some (.ref D)) { s with toks := s.toks + 1 }) : wpAny (model prog w) A (getAttr? (.ref x) "__class__") Q E s := by
  obtain ⟨hp, g, d, t, os⟩ := s
  have L0 := I.type (M := model prog w)
  have L1 := looks_findIn (M := model prog w) X hga
  have L2 := looks_findIn (M := model prog w) X hgt
  have L3 := looks_find (M := model prog w) X I hf
  have sub : Looks (model prog w) hp (isInstance (.ref x) (.type "BaseException")) true := L0.andThen (looks_subIn X hsub)
  have hx0 : (false && onTheHeap (Value.builtin "BaseException.__getattribute__")) = false := rfl
  have hx2 : (Value.builtin "BaseException.__getattribute__" == Value.builtin "object.__getattribute__") = false := by decide +kernel
  have hx1 : (onTheHeap (Value.ref D) && Value.builtin "BaseException.__getattribute__" == Value.builtin "object.__getattribute__") = false := by rw [hx2]; rfl
  unfold getAttr? getAttrBy? getAttrBy
  refine wpAny_bind (wpAny_mkText (wpAny_bind (wpAny_attempt (wpAny_holding (wpAny_bind (L0.at (wpAny_bind (L1.at ?_))))))))
  show wpAny _ _ (if (onTheHeap (Value.ref D) && Value.builtin "BaseException.__getattribute__" == Value.builtin "object.__getattribute__") = true then _ else _) _ _ _
  rw [hx1, if_neg Bool.false_ne_true]
  unfold getAttrByItsOwn hookBefore
  refine wpAny_bind ?_
  rw [if_pos (show onTheHeap (Value.ref D) = true from rfl)]
  refine L2.at ?_
  refine wpAny_bind (wpAny_attempt (wpAny_holding ?_))
  unfold callGetattribute
  rw [hx0, if_neg Bool.false_ne_true]
  unfold boundAndCalled
  rw [PySem.F.excAttr_ValueError.ga.bind (.ref x)]
  refine wpAny_bind (wpAny_pure ?_)
  show wpAny _ _ (call (.builtin "BaseException.__getattribute__") [.ref x, .str "__class__" t]) _ _ _
  refine wpAny_call (codeAny_call_builtin PySem.F.excAttr_ValueError.ga.plain PySem.F.entry_bexc_ga ?_)
  refine @check_slot (model prog w) _ _ ⟨hp, g, d, t + 1, os⟩ "BaseException.__getattribute__" "BaseException" "__getattribute__" (.ref x) [.str "__class__" t] [] _ (by decide +kernel) (by decide +kernel) sub (PySem.F.args_bexc_ga (.ref x) (.str "__class__" t)) ?_
  unfold Builtin.«object.__getattribute__»
  refine wpAny_bind (wpAny_of_eq (a := ((Value.ref x : Value), [Value.str "__class__" t])) (by first | rfl | (simp only [slotArgs]; rfl)) ?_)
  refine wpAny_bind (wpAny_pure (wpAny_bind (L0.at (wpAny_bind (L3.at ?_)))))
  show wpAny _ _ (holding [Value.builtin "object.__class__"] (call (.builtin "getset_descriptor.__get__") [.builtin "object.__class__", .ref x, .ref D]) >>= ret) _ _ _
  refine wpAny_bind (wpAny_holding (wpAny_call (class_get (s := ⟨hp, g, d, t + 1, os⟩) (ox := ox) (od := od) X I hm ?_)))
  refine wpAny_pure ?_
  show wpAny _ _ (handedOut (.ref D)) _ _ _
  rw [handedOut_of (v := .ref D) rfl]
  first
    | exact wpAny_pure (wpAny_pure h)
    | exact wpAny_pure h
    | exact wpAny_pure (wpAny_bind (wpAny_pure (wpAny_pure h)))
theorem cx_kitx (hga : findIn K (.ref D) "__getattribute__" = some (some (.builtin "BaseException.__getattribute__"))) (hgt : findIn K (.ref D) "__getattr__" = some none) (hsub : subIn K (.ref D) (.type "BaseException") = some true) (hdct : hasDictIn K D = true)
    (hf : findObj K D od "__class__" = some (.bind (.builtin "getset_descriptor.__get__") (.builtin "object.__class__"))) (hm : mroIn K D (.type "object") = some true) :
    KitX K (.ref x) (.ref D) (fun h => InstAt h x ox D od) where
  ty := fun _ _ _ I => I.type
  it := fun _ _ X _ => by
    obtain ⟨cdD, hcD, _⟩ := any_some hdct
    unfold clsIn at hcD
    split at hcD
    · rename_i c' d' cd' sl' ho
      intro A' Q' E' s' k q
      unfold isType loadHead
      exact wpAny_bind (wpAny_loadPart (k _ _ (X _ _ ho)) (wpAny_pure q))
    · cases hcD
  ne := fun h tp dd its n sl X htp => by
    obtain ⟨cdD, hcD, _⟩ := any_some hdct
    refine Bool.eq_false_iff.mpr fun q => ?_
    have e : D = tp := Value.ref.inj (beq_iff_eq.mp q)
    subst e
    unfold clsIn at hcD
    split at hcD
    · rename_i c' d' cd' sl' ho
      have z := (X _ _ ho).symm.trans htp
      cases z
    · cases hcD
  ca := fun X I k => cx_class hga hgt hsub hf hm X I k
end
end PySem.W
namespace L2
open PySem PySem.Spec PyProof.Rows
/-- what a caught error's class says -/
structure CXf (K : PySem.W.Frag) (C : Addr) : Prop where
  ga : PySem.W.findIn K (.ref C) "__getattribute__" = some (some (.builtin "BaseException.__getattribute__"))
  gg : PySem.W.findIn K (.ref C) "__getattr__" = some none
  exC : PySem.W.subIn K (.ref C) (.type "BaseException") = some true
  hdC : PySem.W.hasDictIn K C = true
  ic : PySem.W.isClsIn K C = true
  ca : PySem.W.findIn K (.ref C) "__class__" = some (some (.builtin "object.__class__"))
  cn : PySem.W.specialIn K (.builtin "object.__class__") "__get__" = some (some (.builtin "getset_descriptor.__get__"))
  ct : PySem.W.takesIn K (.builtin "object.__class__") = some true
  cm : PySem.W.mroIn K C (.type "object") = some true
theorem xinst {X : Cx} {pins : List (Addr × Obj)} {σ : St} {H : Hp} {s : Shared} {a C dd : Addr} {oe : Obj} {pn : List (Addr × Obj)} {fs : List (Str × V)} (I : Inv (X.suite a ((a, oe) :: pn)) pins σ H s) (hz : Zc (.ref C) (some dd) oe) (hf : ∃ vs, oe.data = .fields vs) (hd : H dd = some (.xd fs)) :
    ∃ (od : Obj) (mA : Str → Option Value), PySem.W.InstAt s.heap a oe C (some od) ∧ (∀ name, PySem.W.lookIn name od = some (mA name)) ∧ ∀ f, RelO (fs.lookup f) (mA f) := by
  obtain ⟨ha, _⟩ := I.pin (a, oe) (List.mem_append_left _ List.mem_cons_self)
  obtain ⟨vs, hdt⟩ := hf
  have hx : ObjOk X.prog X.w H s.heap dd (.xd fs) := I.hok dd _ hd
  obtain ⟨mA, hns, hr⟩ := hx
  obtain ⟨od, ho, hl⟩ := lookIn_ns hns
  exact ⟨od, mA, ⟨ha, hz.1, by unfold PySem.W.notCls; rw [hdt] <;> rfl, by rw [hz.2]; exact ho⟩, hl, hr⟩
/-- isinstance(e, c), e the exception that the suite holds -/
def rIsX (K : PySem.W.Frag) (cls : Value) (d : Option Addr) (a : Addr) : List V → Hp → VK → Prop := fun xs H Q => ∃ (c : V) (cv : Value) (b : Bool) (C dd : Addr) (fs : List (Str × V)), xs = [.ref a, c] ∧ (∀ u, RelV c u → u = cv) ∧ cls = .ref C ∧ d = some dd ∧ H dd = some (.xd fs) ∧ CXf K C ∧ PySem.W.kitOne K (.ref C) cv = some b ∧ Q (.bl b) H
theorem call_isX {X : Cx} {a : Addr} {cls : Value} {d : Option Addr} {oe : Obj} {pn : List (Addr × Obj)} (hz : Zc cls d oe) (hf : ∃ vs, oe.data = .fields vs) : CallR (X.suite a ((a, oe) :: pn)) (.builtin "isinstance") (rIsX X.K cls d a) := by
  intro pins s σ H xs us Q I r h
  obtain ⟨c, cv, b, C, dd, fs, rfl, hcv, rfl, rfl, hd, T, e, q⟩ := h
  cases r with
  | cons rx rr =>
    cases rr with
    | cons rt rr =>
      cases rr
      cases rx
      have ec := hcv _ rt
      subst ec
      obtain ⟨od, mA, J, _, _⟩ := xinst I hz hf hd
      exact PySem.W.kia_one (PySem.W.cx_kitx T.ga T.gg T.exC T.hdC (PySem.W.findObj_data T.ic T.ca T.cn T.ct) T.cm) I.kIn J e (fun z => nomatch z) fun tk => ⟨.bl b, H, I.kept (t' := tk) fun _ _ z => z, rfl, q⟩
/-- err.f -/
def tXfG (K : PySem.W.Frag) (a : Addr) (cls : Value) (d : Option Addr) (f : Str) (te : TE) : TE := fun σ H Q => te σ H fun x H1 => ∃ (C dd : Addr) (fs : List (Str × V)) (v : V), x = .ref a ∧ cls = .ref C ∧ d = some dd ∧ CXf K C ∧ PySem.W.findIn K (.ref C) f = some none ∧ H1 dd = some (.xd fs) ∧ fs.lookup f = some v ∧ Q v H1
theorem pe_xfG {X : Cx} {a : Addr} {oe : Obj} {cls : Value} {d : Option Addr} {pn : List (Addr × Obj)} {e : Expr} {te : TE} {pos : Pos} {n : Str} (hz : Zc cls d oe) (hf : ∃ vs, oe.data = .fields vs) (he : PE (X.suite a ((a, oe) :: pn)) e te)
    (hb : attributeBase e n X.env (eval e X.env) = eval e X.env := by rfl) : PE (X.suite a ((a, oe) :: pn)) (.Attribute e n pos) (tXfG X.K a cls d n te) := by
  refine ⟨fun pins s σ H Q I h => ?_⟩
  refine attr_of hb (thn (he.run pins s σ H _ I h) fun u s1 hh => ?_)
  obtain ⟨x, H1, I1, rx, C, dd, fs, v, ex, ec, ed, T, hno, ea, l, q⟩ := hh
  subst ex
  obtain rfl : u = Value.ref a := rx
  subst ec
  subst ed
  obtain ⟨od, mA, J, hl, hr⟩ := xinst I1 hz hf ea
  obtain ⟨u, hu, ru⟩ := RelO.some_of (v := v) (o := mA n) (by rw [← l]; exact hr n)
  exact HandSPX.exc_get I1.kIn J T.ga T.gg T.exC (PySem.W.findObj_own T.hdC hno rfl (by rw [hl, hu])) (handed_of ru) ⟨v, H1, I1.tok _, ru, q⟩
/-! ### the head's facts: one Bool of the written part, and the defs -/
def obsM (fn : List He.DefD) (ex : PySem.W.Frag → Bool) (K : PySem.W.Frag) : He.AlD := (ex K && fn.all fun d => d.ok K, fn.map fun d => He.fnW K d.at_)
def SaysM (fn : List He.DefD) (ex : PySem.W.Frag → Bool) (K : PySem.W.Frag) : Prop := obsM fn ex K = He.valD fn
/-- what the module's names reach, and the statics -/
def asM (g : Addr → Option Obj) (n : Nat) : List Addr := cStatics :: He.asD g n
def obsMG (n : Nat) (fn : List He.DefD) (ex : PySem.W.Frag → Bool) (g : Addr → Option Obj) : He.AlD := obsM fn ex (He.frG g (asM g n))
def hookM (n : Nat) (fn : List He.DefD) (ex : PySem.W.Frag → Bool) : PySem.W.Hook where
  α := He.AlD
  obs := fun s => obsMG n fn ex s.heap.get?
  val := fun _ => He.valD fn
  says := fun _ h => ∃ K : PySem.W.Frag, K.In h ∧ SaysM fn ex K
  of := fun _ _ e => ⟨_, He.frG_in, e⟩
  keeps := fun _ _ _ ⟨K, hK, c⟩ k => ⟨K, PySem.W.Frag.In.keeps hK k, c⟩
theorem obsMG_eq {n : Nat} {fn : List He.DefD} {ex : PySem.W.Frag → Bool} {g : Addr → Option Obj} {s : Shared} (h : ∀ a, g a = s.heap.get? a) : obsMG n fn ex g = (hookM n fn ex).obs s := by
  have e : g = s.heap.get? := funext h
  rw [e] <;> rfl
theorem SaysM.ex {fn : List He.DefD} {ex : PySem.W.Frag → Bool} {K : PySem.W.Frag} (c : SaysM fn ex K) : ex K = true :=
  (He.ba (show (ex K && fn.all fun d => d.ok K) = true from congrArg (fun z : He.AlD => z.1) c)).1
theorem SaysM.def_ {fn : List He.DefD} {ex : PySem.W.Frag → Bool} {K : PySem.W.Frag} (c : SaysM fn ex K) {d : He.DefD} (i : Nat) (h : fn[i]? = some d) : ∃ fd, FunD K d.name d.qual d.params d.body d.scope (d.dvs K) (d.kws K) (He.fAd K d.at_) fd := by
  have c2 := (He.ba (show (ex K && fn.all fun d => d.ok K) = true from congrArg (fun z : He.AlD => z.1) c)).2
  have e : fn.map (fun d => He.fnW K d.at_) = fn.map He.DefD.val := congrArg (fun z : He.AlD => z.2) c
  have e2 : (fn.map fun d => He.fnW K d.at_)[i]? = (fn.map He.DefD.val)[i]? := by rw [e]
  rw [List.getElem?_map, List.getElem?_map, h] at e2
  exact He.DefD.funD (Option.some.inj e2) (List.all_eq_true.mp c2 d (List.mem_of_getElem? h))
end L2
set_option Elab.async false
set_option linter.all false
set_option maxRecDepth 100000
set_option maxHeartbeats 4000000
/-! calls of this claim's defs: what is raised is wished for at the caller's slots -/
namespace L2
open PySem PySem.Spec PyProof.Rows
theorem Room.u {k n : Nat} {A : Around} (r : Room k A) (h : n ≤ 199 := by decide) : A.units + n < cLine := by have := r.un; omega
/-- the wish of a def's body -/
abbrev wEx (E : XK) : WX := fun cls d _ H => E cls d H
abbrev w0 : WX := fun _ _ _ _ => False
section
variable {X : Cx} {k j : Nat} {x m : Str} {sp : Sp} {dvs : List V} {W : WX} {C : Addr} {p pos apos : Pos} {e o : Expr} {es : List Expr} {t : TA} {ta : TE}
theorem run_cS {A : Around} {f : Addr} {fd : FuncData} {ps : List Str} {ds : List Value} {pins : List (Addr × Obj)} {σ : St} {H : Hp} {s : Shared} {Q : VK} {us : List Value} {vs : List V} (F : FnOk X.prog X.w X.K X.mg X.base (L2.CX X.prog X.w) k f fd ps sp) (hb : Binds X.K fd ps ds) (hd : Vals dvs ds)
    (hr : Room k A) (e0 : Env0 X.prog X.w X.K X.mg X.base A X.stack s H) (tk : Takes X W) (I : Inv X pins σ H s) (r : Vals vs us) (h : sp (vs ++ dvs) H Q (fun cls d H => W cls d σ H)) :
    codeAny (model X.prog X.w) A (.call (.ref f) ⟨us, []⟩) (fun r s' => match r with | .ok (.ret v) => EP X pins σ Q v s' | .ok _ => False | .error e => X.xe e s') s := by
  have r2 : Vals (vs ++ dvs) (us ++ ds) := r.append hd
  have hl : (us ++ ds).length = ps.length := by
    rw [← r2.length]
    exact F.len _ _ _ _ h
  refine codeAny_mono (F.run A X.stack s H ⟨us, []⟩ (us ++ ds) (vs ++ dvs) Q _ hr e0 (hb s us I.kIn hl) r2 h) fun r s' hq => ?_
  cases r with
  | error e => exact tk e s' (XE.of_call I (fun cls d H' z => z) hq)
  | ok fl =>
    cases fl with
    | ret u => exact I.after hq
    | next => exact False.elim hq
    | brk => exact False.elim hq
    | cont => exact False.elim hq
def tCal (sp : Sp) (dvs : List V) (W : WX) (t : TA) : TE := fun σ H Q => t σ H fun vs H1 => sp (vs ++ dvs) H1 Q (fun cls d H => W cls d σ H)
def tMet (C : Addr) (m : Str) (sp : Sp) (dvs : List V) (W : WX) (ta : TE) (t : TA) : TE := fun σ H Q => ta σ H fun x H1 => ∃ a dx fs, x = .ref a ∧ H1 a = some (.ins C dx fs) ∧ fs.lookup m = none ∧ t σ H1 fun vs H2 => sp (x :: (vs ++ dvs)) H2 Q (fun cls d H => W cls d σ H)
def tMak (C : Addr) (sp : Sp) (dvs : List V) (W : WX) (t : TA) : TE := fun σ H Q => t σ H fun vs H1 => ∀ x dx, H1 x = none → H1 dx = none → dx ≠ x → sp (.ref x :: (vs ++ dvs)) (upd (upd H1 dx (.own x)) x (.ins C dx [])) (fun v H2 => v = .non ∧ Q (.ref x) H2) (fun cls d H => W cls d σ H)
theorem pc_cal (c : CalX X.prog X.w X.K X.mg X.base k x sp dvs) (hr : Room j X.A) (hk : k ≤ j) (tk : Takes X W) (hg : Gl X x) (ha : PA X (e :: es) t) (hdb : (x == ("__debug__" : Str)) = false := by decide)
    (he : starEach (e :: es) X.env = (false, eval e X.env) :: starEach es X.env := by rfl) (hpl : (backTo pos (starEach es X.env)).any (·.1) = false := by rfl) : PE X (.Call (.Name x p) (e :: es) [] pos) (tCal sp dvs W t) := by
  refine ⟨fun pins s σ H Q I h => ?_⟩
  obtain ⟨f, fd, ps, ds, F, hm, hkp, hb, hd⟩ := c.ex
  refine wpAny_Call_Name_kw (ld_glob I hg hm ?_ hdb)
  refine PySem.W.callWith_K (h₀ := X.base) I.ok.mod.kin hkp (thn (ha.run pos pins s σ H _ I h) fun us s1 ⟨vs, H1, I1, r, q⟩ => ⟨I1.kIn, ?_⟩) he hpl
  exact wpAny_call (run_cS F hb hd (hr.mono hk) I1.env0 tk I1 r q)
theorem pc_met {pl : Sem Bool} (c : MetX X.prog X.w X.K X.mg X.base k C m sp dvs) (hr : Room j X.A) (hk : k ≤ j) (tk : Takes X W) (hto : PE X o ta) (ha : PA X (e :: es) t)
    (he : starEach (e :: es) X.env = (false, eval e X.env) :: starEach es X.env := by rfl) (hpl : (backTo pos (starEach es X.env)).any (·.1) = false := by rfl)
    (ht : eval (.Call (.Attribute o m apos) (e :: es) [] pos) X.env = (do
      let ov ← eval o X.env
      standAt apos.atName
      let (f, first) ← holding [ov] (getMethod ov m pl)
      callWith pos f first (backTo pos (starEach (e :: es) X.env)) (backToKw pos (keywordEach [] X.env))) := by rfl) :
    PE X (.Call (.Attribute o m apos) (e :: es) [] pos) (tMet C m sp dvs W ta t) := by
  refine ⟨fun pins s σ H Q I h => ?_⟩
  obtain ⟨f, fd, ps, ds, F, cl, hm, hb, hd⟩ := c.ex
  refine PySem.W.methodCall_KW (pl := pl) (thn (hto.run pins s σ H _ I h) fun u s1 ⟨x, H1, I1, rx, a, dx, fs, ex, ea, l, q⟩ => ?_) ht
  subst ex
  obtain rfl : u = Value.ref a := rx
  refine getmeth_ok I1 ea cl hm l ?_
  refine PySem.W.callWith_K (first := [.ref a]) (h₀ := X.base) I.ok.mod.kin hm.kp (thn (ha.run pos pins s1 σ H1 _ I1 q) fun us s2 ⟨vs, H2, I2, r, q2⟩ => ⟨I2.kIn, ?_⟩) he hpl
  exact wpAny_call (run_cS (us := .ref a :: us) (vs := .ref a :: vs) F hb hd (hr.mono hk) I2.env0 tk I2 (.cons rfl r) q2)
theorem pc_met0 {pl : Sem Bool} (c : MetX X.prog X.w X.K X.mg X.base k C m sp dvs) (hr : Room j X.A) (hk : k ≤ j) (tk : Takes X W) (hto : PE X o ta)
    (ht : eval (.Call (.Attribute o m apos) [] [] pos) X.env = (do
      let ov ← eval o X.env
      standAt apos.atName
      let (f, first) ← holding [ov] (getMethod ov m pl)
      callWith pos f first (backTo pos (starEach [] X.env)) (backToKw pos (keywordEach [] X.env))) := by rfl) :
    PE X (.Call (.Attribute o m apos) [] [] pos) (tMet C m sp dvs W ta tNil) := by
  refine ⟨fun pins s σ H Q I h => ?_⟩
  obtain ⟨f, fd, ps, ds, F, cl, hm, hb, hd⟩ := c.ex
  refine PySem.W.methodCall_KW (pl := pl) (thn (hto.run pins s σ H _ I h) fun u s1 ⟨x, H1, I1, rx, a, dx, fs, ex, ea, l, q⟩ => ?_) ht
  subst ex
  obtain rfl : u = Value.ref a := rx
  refine getmeth_ok I1 ea cl hm l ?_
  exact PySem.W.callWith_K0 (first := [.ref a]) I1.kIn hm.kp (wpAny_call (run_cS (us := [.ref a]) (vs := [.ref a]) F hb hd (hr.mono hk) I1.env0 tk I1 (.cons rfl .nil) q))
theorem pc_mak (c : MakX X.prog X.w X.K X.mg X.base k x C sp dvs) (hr : Room j X.A) (hk : k + 1 ≤ j) (tk : Takes X W) (hg : Gl X x) (ha : PA X (e :: es) t) (hdb : (x == ("__debug__" : Str)) = false := by decide)
    (he : starEach (e :: es) X.env = (false, eval e X.env) :: starEach es X.env := by rfl) (hpl : (backTo pos (starEach es X.env)).any (·.1) = false := by rfl) : PE X (.Call (.Name x p) (e :: es) [] pos) (tMak C sp dvs W t) := by
  refine ⟨fun pins s σ H Q I h => ?_⟩
  obtain ⟨f, fd, ps, ds, F, M, hm, hb, hd⟩ := c.ex
  refine wpAny_Call_Name_kw (ld_glob I hg hm ?_ hdb)
  refine PySem.W.callWith_K (h₀ := X.base) I.ok.mod.kin M.kp (thn (ha.run pos pins s σ H _ I h) fun us s1 ⟨vs, H1, I1, r, h1⟩ => ⟨I1.kIn, ?_⟩) he hpl
  have hq := h1 (s1.heap.objs.size + 1) s1.heap.objs.size (I1.hok.fresh (Nat.le_succ _)) (I1.hok.fresh (Nat.le_refl _)) (Nat.ne_of_lt (Nat.lt_succ_self _))
  have I2 := Inv.made (C := C) I1
  have r2 : Vals (V.ref (s1.heap.objs.size + 1) :: (vs ++ dvs)) (Value.ref (s1.heap.objs.size + 1) :: (us ++ ds)) := .cons rfl (r.append hd)
  have hl : (Value.ref (s1.heap.objs.size + 1) :: us ++ ds).length = ps.length := by
    have e := r2.length
    rw [F.len _ _ _ _ hq] at e
    exact e.symm
  show wpAny _ _ (call (.ref C) us) _ _ _
  refine wpAny_call (make_map (f := f) I1.kIn M.makes M.init (beq_iff_eq.mp M.fn) (codeAny_mono (F.run _ X.stack _ _ ⟨Value.ref (s1.heap.objs.size + 1) :: us, []⟩ (Value.ref (s1.heap.objs.size + 1) :: (us ++ ds)) _ _ _ ((hr.mono hk).make C us [])
    (I2.env0.make C us []) (hb _ (Value.ref (s1.heap.objs.size + 1) :: us) I2.kIn hl) r2 hq) fun r s' hq' => ?_))
  cases r with
  | error e => exact tk e s' (XE.of_call I2 (fun cls d H' z => z) hq')
  | ok fl =>
    cases fl with
    | ret u =>
      obtain ⟨v, H', I3, rv, ev, q3⟩ := I2.after hq'
      subst ev
      exact ⟨rv, ⟨V.ref (s1.heap.objs.size + 1), H', I3, rfl, q3⟩⟩
    | next => exact False.elim hq'
    | brk => exact False.elim hq'
    | cont => exact False.elim hq'
/-- raise C(e), C with an __init__ that stores one field -/
def tMk1 (C : Addr) (f : Str) (ta : TA) : St → Hp → XK → Prop := fun σ H Q => ta σ H fun vs H1 => ∃ v, vs = [v] ∧ ∀ d, H1 d = none → Q (.ref C) (some d) (upd H1 d (.xd [(f, v)]))
/-- the promise of such an __init__ -/
def spX1 (C : Addr) (f : Str) : Sp := fun vs H Q _ => ∃ (a : Addr) (v : V), vs = [.ref a, v] ∧ H a = some (exo a C none) ∧ ∀ d, H d = none → d ≠ a → Q .non (upd (upd H d (exd d [(f, v)])) a (exo a C (some d)))
structure RaiX (P : Program) (w : World) (K : PySem.W.Frag) (mg : Str → Option Value) (base : Heap) (x : Str) (C : Addr) (f : Str) : Prop where
  ex : ∃ (newId initId : String) (tl : List Value) (fI : Addr) (fd : FuncData), XBase newId initId tl ∧ OwnX K C newId tl ∧ PySem.W.findIn K (.ref C) "__init__" = some (some (.ref fI)) ∧ PySem.W.typeIn K (.ref fI) = some (.type "function") ∧
    FnOk P w K mg base (L2.CX P w) 1 fI fd ["self", f] (spX1 C f) ∧ Binds K fd ["self", f] [] ∧ mg x = some (.ref C)
theorem pmk_rai {f : Str} (c : RaiX X.prog X.w X.K X.mg X.base x C f) (hr : Room j X.A) (hk : 2 ≤ j) (hg : Gl X x) (ha : PA X [e] t) (hdb : (x == ("__debug__" : Str)) = false := by decide)
    (he : starEach [e] X.env = (false, eval e X.env) :: starEach [] X.env := by rfl) (hpl : (backTo pos (starEach [] X.env)).any (·.1) = false := by rfl) : PMk X (.Call (.Name x p) [e] [] pos) (tMk1 C f t) := by
  intro pins s σ H Q I h
  obtain ⟨newId, initId, tl, fI, fd, XB, T, iC, tI, F1, hb, hm⟩ := c.ex
  obtain ⟨nm, q, N, bs, bm, sn, sub, ab, col, dd, k0, k1, k2, k3, k5, hC, hbm⟩ := T.cls
  obtain ⟨B, FB⟩ := XB.make
  refine wpAny_Call_Name_kw (ld_glob I hg hm ?_ hdb)
  refine PySem.W.callWith_K (h₀ := X.base) I.ok.mod.kin T.kC (thn (ha.run pos pins s σ H _ I h) fun us s1 ⟨vs, H1, I1, r1, v, ev, q1⟩ => ⟨I1.kIn, ?_⟩) he hpl
  subst ev
  show wpAny _ _ (call (.ref C) us) _ _ _
  obtain ⟨hp, g, dr, tk, os⟩ := s1
  have hsz : hp.objs.size ≤ hp.objs.size + 1 := Nat.le_succ _
  have hn : H1 (hp.objs.size + 1) = none := I1.hok.fresh hsz
  have kk : ∀ b o, hp.get? b = some o → ((hp.push (PySem.W.kdv_tup us)).push (PySem.HandSPX.excO C hp.objs.size)).get? b = some o := fun b o e => Heap.get?_push_of_some _ (Heap.get?_push_of_some _ e)
  have hget : ((hp.push (PySem.W.kdv_tup us)).push (PySem.HandSPX.excO C hp.objs.size)).get? (hp.objs.size + 1) = some (PySem.HandSPX.excO C hp.objs.size) := by heap_get
  have I2 : Inv X pins σ (upd H1 (hp.objs.size + 1) (exo (hp.objs.size + 1) C none)) ⟨(hp.push (PySem.W.kdv_tup us)).push (PySem.HandSPX.excO C hp.objs.size), g, dr, tk, os⟩ :=
    I1.laid (t' := tk) (a := hp.objs.size + 1) (o := exo (hp.objs.size + 1) C none) (h' := (hp.push (PySem.W.kdv_tup us)).push (PySem.HandSPX.excO C hp.objs.size)) kk hsz (exo_ok hget)
  have r2 : Vals [V.ref (hp.objs.size + 1), v] (Value.ref (hp.objs.size + 1) :: us) := .cons rfl r1
  have hus : us.length ≤ sizeLine := by
    rw [← Paired.length r1, sizeLine_eq]
    show 1 ≤ 16777216
    decide
  have hq : spX1 C f [V.ref (hp.objs.size + 1), v] (upd H1 (hp.objs.size + 1) (exo (hp.objs.size + 1) C none))
      (fun z H2 => z = .non ∧ ∃ d, H2 = upd (upd (upd H1 (hp.objs.size + 1) (exo (hp.objs.size + 1) C none)) d (exd d [(f, v)])) (hp.objs.size + 1) (exo (hp.objs.size + 1) C (some d)) ∧ H1 d = none ∧ d ≠ hp.objs.size + 1) (fun _ _ _ => False) :=
    ⟨_, v, rfl, upd_same, fun d hd hne => ⟨rfl, d, rfl, by rw [upd_ne hne] at hd; exact hd, hne⟩⟩
  have hl : (Value.ref (hp.objs.size + 1) :: us ++ ([] : List Value)).length = ([("self" : Str), f] : List Str).length := by
    have e := r2.length
    rw [List.append_nil]
    exact e.symm
  have hbt := hb ⟨(hp.push (PySem.W.kdv_tup us)).push (PySem.HandSPX.excO C hp.objs.size), g, dr, tk, os⟩ (Value.ref (hp.objs.size + 1) :: us) I2.kIn hl
  rw [List.append_nil] at hbt
  refine wpAny_call (PySem.HandSPX.call_own FB (fun Y => PySem.CR.refsTo_contains Y bm hbm) (I1.kIn _ _ hC) (PySem.W.looks_findIn I1.kIn iC) (fun self => PySem.W.bind_fn I1.kIn self tI) hus
    (codeAny_mono (F1.run _ X.stack _ _ ⟨Value.ref (hp.objs.size + 1) :: us, []⟩ (Value.ref (hp.objs.size + 1) :: us) _ _ (fun _ _ _ => False) ((hr.mono hk).make C us []) (I2.env0.make C us []) hbt r2 hq) fun r s' hq' => ?_))
  cases r with
  | error er => exact absurd hq' (fun ⟨_, _, _, _, _, _, _, _, _, _, _, _, z⟩ => z)
  | ok fl =>
    cases fl with
    | ret u =>
      obtain ⟨v2, H2, os2, bare2, un2, hok2, rv, ev, d, eH, hd1, hne⟩ := hq'
      subst ev
      subst eH
      obtain ⟨h2, g2, d2, t2, os'⟩ := s'
      have eF : upd (del (upd (upd (upd H1 (hp.objs.size + 1) (exo (hp.objs.size + 1) C none)) d (exd d [(f, v)])) (hp.objs.size + 1) (exo (hp.objs.size + 1) C (some d))) (hp.objs.size + 1)) d (.xd [(f, v)]) = upd H1 d (.xd [(f, v)]) := by
        funext b
        by_cases hbd : b = d
        · rw [hbd, upd_same, upd_same]
        · rw [upd_ne hbd, upd_ne hbd]
          by_cases hba : b = hp.objs.size + 1
          · rw [hba, del_same, hn]
          · rw [del_ne hba, upd_ne hba, upd_ne hbd, upd_ne hba]
      refine ⟨rv, mk_end (fs := [(f, v)]) (raises_own T.exC T.tyC) I1 hsz kk un2 hok2 os2 bare2 upd_same (by rw [upd_ne hne, upd_same]) hd1 ?_⟩
      rw [eF]
      exact q1 d hd1
    | next => exact False.elim hq'
    | brk => exact False.elim hq'
    | cont => exact False.elim hq'
end
end L2
set_option Elab.async false
set_option linter.all false
set_option maxRecDepth 100000
set_option maxHeartbeats 4000000
/-! Bools for the facts; promises; small words -/
namespace L2
open PySem PySem.Spec PyProof.Rows
def ownLk (K : PySem.W.Frag) (C : Addr) (newId : String) (tl : List Value) : Bool := match K.lookup C with
  | some ⟨.type c, _, .cls ⟨_, _, .ref C' :: bm, _, _, true, _, _, _, _, false⟩, ⟨[_, _, _, _, some (.builtin n), _]⟩⟩ => decide (c = "type") && (decide (C' = C) && (decide (n = newId) && PySem.CR.refsTo tl bm))
  | _ => false
theorem ownLk_ok {K : PySem.W.Frag} {C : Addr} {newId : String} {tl : List Value} (h : ownLk K C newId tl = true) :
    ∃ nm q N bs bm sn sub ab col dd k0 k1 k2 k3 k5, K.lookup C = some (excClassObj nm q C N bs bm true sn sub ab col dd k0 k1 k2 k3 k5 newId) ∧ PySem.CR.refsTo tl bm = true := by
  unfold ownLk at h
  split at h
  · rename_i c dd nm bs C' bm N q sn sub ab col k0 k1 k2 k3 n k5 hl
    obtain ⟨h1, h⟩ := He.ba h
    obtain ⟨h2, h⟩ := He.ba h
    obtain ⟨h3, h4⟩ := He.ba h
    have e1 := of_decide_eq_true h1
    have e2 := of_decide_eq_true h2
    have e3 := of_decide_eq_true h3
    subst e1 e2 e3
    exact ⟨_, _, _, _, _, _, _, _, _, _, _, _, _, _, _, hl, h4⟩
  · cases h
def ownXB (K : PySem.W.Frag) (C : Addr) (newId : String) (tl : List Value) : Bool := ownLk K C newId tl && (He.eqO (PySem.W.findIn K (.ref C) "__setattr__") (some (some (.builtin "object.__setattr__"))) &&
  (decide (PySem.W.subIn K (.ref C) (.type "BaseException") = some true) && (decide (PySem.W.typeIn K (.ref C) = some (.type "type")) && PySem.W.keepIn K (.ref C))))
theorem ownXB_ok {K : PySem.W.Frag} {C : Addr} {newId : String} {tl : List Value} (h : ownXB K C newId tl = true) : OwnX K C newId tl := by
  obtain ⟨h1, h⟩ := He.ba h
  obtain ⟨h2, h⟩ := He.ba h
  obtain ⟨h3, h⟩ := He.ba h
  obtain ⟨h4, h5⟩ := He.ba h
  exact ⟨ownLk_ok h1, He.eqO_ok h2, of_decide_eq_true h3, of_decide_eq_true h4, h5⟩
def cXfB (K : PySem.W.Frag) (C : Addr) : Bool := He.eqO (PySem.W.findIn K (.ref C) "__getattribute__") (some (some (.builtin "BaseException.__getattribute__"))) && (He.eqO (PySem.W.findIn K (.ref C) "__getattr__") (some none) &&
  (decide (PySem.W.subIn K (.ref C) (.type "BaseException") = some true) && (PySem.W.hasDictIn K C && (PySem.W.isClsIn K C && (He.eqO (PySem.W.findIn K (.ref C) "__class__") (some (some (.builtin "object.__class__"))) &&
  (He.eqO (PySem.W.specialIn K (.builtin "object.__class__") "__get__") (some (some (.builtin "getset_descriptor.__get__"))) && (decide (PySem.W.takesIn K (.builtin "object.__class__") = some true) && decide (PySem.W.mroIn K C (.type "object") = some true))))))))
theorem cXfB_ok {K : PySem.W.Frag} {C : Addr} (h : cXfB K C = true) : CXf K C := by
  obtain ⟨h1, h⟩ := He.ba h
  obtain ⟨h2, h⟩ := He.ba h
  obtain ⟨h3, h⟩ := He.ba h
  obtain ⟨h4, h⟩ := He.ba h
  obtain ⟨h5, h⟩ := He.ba h
  obtain ⟨h6, h⟩ := He.ba h
  obtain ⟨h7, h⟩ := He.ba h
  obtain ⟨h8, h9⟩ := He.ba h
  exact ⟨He.eqO_ok h1, He.eqO_ok h2, of_decide_eq_true h3, h4, h5, He.eqO_ok h6, He.eqO_ok h7, of_decide_eq_true h8, of_decide_eq_true h9⟩
/-- a promise: arguments by a datum, then what holds -/
def spOf {α : Type} (args : α → List V) (pre : α → Hp → VK → XK → Prop) : Sp := fun vs H Q E => ∃ a : α, vs = args a ∧ pre a H Q E
theorem spOf_len {α : Type} {args : α → List V} {pre : α → Hp → VK → XK → Prop} {vs : List V} {H : Hp} {Q : VK} {E : XK} {n : Nat} (h : spOf args pre vs H Q E) (l : ∀ a, (args a).length = n) : vs.length = n := by
  obtain ⟨a, e, _⟩ := h
  rw [e]
  exact l a
theorem cst {mg : Str → Option Value} {x : Str} {i : Int} (h : ∃ t, mg x = some (.int i t)) : ∃ u, mg x = some u ∧ RelV (.int i) u := by
  obtain ⟨t, h⟩ := h
  exact ⟨_, h, t, rfl⟩
/-- an own error base without __init__ -/
structure BaseX (K : PySem.W.Frag) (D : Addr) (initId : String) : Prop where
  sp : PySem.W.specialIn K (.ref D) "__getattribute__" = some (some (.builtin "type.__getattribute__"))
  rd : PySem.W.readsIn K D (.type "type") = true
  fi : PySem.W.findCls K (.ref D) (.type "type") "__init__" = some (.val (.builtin initId))
def baseB (K : PySem.W.Frag) (D : Addr) (initId : String) : Bool := He.eqO (PySem.W.specialIn K (.ref D) "__getattribute__") (some (some (.builtin "type.__getattribute__"))) && (PySem.W.readsIn K D (.type "type") && (match PySem.W.findCls K (.ref D) (.type "type") "__init__" with
  | some (.val (.builtin n)) => decide (n = initId)
  | _ => false))
theorem baseB_ok {K : PySem.W.Frag} {D : Addr} {initId : String} (h : baseB K D initId = true) : BaseX K D initId := by
  obtain ⟨h1, h⟩ := He.ba h
  obtain ⟨h2, h⟩ := He.ba h
  split at h
  · rename_i n e
    have e1 := of_decide_eq_true h
    subst e1
    exact ⟨He.eqO_ok h1, h2, e⟩
  · cases h
/-- what isinstance and == ask of an own class -/
structure IsiX (K : PySem.W.Frag) (C : Addr) : Prop where
  ca : PySem.W.findIn K (.ref C) "__class__" = some (some (.builtin "object.__class__"))
  cn : PySem.W.specialIn K (.builtin "object.__class__") "__get__" = some (some (.builtin "getset_descriptor.__get__"))
  ct : PySem.W.takesIn K (.builtin "object.__class__") = some true
  cm : PySem.W.mroIn K C (.type "object") = some true
def isiB (K : PySem.W.Frag) (C : Addr) : Bool := He.eqO (PySem.W.findIn K (.ref C) "__class__") (some (some (.builtin "object.__class__"))) && (He.eqO (PySem.W.specialIn K (.builtin "object.__class__") "__get__") (some (some (.builtin "getset_descriptor.__get__"))) &&
  (decide (PySem.W.takesIn K (.builtin "object.__class__") = some true) && decide (PySem.W.mroIn K C (.type "object") = some true)))
theorem isiB_ok {K : PySem.W.Frag} {C : Addr} (h : isiB K C = true) : IsiX K C := by
  obtain ⟨h6, h⟩ := He.ba h
  obtain ⟨h7, h⟩ := He.ba h
  obtain ⟨h8, h9⟩ := He.ba h
  exact ⟨He.eqO_ok h6, He.eqO_ok h7, of_decide_eq_true h8, of_decide_eq_true h9⟩
theorem IsiX.ty {K : PySem.W.Frag} {C : Addr} (i : IsiX K C) (c : Cls K C) {H : Hp} {a dx : Addr} {fs : List (Str × V)} (e : H a = some (.ins C dx fs)) : TyOf K H (.ref a) (.ref C) := .ins e c i.ca i.cn i.ct i.cm
/-! ### heaps -/
/-- all but what stands at M is kept -/
def Fr (M : List Addr) (H H' : Hp) : Prop := ∀ b o, H b = some o → b ∉ M → H' b = some o
theorem Fr.refl {M : List Addr} {H : Hp} : Fr M H H := fun _ _ e _ => e
theorem Fr.new {M : List Addr} {H H' : Hp} {p : Addr} {o : HO} (f : Fr M H H') (h : H' p = none) : Fr M H (upd H' p o) := fun b u e n => by
  have z := f b u e n
  rw [upd_ne (ne_of_none z h)]
  exact z
theorem Fr.mut {M : List Addr} {H H' : Hp} {p : Addr} {o : HO} (f : Fr M H H') (h : p ∈ M) : Fr M H (upd H' p o) := fun b u e n => by
  rw [upd_ne (show b ≠ p from fun z => n (by rw [z]; exact h))]
  exact f b u e n
theorem Fr.mutN {M : List Addr} {H H' : Hp} {p : Addr} {o : HO} (f : Fr M H H') (h : H p = none) : Fr M H (upd H' p o) := fun b u e n => by
  rw [upd_ne (ne_of_none e h)]
  exact f b u e n
theorem Fr.trans {M : List Addr} {H H1 H2 : Hp} (a : Fr M H H1) (b : Fr M H1 H2) : Fr M H H2 := fun c o e n => b c o (a c o e n) n
theorem Fr.mono {M N : List Addr} {H H1 : Hp} (a : Fr M H H1) (h : ∀ b ∈ M, b ∈ N) : Fr N H H1 := fun c o e n => a c o e fun z => n (h c z)
/-- fresh behind is fresh ahead, off M -/
theorem Fr.free {M : List Addr} {H H' : Hp} {p : Addr} (f : Fr M H H') (h : H' p = none) (n : p ∉ M) : H p = none := by
  cases e : H p with
  | none => rfl
  | some o =>
    have z := f p o e n
    rw [h] at z
    cases z
theorem Fr.free0 {H H' : Hp} {p : Addr} (f : Fr [] H H') (h : H' p = none) : H p = none := f.free h (by simp)
theorem Fr.use {M : List Addr} {H H' : Hp} {b : Addr} {o : HO} (f : Fr M H H') (e : H b = some o) (n : b ∉ M) : H' b = some o := f b o e n
theorem Fr.use0 {H H' : Hp} {b : Addr} {o : HO} (f : Fr [] H H') (e : H b = some o) : H' b = some o := f b o e (by simp)
theorem Fr.sqL {K : PySem.W.Frag} {H H' : Hp} {a : Addr} {xs : List V} (f : Fr [] H H') (h : SqL K H a xs) : SqL K H' a xs := by
  rcases h with (h | ⟨o, h⟩) | h
  · exact .inl (.inl (f.use0 h))
  · exact .inl (.inr ⟨o, f.use0 h⟩)
  · exact .inr h
theorem made_fr {H : Hp} {x dx C : Addr} (nx : H x = none) (nd : H dx = none) (ne : dx ≠ x) : Fr [] H (upd (upd H dx (.own x)) x (.ins C dx [])) :=
  (Fr.refl.new nd).new (by rw [upd_ne (Ne.symm ne)]; exact nx)
theorem ite2b {b : Bool} {A B : Prop} (h1 : b = true → A) (h2 : b = false → B) : if b = true then A else B := by
  cases b with
  | true => exact h1 rfl
  | false => exact h2 rfl
end L2
set_option Elab.async false
set_option linter.all false
set_option maxRecDepth 100000
set_option maxHeartbeats 4000000
/-! readings, step by step -/
namespace L2
open PySem PySem.Spec PyProof.Rows
section
variable {σ : St} {H : Hp} {i : Nat} {v x y : V} {ta tb te tv : TE} {t tr : TA} {K : PySem.W.Frag} {Q : VK} {r : List V → Hp → VK → Prop} {D : Ends} {t1 t2 u1 : TS} {c : TT} {tt tt' : TT} {Qb : Bool → Hp → Prop} {Qa : List V → Hp → Prop} {a C dx p : Addr} {fs : List (Str × V)} {f m : Str} {b : Bool} {xs ys : List V} {W : WX} {sp : Sp} {dvs : List V}
theorem g_var (h : σ[i]? = some (some v)) (k : Q v H) : tVar i σ H Q := ⟨v, h, k⟩
theorem g_c (k : Q v H) : tC v σ H Q := k
theorem g_cb (k : t σ H fun vs H1 => r vs H1 Q) : tCB r t σ H Q := k
theorem g_cons (k : ta σ H fun x H1 => tr σ H1 fun xs H2 => Qa (x :: xs) H2) : tCons ta tr σ H Qa := k
theorem g_nil (k : Qa [] H) : tNil σ H Qa := k
theorem g_op {r : R2} (k : ta σ H fun x H1 => tb σ H1 fun y H2 => r x y H2 Q) : tOp r ta tb σ H Q := k
theorem g_un {r : V → Hp → VK → Prop} (k : ta σ H fun x H1 => r x H1 Q) : tUn r ta σ H Q := k
theorem g_test (k : te σ H fun x H' => ∃ b, x = .bl b ∧ Qb b H') : tTest te σ H Qb := k
theorem g_tB (k : te σ H fun x H' => ∃ b, x = .bl b ∧ Qb b H') : tB te σ H Qb := k
theorem g_bl (k : Qb b H) : ∃ c, V.bl b = .bl c ∧ Qb c H := ⟨b, rfl, k⟩
theorem g_not (k : tt σ H fun c H1 => Qb (!c) H1) : tNot tt σ H Qb := k
theorem g_and (k : tt σ H fun c H1 => if c = true then tt' σ H1 Qb else Qb false H1) : tAnd tt tt' σ H Qb := k
theorem g_or (k : tt σ H fun c H1 => if c = true then Qb true H1 else tt' σ H1 Qb) : tOr tt tt' σ H Qb := k
theorem g_andV (k : ta σ H fun x H1 => ∃ c, x = .bl c ∧ if c = true then tb σ H1 Q else Q (.bl false) H1) : tAndV ta tb σ H Q := k
theorem g_orV (k : ta σ H fun x H1 => ∃ c, x = .bl c ∧ if c = true then Q (.bl true) H1 else tb σ H1 Q) : tOrV ta tb σ H Q := k
theorem g_notV (k : ta σ H fun x H1 => ∃ c, x = .bl c ∧ Q (.bl (!c)) H1) : tNotV ta σ H Q := k
theorem g_blV {A : Bool → Prop} (k : A b) : ∃ c, V.bl b = .bl c ∧ A c := ⟨b, rfl, k⟩
theorem g_ifE (k : c σ H fun b H1 => if b = true then ta σ H1 Q else tb σ H1 Q) : tIf c ta tb σ H Q := k
theorem g_ifS (k : c σ H fun b H1 => if b = true then t1 D σ H1 else t2 D σ H1) : tIfS c t1 t2 D σ H := k
theorem g_seq (k : t1 { D with nx := u1 D } σ H) : tSeq t1 u1 D σ H := k
theorem g_ret (k : te σ H D.rt) : tRet te D σ H := k
theorem g_asg (k : te σ H fun v H1 => D.nx (σ.set i (some v)) H1) : tAsg te (gName i) D σ H := k
theorem g_next (k : D.nx σ H) : tNext D σ H := k
theorem g_drop (k : te σ H fun _ H1 => D.nx σ H1) : tDrop te D σ H := k
theorem g_tup (k : t σ H fun xs H1 => xs.length ≤ sizeLine ∧ ∀ p, H1 p = none → Q (.ref p) (upd H1 p (.tup xs))) : tTup t σ H Q := k
theorem g_lst (k : t σ H fun xs H1 => xs.length ≤ sizeLine ∧ ∀ p, H1 p = none → Q (.ref p) (upd H1 p (.lst xs))) : tLst t σ H Q := k
theorem g_newT {A : Hp → Hp → Addr → Prop} (h : xs.length ≤ sizeLine) (k : ∀ p, H p = none → A H (upd H p (.tup xs)) p) : xs.length ≤ sizeLine ∧ ∀ p, H p = none → A H (upd H p (.tup xs)) p := ⟨h, k⟩
theorem g_fld (k : ta σ H fun x H1 => ∃ a C dx fs v, x = .ref a ∧ H1 a = some (.ins C dx fs) ∧ Cls K C ∧ NoAttr K C f ∧ fs.lookup f = some v ∧ Q v H1) : tFld K ta f σ H Q := k
theorem g_fldq {Av : V → Prop} (h : H a = some (.ins C dx fs)) (c : Cls K C) (n : NoAttr K C f) (l : fs.lookup f = some v) (k : Av v) : ∃ a' C dx fs v, V.ref a = .ref a' ∧ H a' = some (.ins C dx fs) ∧ Cls K C ∧ NoAttr K C f ∧ fs.lookup f = some v ∧ Av v :=
  ⟨a, C, dx, fs, v, rfl, h, c, n, l, k⟩
theorem g_sfld (k : tv σ H fun y H1 => ta σ H1 fun x H2 => ∃ a C dx fs, x = .ref a ∧ H2 a = some (.ins C dx fs) ∧ Cls K C ∧ NoAttr K C f ∧ fs.length < 1000 ∧ D.nx σ (upd H2 a (.ins C dx (putF f y fs)))) : sFld K ta tv f D σ H := k
theorem g_cal (k : t σ H fun vs H1 => sp (vs ++ dvs) H1 Q (fun cls d H => W cls d σ H)) : tCal sp dvs W t σ H Q := k
theorem g_met (k : ta σ H fun x H1 => ∃ a dx fs, x = .ref a ∧ H1 a = some (.ins C dx fs) ∧ fs.lookup m = none ∧ t σ H1 fun vs H2 => sp (x :: (vs ++ dvs)) H2 Q (fun cls d H => W cls d σ H)) : tMet C m sp dvs W ta t σ H Q := k
theorem g_metq {A : Addr → Prop} (h : H a = some (.ins C dx fs)) (l : fs.lookup m = none) (k : A a) : ∃ a' dx fs, V.ref a = .ref a' ∧ H a' = some (.ins C dx fs) ∧ fs.lookup m = none ∧ A a' := ⟨a, dx, fs, rfl, h, l, k⟩
theorem g_mk1 {Qx : XK} (k : t σ H fun vs H1 => ∃ v, vs = [v] ∧ ∀ d, H1 d = none → Qx (.ref C) (some d) (upd H1 d (.xd [(f, v)]))) : tMk1 C f t σ H Qx := k
theorem g_I0 {g : Int → Int → V} {i j : Int} (k : Q (g i j) H) : rI0 g (.int i) (.int j) H Q := ⟨i, j, rfl, rfl, k⟩
theorem g_I {Cn : Int → Int → Prop} {g : Int → Int → V} {i j : Int} (h : Cn i j) (k : Q (g i j) H) : rI Cn g (.int i) (.int j) H Q := ⟨i, j, rfl, rfl, h, k⟩
theorem g_eq (h : scal x y = true) (k : Q (.bl (decide (x = y))) H) : rEq x y H Q := ⟨h, k⟩
theorem g_ne (h : scal x y = true) (k : Q (.bl (!decide (x = y))) H) : rNe x y H Q := ⟨h, k⟩
theorem g_isN (k : Q (.bl (decide (x = .non))) H) : V.non = .non ∧ Q (.bl (decide (x = .non))) H := ⟨rfl, k⟩
theorem g_ixT {j : Int} (h : SqT K H a xs) (e : atI xs j = some v) (k : Q v H) : rIxT K (.ref a) (.int j) H Q := ⟨a, xs, j, v, rfl, rfl, h, e, k⟩
theorem g_ixL {j : Int} (h : SqL K H a xs) (e : atI xs j = some v) (k : Q v H) : rIxL K (.ref a) (.int j) H Q := ⟨a, xs, j, v, rfl, rfl, h, e, k⟩
theorem g_lenL {Av : List V → Prop} (h : SqL K H a xs) (k : Av xs) : ∃ p ys, [V.ref a] = [.ref p] ∧ (SqL K H p ys ∨ SqT K H p ys) ∧ Av ys := ⟨a, xs, rfl, .inl h, k⟩
theorem g_lenT {Av : List V → Prop} (h : SqT K H a xs) (k : Av xs) : ∃ p ys, [V.ref a] = [.ref p] ∧ (SqL K H p ys ∨ SqT K H p ys) ∧ Av ys := ⟨a, xs, rfl, .inr h, k⟩
theorem g_isi {cV : V} {tv uv : Value} (h1 : ClsV cV uv) (h2 : TyX K H x tv) (h3 : PySem.W.kitOne K tv uv = some b) (k : Q (.bl b) H) : rIsi K [x, cV] H Q := ⟨x, cV, tv, uv, b, rfl, h1, h2, h3, k⟩
theorem g_T {A B : Prop} {i : Decidable (b = true)} (h : b = true) (k : A) : if b = true then A else B := by rw [if_pos h]; exact k
theorem g_F {A B : Prop} {i : Decidable (b = true)} (h : b = false) (k : B) : if b = true then A else B := by rw [if_neg (by rw [h]; exact Bool.false_ne_true)]; exact k
end
/-! ### things by their types -/
def tyOK (T : String) : Prop := T = "NoneType" ∨ T = "bool" ∨ T = "int" ∨ T = "str" ∨ T = "list" ∨ T = "tuple" ∨ T = "dict"
section
variable {K : PySem.W.Frag} {H : Hp} {v : V} {T : String}
theorem kit_int (h : tyOK T) : PySem.W.kitOne K (.type T) (.type "int") = some (T == "int" || T == "bool") := by
  rcases h with rfl | rfl | rfl | rfl | rfl | rfl | rfl <;> exact kit_ty (by decide +kernel)
theorem kit_bool (h : tyOK T) : PySem.W.kitOne K (.type T) (.type "bool") = some (T == "bool") := by
  rcases h with rfl | rfl | rfl | rfl | rfl | rfl | rfl <;> exact kit_ty (by decide +kernel)
theorem kit_str (h : tyOK T) : PySem.W.kitOne K (.type T) (.type "str") = some (T == "str") := by
  rcases h with rfl | rfl | rfl | rfl | rfl | rfl | rfl <;> exact kit_ty (by decide +kernel)
theorem kit_tup (h : tyOK T) : PySem.W.kitOne K (.type T) (.type "tuple") = some (T == "tuple") := by
  rcases h with rfl | rfl | rfl | rfl | rfl | rfl | rfl <;> exact kit_ty (by decide +kernel)
theorem kit_lst (h : tyOK T) : PySem.W.kitOne K (.type T) (.type "list") = some (T == "list") := by
  rcases h with rfl | rfl | rfl | rfl | rfl | rfl | rfl <;> exact kit_ty (by decide +kernel)
/-- what a thing is: its type's name goes with its value -/
def tyOf : V → Option String
  | .non => some "NoneType"
  | .bl _ => some "bool"
  | .int _ => some "int"
  | .str _ => some "str"
  | _ => none
/-- a thing of a plain type; what stands at a ref is a list, a tuple or a dict -/
structure Th (K : PySem.W.Frag) (H : Hp) (v : V) (T : String) : Prop where
  ty : TyX K H v (.type T)
  ok : tyOK T
  sc : tyOf v = some T ∨ ∃ a, v = .ref a ∧ ((T = "list" ∧ ∃ xs, H a = some (.lst xs)) ∨ (T = "tuple" ∧ ∃ xs, H a = some (.tup xs)) ∨ (T = "dict" ∧ ∃ kvs, H a = some (.dK kvs)))
theorem th_non : Th K H .non "NoneType" := ⟨.base .non, .inl rfl, .inl rfl⟩
theorem th_bl {b : Bool} : Th K H (.bl b) "bool" := ⟨.base (.bl b), .inr (.inl rfl), .inl rfl⟩
theorem th_int {i : Int} : Th K H (.int i) "int" := ⟨.base (.int i), .inr (.inr (.inl rfl)), .inl rfl⟩
theorem th_str {z : Str} : Th K H (.str z) "str" := ⟨.base (.str z), .inr (.inr (.inr (.inl rfl))), .inl rfl⟩
theorem th_lst {a : Addr} {xs : List V} (h : H a = some (.lst xs)) : Th K H (.ref a) "list" := ⟨.base (.lst h), .inr (.inr (.inr (.inr (.inl rfl)))), .inr ⟨a, rfl, .inl ⟨rfl, xs, h⟩⟩⟩
theorem th_tup {a : Addr} {xs : List V} (h : H a = some (.tup xs)) : Th K H (.ref a) "tuple" := ⟨.base (.tup h), .inr (.inr (.inr (.inr (.inr (.inl rfl))))), .inr ⟨a, rfl, .inr (.inl ⟨rfl, xs, h⟩)⟩⟩
theorem th_dK {a : Addr} {kvs : List (Key × V)} (h : H a = some (.dK kvs)) : Th K H (.ref a) "dict" := ⟨.base (.dK h), .inr (.inr (.inr (.inr (.inr (.inr rfl))))), .inr ⟨a, rfl, .inr (.inr ⟨rfl, kvs, h⟩)⟩⟩
theorem Th.fr {H' : Hp} (h : Th K H v T) (f : Fr [] H H') : Th K H' v T := by
  rcases h.sc with e | ⟨a, rfl, ⟨rfl, xs, e⟩ | ⟨rfl, xs, e⟩ | ⟨rfl, xs, e⟩⟩
  · cases v with
    | non => cases e; exact th_non
    | bl b => cases e; exact th_bl
    | int i => cases e; exact th_int
    | str z => cases e; exact th_str
    | _ => cases e
  · exact th_lst (f.use0 e)
  · exact th_tup (f.use0 e)
  · exact th_dK (f.use0 e)
def wholeV (v : V) (lo : Int) (hi : Option Int) : Bool := match v with
  | .int i => decide (lo ≤ i) && (match hi with
    | none => true
    | some h => decide (i ≤ h))
  | _ => false
theorem whole_not {lo : Int} {hi : Option Int} (h : Th K H v T) (n : T ≠ "int") : wholeV v lo hi = false := by
  rcases h.sc with e | ⟨a, rfl, _⟩
  · cases v with
    | int i => cases e; exact absurd rfl n
    | _ => rfl
  · rfl
theorem th_of_int (h : Th K H v "int") : ∃ i, v = .int i := by
  rcases h.sc with e | ⟨a, rfl, ⟨e, _⟩ | ⟨e, _⟩ | ⟨e, _⟩⟩
  · cases v with
    | int i => exact ⟨i, rfl⟩
    | _ => first | cases e | (exact absurd (Option.some.inj e) (by decide))
  · exact absurd e (by decide)
  · exact absurd e (by decide)
  · exact absurd e (by decide)
end
theorem pe_gi {X : Cx} {x : Str} {i : Int} {pos : Pos} (hg : Gl X x) (h : ∃ t, X.mg x = some (.int i t)) (hd : (x == ("__debug__" : Str)) = false := by decide) : PE X (.Name x pos) (tC (.int i)) := by
  obtain ⟨t, h⟩ := h
  exact pe_glob hg h ⟨t, rfl⟩ hd
end L2
set_option Elab.async false
set_option linter.all false
set_option maxRecDepth 100000
set_option maxHeartbeats 4000000
/-! more step lemmas, frames, data -/
namespace L2
open PySem PySem.Spec PyProof.Rows
section
variable {σ : St} {H : Hp} {v x y : V} {K : PySem.W.Frag} {Q : VK} {a C dx p : Addr} {fs : List (Str × V)} {f m : Str} {b : Bool} {xs ys : List V} {D : Ends}
theorem g_sfldq {Av : Addr → Addr → Addr → List (Str × V) → Prop} (h : H a = some (.ins C dx fs)) (c : Cls K C) (n : NoAttr K C f) (l : fs.length < 1000) (k : Av a C dx fs) :
    ∃ a' C dx fs, V.ref a = .ref a' ∧ H a' = some (.ins C dx fs) ∧ Cls K C ∧ NoAttr K C f ∧ fs.length < 1000 ∧ Av a' C dx fs := ⟨a, C, dx, fs, rfl, h, c, n, l, k⟩
theorem g_tofL {Av : List V → Prop} {Bv : Addr → List V → Prop} (h : SqL K H a xs) (k : Av xs) : ∃ p ys, [V.ref a] = [V.ref p] ∧ ((SqL K H p ys ∧ Av ys) ∨ (SqT K H p ys ∧ Bv p ys)) := ⟨a, xs, rfl, .inl ⟨h, k⟩⟩
theorem g_tofT {Av : List V → Prop} {Bv : Addr → List V → Prop} (h : SqT K H a xs) (k : Bv a xs) : ∃ p ys, [V.ref a] = [V.ref p] ∧ ((SqL K H p ys ∧ Av ys) ∨ (SqT K H p ys ∧ Bv p ys)) := ⟨a, xs, rfl, .inr ⟨h, k⟩⟩
theorem upd_new {u o : HO} {p a : Addr} {H' : Hp} (n : H' p = none) (h : H' a = some o) : upd H' p u a = some o := by rw [upd_ne (ne_of_none h n)]; exact h
theorem upd_off {u o : HO} {p a : Addr} {H' : Hp} (n : a ≠ p) (h : H' a = some o) : upd H' p u a = some o := by rw [upd_ne n]; exact h
theorem le100 {n : Nat} (h : n ≤ 100 := by exact of_decide_eq_true rfl) : n ≤ sizeLine := by rw [sizeLine_eq]; omega
theorem lt1000 {n : Nat} (h : n < 1000) : n < sizeLine := by rw [sizeLine_eq]; omega
theorem g_rep {k : Int} {v : V} (h : H a = some (.lst [v])) (h1 : 0 ≤ k) (h2 : k < 1000) (q : ∀ p, H p = none → Q (.ref p) (upd H p (.lst (List.replicate k.toNat v)))) : rRep (.ref a) (.int k) H Q := by
  refine ⟨a, k, [v], rfl, rfl, h, by omega, by omega, by rw [sizeLine_eq]; show 1 * k.toNat ≤ 16777216; omega, fun p hp => ?_⟩
  have e : (List.replicate k.toNat [v]).flatten = List.replicate k.toNat v := by
    induction k.toNat with
    | zero => rfl
    | succ n ih => rw [List.replicate_succ, List.flatten_cons, ih]; rfl
  rw [e]
  exact q p hp
theorem g_cat {b : Addr} (h : H a = some (.lst xs)) (h2 : H b = some (.lst ys)) (l : xs.length + ys.length ≤ sizeLine) (k : ∀ p, H p = none → Q (.ref p) (upd H p (.lst (xs ++ ys)))) : rCat (.ref a) (.ref b) H Q := ⟨a, b, xs, ys, rfl, rfl, h, h2, l, k⟩
theorem g_app (h : H a = some (.lst xs)) (l : xs.length < sizeLine) (k : Q .non (upd H a (.lst (xs ++ [y])))) : rAppend (.ref a) [y] H Q := ⟨a, xs, y, rfl, rfl, h, l, k⟩
theorem tyV_lst (h : H a = some (.lst xs)) : tyV K "list" (.ref a) H := .inl ⟨rfl, xs, SqL.of h⟩
theorem g_bm {ta : TE} {t : TA} {T : String} {r : V → List V → Hp → VK → Prop} (k : ta σ H fun x H1 => tyV K T x H1 ∧ t σ H1 fun xs H2 => r x xs H2 Q) : tBM K T r ta t σ H Q := k
theorem atI_n {α : Type} {xs : List α} {m : Nat} {z : α} (h : xs[m]? = some z) : atI xs (m : Int) = some z := by
  have hl : m < xs.length := (List.getElem?_eq_some_iff.mp h).1
  unfold atI ixN
  rw [if_pos (by omega), if_pos (by omega)]
  exact h
theorem ixN_n {n m : Nat} (h : m < n) : ixN n (m : Int) = some m := by
  unfold ixN
  rw [if_pos (by omega), if_pos (by omega)]
  rfl
end
theorem not_mem_c {a b : Addr} {l : List Addr} (h : a ≠ b) (t : a ∉ l) : a ∉ b :: l := fun z => (List.mem_cons.mp z).elim h t
/-! frames -/
section
variable {M N : List Addr} {H H' H1 : Hp} {K : PySem.W.Frag} {p : Addr}
theorem Fr.cut (f : Fr M H H') (h : ∀ b ∈ M, b ∉ N → H b = none) : Fr N H H' := fun b o e n => f b o e fun hm => by
  rw [h b hm n] at e
  cases e
/-- tuples are kept -/
def KpT (H H' : Hp) : Prop := ∀ a xs, H a = some (.tup xs) → H' a = some (.tup xs)
theorem Fr.kt0 (f : Fr [] H H') : KpT H H' := fun _ _ e => f.use0 e
theorem Fr.kt (f : Fr M H H') (h : ∀ b ∈ M, ∀ xs, H b ≠ some (.tup xs)) : KpT H H' := fun a xs e => f.use e fun hm => h a hm xs e
theorem KpT.refl : KpT H H := fun _ _ e => e
theorem KpT.trans (a : KpT H H') (b : KpT H' H1) : KpT H H1 := fun p xs e => b p xs (a p xs e)
theorem KpT.new {o : HO} (f : KpT H H') (h : H' p = none) : KpT H (upd H' p o) := fun a xs e => by
  have z := f a xs e
  rw [upd_ne (ne_of_none z h)]
  exact z
theorem KpT.mut {o u : HO} (f : KpT H H') (h : H' p = some u) (hu : ∀ xs, u ≠ .tup xs) : KpT H (upd H' p o) := fun a xs e => by
  have z := f a xs e
  rw [upd_ne (show a ≠ p from fun w => by rw [w, h] at z; exact hu xs (Option.some.inj z))]
  exact z
theorem Fr.sqT {a : Addr} {xs : List V} (f : Fr [] H H') (h : SqT K H a xs) : SqT K H' a xs := by
  rcases h with (h | ⟨o, h⟩) | h
  · exact .inl (.inl (f.use0 h))
  · exact .inl (.inr ⟨o, f.use0 h⟩)
  · exact .inr h
mutual
theorem Dp.fr (f : Fr [] H H') : ∀ {d : PyData} {v : V}, Dp K H v d → Dp K H' v d
  | .none, _, h => by cases h; exact .non
  | .bool _, _, h => by cases h; exact .bl _
  | .int _, _, h => by cases h; exact .int _
  | .str _, _, h => by cases h; exact .str _
  | .list _, _, h => by
    cases h with
    | lst hs ha => exact .lst (f.sqL hs) (DpAll.fr f ha)
  | .tuple _, _, h => by
    cases h with
    | tup hs ha => exact .tup (f.sqT hs) (DpAll.fr f ha)
  | .dict _, _, h => by cases h
theorem DpAll.fr (f : Fr [] H H') : ∀ {ds : List PyData} {vs : List V}, DpAll K H vs ds → DpAll K H' vs ds
  | [], _, h => by cases h; exact .nil
  | d :: ds, _, h => by
    cases h with
    | cons h1 h2 => exact .cons (Dp.fr f h1) (DpAll.fr f h2)
end
theorem DpAll.ints : ∀ (l : List Int), DpAll K H (l.map .int) (l.map .int)
  | [] => .nil
  | _ :: l => .cons (.int _) (DpAll.ints l)
theorem DpAll.strs : ∀ (l : List Str), DpAll K H (l.map .str) (l.map .str)
  | [] => .nil
  | _ :: l => .cons (.str _) (DpAll.strs l)
theorem DpAll.of {α : Type} {g : α → PyData} {F : V → α → Prop} (h : ∀ v a, F v a → Dp K H v (g a)) : ∀ {vs : List V} {l : List α}, Paired F vs l → DpAll K H vs (l.map g)
  | _, _, .nil => .nil
  | _, _, .cons a b => .cons (h _ _ a) (DpAll.of h b)
end
/-! the size of data -/
def Shp (n : Nat) (d : PyData) : Prop := d.canLay0 = true ∧ d.depth ≤ n
def ShpAll (n : Nat) (ds : List PyData) : Prop := PyData.canLayAll0 ds = true ∧ PyData.depthAll ds ≤ n
section
variable {n m : Nat} {d : PyData} {ds : List PyData}
theorem Shp.ok (h : Shp n d) (l : n ≤ 64 := by decide) : SeqAt.shaped d = true := by
  show (d.canLay0 && decide (d.depth ≤ 64)) = true
  rw [h.1, decide_eq_true (Nat.le_trans h.2 l)]
  rfl
theorem Shp.int {i : Int} : Shp n (.int i) := ⟨by simp only [PyData.canLay0], by simp only [PyData.depth]; omega⟩
theorem Shp.bool {i : Bool} : Shp n (.bool i) := ⟨by simp only [PyData.canLay0], by simp only [PyData.depth]; omega⟩
theorem Shp.none : Shp n .none := ⟨by simp only [PyData.canLay0], by simp only [PyData.depth]; omega⟩
theorem Shp.str {x : Str} (h : PyData.strOk x = true) : Shp n (.str x) := ⟨by simp only [PyData.canLay0]; exact h, by simp only [PyData.depth]; omega⟩
theorem ShpAll.nil : ShpAll n [] := ⟨by simp only [PyData.canLayAll0], by simp only [PyData.depthAll]; omega⟩
theorem ShpAll.cons (h : Shp n d) (t : ShpAll n ds) : ShpAll n (d :: ds) := ⟨by simp only [PyData.canLayAll0, h.1, t.1, Bool.and_self], by have := h.2; have := t.2; simp only [PyData.depthAll]; omega⟩
theorem Shp.tup (h : ShpAll n ds) : Shp (n + 1) (.tuple ds) := ⟨by simp only [PyData.canLay0]; exact h.1, by have := h.2; simp only [PyData.depth]; omega⟩
theorem Shp.lst (h : ShpAll n ds) : Shp (n + 1) (.list ds) := ⟨by simp only [PyData.canLay0]; exact h.1, by have := h.2; simp only [PyData.depth]; omega⟩
theorem ShpAll.map {α : Type} {g : α → PyData} (h : ∀ a, Shp n (g a)) : ∀ (l : List α), ShpAll n (l.map g)
  | [] => .nil
  | a :: l => .cons (h a) (ShpAll.map h l)
theorem ShpAll.mapOf {α : Type} {g : α → PyData} : ∀ (l : List α), (∀ a ∈ l, Shp n (g a)) → ShpAll n (l.map g)
  | [], _ => .nil
  | a :: l, h => .cons (h a List.mem_cons_self) (ShpAll.mapOf l fun b hb => h b (List.mem_cons_of_mem _ hb))
end
/-! equality of data -/
mutual
theorem eqv_refl : ∀ (d : PyData), Shp m d → PyData.eqv d d = true
  | .none, _ => by simp only [PyData.eqv]
  | .bool _, _ => by simp only [PyData.eqv, beq_self_eq_true]
  | .int _, _ => by simp only [PyData.eqv, beq_self_eq_true]
  | .str _, _ => by simp only [PyData.eqv, beq_self_eq_true]
  | .list ds, h => by
    simp only [PyData.eqv]
    exact eqvAll_refl ds (m := m) ⟨by have := h.1; simp only [PyData.canLay0] at this; exact this, by have := h.2; simp only [PyData.depth] at this; omega⟩
  | .tuple ds, h => by
    simp only [PyData.eqv]
    exact eqvAll_refl ds (m := m) ⟨by have := h.1; simp only [PyData.canLay0] at this; exact this, by have := h.2; simp only [PyData.depth] at this; omega⟩
  | .dict _, h => by
    have := h.1
    simp only [PyData.canLay0] at this
    cases this
theorem eqvAll_refl : ∀ (ds : List PyData), ShpAll m ds → PyData.eqvAll ds ds = true
  | [], _ => by simp only [PyData.eqvAll]
  | d :: ds, h => by
    have h1 := h.1
    have h2 := h.2
    simp only [PyData.canLayAll0, Bool.and_eq_true] at h1
    simp only [PyData.depthAll] at h2
    simp only [PyData.eqvAll, eqv_refl d (m := m) ⟨h1.1, by omega⟩, eqvAll_refl ds (m := m) ⟨h1.2, by omega⟩, Bool.and_self]
end
theorem eqvAll_ints : ∀ (a b : List Int), PyData.eqvAll (a.map .int) (b.map .int) = decide (a = b)
  | [], [] => by simp [PyData.eqvAll]
  | [], _ :: _ => by simp [PyData.eqvAll]
  | _ :: _, [] => by simp [PyData.eqvAll]
  | x :: a, y :: b => by
    have ih := eqvAll_ints a b
    simp only [List.map_cons, PyData.eqvAll, PyData.eqv, ih]
    by_cases h : x = y <;> by_cases h2 : a = b <;> simp [h, h2]
/-- an own error with one field, raised -/
def Rai (C : Addr) (f : Str) (v : V) (H : Hp) (E : XK) : Prop := ∀ d H1, Fr [] H H1 → H1 d = some (.xd [(f, v)]) → E (.ref C) (some d) H1
theorem Rai.of {C : Addr} {f : Str} {v : V} {H H' : Hp} {E : XK} (h : Rai C f v H E) (g : Fr [] H H') : ∃ u, [v] = [u] ∧ ∀ d, H' d = none → E (.ref C) (some d) (upd H' d (.xd [(f, u)])) :=
  ⟨v, rfl, fun d hd => h d _ (g.new hd) upd_same⟩
theorem Rai.fr {C : Addr} {f : Str} {v : V} {H H' : Hp} {E : XK} (h : Rai C f v H E) (g : Fr [] H H') : Rai C f v H' E := fun d H1 f2 e => h d H1 (g.trans f2) e
/-! the read of xs[i] += e -/
def rGetL (K : PySem.W.Frag) : V → V → Hp → VK → Prop := fun x y H Q => ∃ p xs i v, x = .ref p ∧ y = .int i ∧ SqL K H p xs ∧ atI xs i = some v ∧ Q v H
theorem get_list {X : Cx} : PGet X (rGetL X.K) := by
  intro pins s σ H x y v u Q I rx ry h
  obtain ⟨p, xs, i, z, rfl, rfl, hq, he, q⟩ := h
  cases rx
  obtain ⟨t, rfl⟩ := ry
  obtain ⟨its, r, pl, hz⟩ := I.list hq
  obtain ⟨j, h1, h2, h3, h4, h5⟩ := atI_get he
  obtain ⟨w, ew, rw'⟩ := r.get h2
  have hl := r.length
  have hn := line63
  have fin : EP X pins σ Q w s := ⟨z, H, I, rw', q⟩
  by_cases h0 : 0 ≤ i
  · have hj : i.toNat = j := by
      rw [seqIndex_of h0 h5] at h1
      exact Option.some.inj h1
    exact wpAny_getItem_list pl.isList h0 (by omega) (by rw [hj]; simpa using ew) fin
  · have hj : (i + (its.toArray.size : Int)).toNat = j := by
      rw [seqIndex_neg (by omega) h4] at h1
      rw [List.size_toArray, ← hl]
      exact Option.some.inj h1
    exact wpAny_getItem_list_neg pl.isList (by omega) (by rw [List.size_toArray] <;> omega) (by omega) (by rw [hj]; simpa using ew) fin
theorem g_getL {K : PySem.W.Frag} {H : Hp} {a : Addr} {xs : List V} {j : Int} {v : V} {Q : VK} (h : SqL K H a xs) (e : atI xs j = some v) (k : Q v H) : rGetL K (.ref a) (.int j) H Q := ⟨a, xs, j, v, rfl, rfl, h, e, k⟩
theorem g_setL {H : Hp} {a : Addr} {xs : List V} {m : Nat} {v : V} {Q : Hp → Prop} (h : H a = some (.lst xs)) (e : m < xs.length) (k : Q (upd H a (.lst (xs.set m v)))) : rSetL (.ref a) (.int m) v H Q := ⟨a, xs, m, m, rfl, rfl, h, ixN_n e, k⟩
theorem g_inD {K : PySem.W.Frag} {H : Hp} {x y : V} {Q : VK} {n m : Nat} {d : PyData} {ds : List PyData} (h1 : Dp K H x d) (h2 : Dp K H y (.list ds)) (s1 : Shp n d) (s2 : Shp m (.list ds)) (l1 : n ≤ 64) (l2 : m ≤ 64) (k : Q (.bl (ds.any fun z => PyData.eqv z d)) H) : rInD K x y H Q := ⟨d, ds, h1, h2, s1.ok l1, s2.ok l2, k⟩
theorem g_notInD {K : PySem.W.Frag} {H : Hp} {x y : V} {Q : VK} {n m : Nat} {d : PyData} {ds : List PyData} (h1 : Dp K H x d) (h2 : Dp K H y (.list ds)) (s1 : Shp n d) (s2 : Shp m (.list ds)) (l1 : n ≤ 64) (l2 : m ≤ 64) (k : Q (.bl (!ds.any fun z => PyData.eqv z d)) H) : rNotInD K x y H Q := ⟨d, ds, h1, h2, s1.ok l1, s2.ok l2, k⟩
theorem g_eqD {K : PySem.W.Frag} {H : Hp} {x y : V} {Q : VK} {n m : Nat} {d e : PyData} (h1 : Dp K H x d) (h2 : Dp K H y e) (s1 : Shp n d) (s2 : Shp m e) (l1 : n ≤ 64) (l2 : m ≤ 64) (k : Q (.bl (PyData.eqv d e)) H) : rEqD K x y H Q := ⟨d, e, h1, h2, s1.ok l1, s2.ok l2, k⟩
theorem g_neD {K : PySem.W.Frag} {H : Hp} {x y : V} {Q : VK} {n m : Nat} {d e : PyData} (h1 : Dp K H x d) (h2 : Dp K H y e) (s1 : Shp n d) (s2 : Shp m e) (l1 : n ≤ 64) (l2 : m ≤ 64) (k : Q (.bl (!PyData.eqv d e)) H) : rNeD K x y H Q := ⟨d, e, h1, h2, s1.ok l1, s2.ok l2, k⟩
theorem g_mak {σ : St} {H : Hp} {C : Addr} {sp : Sp} {dvs : List V} {W : WX} {t : TA} {Q : VK} (k : t σ H fun vs H1 => ∀ x dx, H1 x = none → H1 dx = none → dx ≠ x → sp (.ref x :: (vs ++ dvs)) (upd (upd H1 dx (.own x)) x (.ins C dx [])) (fun v H2 => v = .non ∧ Q (.ref x) H2) (fun cls d H => W cls d σ H)) : tMak C sp dvs W t σ H Q := k
theorem g_augS {σ : St} {H : Hp} {D : Ends} {to ti te : TE} {tget : V → V → Hp → VK → Prop} {tip : TIp} {tset : TSet} (k : to σ H fun o H1 => ti σ H1 fun i H2 => tget o i H2 fun x H3 => te σ H3 fun y H4 => tip x y H4 fun z H5 => tset o i z H5 fun H6 => D.nx σ H6) : tAugS to ti te tget tip tset D σ H := k
theorem g_ipI {f : Int → Int → Int} {i j : Int} {H : Hp} {Q : VK} (k : Q (.int (f i j)) H) : ipI f (.int i) (.int j) H Q := ⟨i, j, rfl, rfl, k⟩
theorem g_asgS {te to ti : TE} {tset : TSet} {D : Ends} {σ : St} {H : Hp} (k : te σ H fun x H1 => to σ H1 fun o H2 => ti σ H2 fun i H3 => tset o i x H3 fun H4 => D.nx σ H4) : tAsg te (gSub to ti tset) D σ H := k
theorem g_mod {i j : Int} {H : Hp} {Q : VK} (h : 0 < j) (k : Q (.int (i % j)) H) : rI (fun _ j => 0 < j) (fun i j => .int (i % j)) (.int i) (.int j) H Q := ⟨i, j, rfl, rfl, h, k⟩
theorem g_fdivW {i j : Int} {H : Hp} {Q : VK} (h : 0 < j) (h2 : j.natAbs.log2 < 9000) (k : Q (.int (i / j)) H) : rI CDivW (fun i j => .int (i / j)) (.int i) (.int j) H Q := ⟨i, j, rfl, rfl, ⟨h, h2⟩, k⟩
theorem g_fdiv {i j : Int} {H : Hp} {Q : VK} (h : CDiv i j) (k : Q (.int (i / j)) H) : rI CDiv (fun i j => .int (i / j)) (.int i) (.int j) H Q := ⟨i, j, rfl, rfl, h, k⟩
theorem g_mul {i j : Int} {H : Hp} {Q : VK} (h : CMul i j) (k : Q (.int (i * j)) H) : rI CMul (fun i j => .int (i * j)) (.int i) (.int j) H Q := ⟨i, j, rfl, rfl, h, k⟩
theorem g_pow {i j : Int} {H : Hp} {Q : VK} (h : CPow i j) (k : Q (.int (i ^ j.toNat)) H) : rI CPow (fun i j => .int (i ^ j.toNat)) (.int i) (.int j) H Q := ⟨i, j, rfl, rfl, h, k⟩
theorem g_gName {i : Nat} {v : V} {σ : St} {H : Hp} {Q : St → Hp → Prop} (k : Q (σ.set i (some v)) H) : gName i v σ H Q := k
theorem g_rng1 {ta : TA} {σ : St} {H : Hp} {R : It → Hp → Prop} (k : ta σ H fun vs H1 => ∃ j : Int, vs = [.int j] ∧ -(2 ^ 62) ≤ j ∧ j < 2 ^ 62 ∧ R (Itr 0 j.toNat) H1) : iRng1 ta σ H R := k
theorem g_rng1q {j : Int} {A : Int → Prop} (h1 : 0 ≤ j) (h2 : j < 2 ^ 62) (k : A j) : ∃ i : Int, [V.int j] = [V.int i] ∧ -(2 ^ 62) ≤ i ∧ i < 2 ^ 62 ∧ A i := ⟨j, rfl, by omega, h2, k⟩
theorem g_itL {K : PySem.W.Frag} {tl : TE} {σ : St} {H : Hp} {R : It → Hp → Prop} (k : tl σ H fun x H1 => ∃ a, x = .ref a ∧ (∃ xs, SqL K H1 a xs) ∧ R (Itl K a) H1) : iList K tl σ H R := k
theorem g_itLq {K : PySem.W.Frag} {H : Hp} {a : Addr} {xs : List V} {A : Addr → Prop} (h : SqL K H a xs) (k : A a) : ∃ b, V.ref a = .ref b ∧ (∃ xs, SqL K H b xs) ∧ A b := ⟨a, rfl, ⟨xs, h⟩, k⟩
theorem cpow5 {i : Int} (h1 : 0 ≤ i) (h2 : i < 2 ^ 63) : CPow i 5 := ⟨by decide, by decide, by omega⟩
theorem bt_len : bootBuiltins "len" = some (.builtin "len") := by decide +kernel
theorem bt_isinstance : bootBuiltins "isinstance" = some (.builtin "isinstance") := by decide +kernel
theorem bt_max : bootBuiltins "max" = some (.builtin "max") := by decide +kernel
theorem bt_min : bootBuiltins "min" = some (.builtin "min") := by decide +kernel
theorem bt_all : bootBuiltins "all" = some (.builtin "all") := by decide +kernel
theorem bt_any : bootBuiltins "any" = some (.builtin "any") := by decide +kernel
theorem bt_sum : bootBuiltins "sum" = some (.builtin "sum") := by decide +kernel
theorem bt_sorted : bootBuiltins "sorted" = some (.builtin "sorted") := by decide +kernel
theorem bt_list : bootBuiltins "list" = some (.type "list") := by decide +kernel
theorem bt_tuple : bootBuiltins "tuple" = some (.type "tuple") := by decide +kernel
theorem bt_int : bootBuiltins "int" = some (.type "int") := by decide +kernel
theorem bt_str : bootBuiltins "str" = some (.type "str") := by decide +kernel
theorem bt_bool : bootBuiltins "bool" = some (.type "bool") := by decide +kernel
theorem bt_dict : bootBuiltins "dict" = some (.type "dict") := by decide +kernel
theorem bt_set : bootBuiltins "set" = some (.type "set") := by decide +kernel
theorem pe_bmK {X : Cx} {K : PySem.W.Frag} (hK : X.K = K) {o e : Expr} {es : List Expr} {to : TE} {t : TA} {name : Str} {apos cpos : Pos} {T id : String} {r : V → List V → Hp → VK → Prop}
    (pa : PlainAttrs T) (slot : Slot T name id) (hty : typeOf (.builtin id) = pure (.type "method_descriptor")) (hm : MtR X id r) (ho : PE X o to) (ha : PA X (e :: es) t)
    (hbase : attributeBase o name X.env (eval o X.env) = eval o X.env := by rfl)
    (hfew : ((backTo cpos (starEach (e :: es) X.env)).all (fun x => !x.1) && (backToKw cpos (keywordEach [] X.env)).all (fun x => x.1.isSome)
      && decide ((e :: es).length + ([] : List Keyword).length + (if ([] : List Keyword).isEmpty then 0 else 1) < 30)) = true := by rfl)
    (hline : (apos.endLine == cpos.line) = true := by rfl) (hs : starEach (e :: es) X.env = (false, eval e X.env) :: starEach es X.env := by rfl) (hplain : (backTo cpos (starEach es X.env)).any (·.1) = false := by rfl) :
    PE X (.Call (.Attribute o name apos) (e :: es) [] cpos) (tBM K T r to t) := by
  subst hK
  exact pe_bm pa slot hty hm ho ha hbase hfew hline hs hplain
/-! caught errors -/
theorem g_wG {Wo : WX} {D : Ends} {m : Value → Option Bool} {oi : Option Nat} {ts : Addr → Obj → List (Addr × Obj) → Value → Option Addr → TS} {r : List ClG} {cls : Value} {d : Option Addr} {σ : St} {H : Hp} (e : m cls = some true)
    (k : ∀ a, H a = none → ∀ oe pn, ts a oe pn cls d (dAs oi D) (sAs oi a σ) H) : wG Wo D ((m, oi, ts) :: r) cls d σ H := ⟨true, e, fun _ => k, fun z => nomatch z⟩
theorem g_wGno {Wo : WX} {D : Ends} {m : Value → Option Bool} {oi : Option Nat} {ts : Addr → Obj → List (Addr × Obj) → Value → Option Addr → TS} {r : List ClG} {cls : Value} {d : Option Addr} {σ : St} {H : Hp} (e : m cls = some false)
    (k : wG Wo D r cls d σ H) : wG Wo D ((m, oi, ts) :: r) cls d σ H := ⟨false, e, (fun z => nomatch z), fun _ => k⟩
theorem g_isX {K : PySem.W.Frag} {a C E dd : Addr} {fs : List (Str × V)} {b : Bool} {H : Hp} {Q : VK} (h : H dd = some (.xd fs)) (t : CXf K C) (e : PySem.W.kitOne K (.ref C) (.ref E) = some b) (k : Q (.bl b) H) : rIsX K (.ref C) (some dd) a [.ref a, .ref E] H Q :=
  ⟨.ref E, .ref E, b, C, dd, fs, rfl, fun u r => r, rfl, rfl, h, t, e, k⟩
theorem g_xfG {K : PySem.W.Frag} {a : Addr} {cls : Value} {d : Option Addr} {f : Str} {te : TE} {σ : St} {H : Hp} {Q : VK} (k : te σ H fun x H1 => ∃ (C dd : Addr) (fs : List (Str × V)) (v : V), x = .ref a ∧ cls = .ref C ∧ d = some dd ∧ CXf K C ∧ PySem.W.findIn K (.ref C) f = some none ∧ H1 dd = some (.xd fs) ∧ fs.lookup f = some v ∧ Q v H1) : tXfG K a cls d f te σ H Q := k
theorem g_xfGq {K : PySem.W.Frag} {a C dd : Addr} {f : Str} {fs : List (Str × V)} {v : V} {H : Hp} {A : V → Prop} (t : CXf K C) (n : PySem.W.findIn K (.ref C) f = some none) (h : H dd = some (.xd fs)) (l : fs.lookup f = some v) (k : A v) :
    ∃ (C' dd' : Addr) (fs : List (Str × V)) (v : V), V.ref a = .ref a ∧ Value.ref C = .ref C' ∧ some dd = some dd' ∧ CXf K C' ∧ PySem.W.findIn K (.ref C') f = some none ∧ H dd' = some (.xd fs) ∧ fs.lookup f = some v ∧ A v := ⟨C, dd, fs, v, rfl, rfl, rfl, t, n, h, l, k⟩
theorem g_int1b {b : Bool} {H : Hp} {A : Int → Prop} (k : A (if b = true then 1 else 0)) : (∃ i, [V.bl b] = [.int i] ∧ A i) ∨ ∃ k, [V.bl b] = [.bl k] ∧ A (if k = true then 1 else 0) := .inr ⟨b, rfl, k⟩
theorem g_dget {td ty : TE} {σ : St} {H : Hp} {Q : VK} (k : td σ H fun x H1 => ty σ H1 fun y H2 => ∃ a v, x = .ref a ∧ DGet H2 a y (some v) ∧ Q v H2) : tDGet td ty σ H Q := k
theorem g_dgetK {H : Hp} {a : Addr} {kvs : List (Key × V)} {z : Str} {v : V} {A : V → Prop} (h : H a = some (.dK kvs)) (e : valV kvs (.inr z) = some v) (k : A v) : ∃ b u, V.ref a = .ref b ∧ DGet H b (.str z) (some u) ∧ A u := ⟨a, v, rfl, by rw [← e]; exact DGet.k (k := .inr z) h, k⟩
theorem g_slT {K : PySem.W.Frag} {H : Hp} {a : Addr} {xs ys : List V} {lo hi : Option Int} {Q : VK} {L : Nat} (h : SqT K H a xs) (l : xs.length = L) (n : ¬ (HT.sIx L 0 lo = 0 ∧ HT.sIx L L hi = L)) (e : cutV xs lo hi = ys) (k : ∀ p, H p = none → Q (.ref p) (upd H p (.tup ys))) : rSlT K (.ref a) lo hi H Q := ⟨a, xs, rfl, h, by rw [l]; exact n, by rw [e]; exact k⟩
theorem g_sl {r : V → Option Int → Option Int → Hp → VK → Prop} {te : TE} {tl th : TO} {σ : St} {H : Hp} {Q : VK} (k : te σ H fun x H1 => tl σ H1 fun l H2 => th σ H2 fun u H3 => r x l u H3 Q) : tSl r te tl th σ H Q := k
theorem g_part {t : TE} {σ : St} {H : Hp} {Q : Option Int → Hp → Prop} (k : t σ H fun x H1 => ∃ i, x = .int i ∧ Q (some i) H1) : tPart t σ H Q := k
theorem g_partq {i : Int} {A : Int → Prop} (k : A i) : ∃ j, V.int i = .int j ∧ A j := ⟨i, rfl, k⟩
theorem g_nopart {σ : St} {H : Hp} {Q : Option Int → Hp → Prop} (k : Q none H) : tNoPart σ H Q := k
theorem tok_int : tyOK "int" := .inr (.inr (.inl rfl))
theorem tok_lst : tyOK "list" := .inr (.inr (.inr (.inr (.inl rfl))))
theorem tok_tup : tyOK "tuple" := .inr (.inr (.inr (.inr (.inr (.inl rfl)))))
theorem valV_hd {k : Key} {v : V} {r : List (Key × V)} : valV ((k, v) :: r) k = some v := by simp [valV]
theorem valV_tl {k k' : Key} {v u : V} {r : List (Key × V)} (h : k' ≠ k) (e : valV r k = some v) : valV ((k', u) :: r) k = some v := by
  simp only [valV] at e ⊢
  simp [List.find?, h, e]
theorem KpT.mutL {H H' : Hp} {p : Addr} {o : HO} {ys : List V} (f : KpT H H') (h : H' p = some (.lst ys)) : KpT H (upd H' p o) := f.mut h (fun _ z => nomatch z)
theorem px0 {X : Cx} : Passes (L2.CX X.prog X.w) X (fun _ _ _ => False) := passes_call takes0 (fun _ _ _ _ h => h)
theorem g_lenO {C : Addr} {sp : Sp} {E : XK} {a dx : Addr} {fs : List (Str × V)} {H : Hp} {Q : VK} (h : H a = some (.ins C dx fs)) (k : sp [.ref a] H (fun v H' => ∃ n : Nat, v = .int n ∧ n ≤ sizeLine ∧ Q (.int n) H') E) : rLenO C sp E [.ref a] H Q := ⟨a, dx, fs, rfl, h, k⟩
theorem g_ownI {K : PySem.W.Frag} {C : Addr} {sp : Sp} {E : XK} {a dx : Addr} {fs : List (Str × V)} {y : V} {tb : Value} {H : Hp} {Q : VK} (h : H a = some (.ins C dx fs)) (t : TyOf K H y tb) (n : PySem.W.notFirst K C tb = true) (k : sp [.ref a, y] H Q E) : rOwnI K C sp E (.ref a) y H Q := ⟨a, dx, fs, tb, rfl, h, t, n, k⟩
theorem Th.fr0 {K : PySem.W.Frag} {H H' : Hp} {v : V} (h : ∃ T, Th K H v T) (f : Fr [] H H') : ∃ T, Th K H' v T := h.elim fun T z => ⟨T, z.fr f⟩
theorem g_all {H : Hp} {A : Addr → Prop} (k : ∀ l, H l = none → A l) : ∀ l, H l = none → A l := k
theorem ndec {α : Type} [DecidableEq α] {x : α} : (!decide (x = x)) = false := by simp
/-! in a block of a comprehension the reading names K itself -/
section
variable {X : Cx} {K : PySem.W.Frag}
theorem opK {f : Value → Value → Sem Value} {r : PySem.W.Frag → R2} (hK : X.K = K) (h : OpR X f (r X.K)) : OpR X f (r K) := hK ▸ h
theorem ixK {r : PySem.W.Frag → R2} (hK : X.K = K) (h : IxR X (r X.K)) : IxR X (r K) := hK ▸ h
theorem callK {f : Value} {r : PySem.W.Frag → List V → Hp → VK → Prop} (hK : X.K = K) (h : CallR X f (r X.K)) : CallR X f (r K) := hK ▸ h
@[reducible] def rLenS (K : PySem.W.Frag) : List V → Hp → VK → Prop := fun xs H Q => ∃ p ys, xs = [.ref p] ∧ (SqL K H p ys ∨ SqT K H p ys) ∧ Q (.int ys.length) H
@[reducible] def rListOf (K : PySem.W.Frag) : List V → Hp → VK → Prop := fun xs H Q => ∃ p ys, xs = [.ref p] ∧ (SqL K H p ys ∨ SqT K H p ys) ∧ ∀ l, H l = none → Q (.ref l) (upd H l (.lst ys))
@[reducible] def rTupOf (K : PySem.W.Frag) : List V → Hp → VK → Prop := fun xs H Q => ∃ p ys, xs = [.ref p] ∧ ((SqL K H p ys ∧ ∀ l, H l = none → Q (.ref l) (upd H l (.tup ys))) ∨ (SqT K H p ys ∧ Q (.ref p) H))
theorem call_lenK (hK : X.K = K) : CallR X (.builtin "len") (rLenS K) := callK hK call_len_seq
theorem call_listK (hK : X.K = K) : CallR X (.type "list") (rListOf K) := callK hK call_list_of
theorem call_tupK (hK : X.K = K) : CallR X (.type "tuple") (rTupOf K) := callK hK call_tuple_of
theorem call_isKb (hK : X.K = K) : CallR X (.builtin "isinstance") (rIsi K) := callK hK call_isi
theorem pe_fldK {e : Expr} {te : TE} {f : Str} {pos : Pos} (hK : X.K = K) (he : PE X e te) (hb : attributeBase e f X.env (eval e X.env) = eval e X.env := by rfl) : PE X (.Attribute e f pos) (tFld K te f) := by subst hK; exact pe_fld he hb
end
theorem g_U {g : Int → V} {i : Int} {H : Hp} {Q : VK} (k : Q (g i) H) : rU g (.int i) H Q := ⟨i, rfl, k⟩
theorem g_dnew {σ : St} {H : Hp} {Q : VK} (k : ∀ p, H p = none → Q (.ref p) (upd H p (.dK []))) : tDNewK σ H Q := k
theorem g_lc {wi : TI} {g : TG} {tt : TT} {te : TE} {vs : List Nat} {σ : St} {H : Hp} {Q : VK} (k : wi σ H fun J H1 => ∀ D, H1 D = none → ∃ W : Nat → Nat → Hp → Prop, (∃ m, W 0 m (upd H1 D (.lst []))) ∧ ∀ i m H, W i m H →
  (J.stop i H ∧ Q (.ref D) H) ∨ (J.go i H ∧ ∃ Nx : Hp → Prop, (∀ H', Nx H' → ∃ m', m' < m ∧ W (i + 1) m' H') ∧ ∀ x H', J.yld i H x H' → g x (wipe σ vs) H' fun σ2 H2 => wipe σ2 vs = wipe σ vs ∧ tt σ2 H2 fun b H3 =>
    if b = true then te σ2 H3 fun y H4 => ∃ acc, H4 D = some (.lst acc) ∧ acc.length < sizeLine ∧ Nx (upd H4 D (.lst (acc ++ [y]))) else Nx H3)) : tLc wi g tt te vs σ H Q := k
/-- [e for x in xs], each answer true, the old heap kept -/
theorem lc_all {K : PySem.W.Frag} {a : Addr} {xs : List V} {te : TE} {i : Nat} {σ : St} {H1 : Hp} {D : Addr} {Qd : Hp → Prop} (hl : H1 a = some (.lst xs)) (hD : H1 D = none) (hx : xs.length < 1000) (hw : ∀ x, wipe ((wipe σ [i]).set i (some x)) [i] = wipe σ [i])
    (hs : ∀ x ∈ xs, ∀ H, Fr [] H1 H → ∀ Qe : VK, (∀ H4, Fr [] H H4 → Qe (.bl true) H4) → te ((wipe σ [i]).set i (some x)) H Qe)
    (hd : ∀ H, Fr [] H1 H → H D = some (.lst (List.replicate xs.length (.bl true))) → Qd H) :
    ∃ W : Nat → Nat → Hp → Prop, (∃ m, W 0 m (upd H1 D (.lst []))) ∧ ∀ j m H, W j m H →
      ((Itl K a).stop j H ∧ Qd H) ∨ ((Itl K a).go j H ∧ ∃ Nx : Hp → Prop, (∀ H', Nx H' → ∃ m', m' < m ∧ W (j + 1) m' H') ∧ ∀ x H', (Itl K a).yld j H x H' → gName i x (wipe σ [i]) H' fun σ2 H2 => wipe σ2 [i] = wipe σ [i] ∧ tYes σ2 H2 fun b H3 =>
        if b = true then te σ2 H3 fun y H4 => ∃ acc, H4 D = some (.lst acc) ∧ acc.length < sizeLine ∧ Nx (upd H4 D (.lst (acc ++ [y]))) else Nx H3) := by
  refine lc_list (K := K) (xs := xs) (fun j H => Fr [] H1 H ∧ H D = some (.lst (List.replicate j (.bl true)))) ⟨Fr.refl.new hD, upd_same⟩ (fun j H _ p => SqL.of (p.1.use0 hl)) (fun j x H e p => ?_) fun H p => hd H p.1 p.2
  obtain ⟨f, eD⟩ := p
  have z := hs x (List.mem_of_getElem? e) H f (fun y H4 => ∃ acc, H4 D = some (.lst acc) ∧ acc.length < sizeLine ∧ (Fr [] H1 (upd H4 D (.lst (acc ++ [y]))) ∧ (upd H4 D (.lst (acc ++ [y]))) D = some (.lst (List.replicate (j + 1) (.bl true))))) fun H4 f4 => ⟨_, f4.use0 eD, ?_, (f.trans f4).mutN hD, ?_⟩
  · exact ⟨hw x, z⟩
  · have : j < xs.length := (List.getElem?_eq_some_iff.mp e).1
    rw [List.length_replicate]
    exact lt1000 (by omega)
  · rw [List.replicate_succ', upd_same]
theorem g_all' {K : PySem.W.Frag} {H : Hp} {a : Addr} {bs : List Bool} {A : Bool → Prop} (h : H a = some (.lst (bs.map .bl))) (k : A (bs.all id)) : ∃ (b : Addr) (cs : List Bool), [V.ref a] = [V.ref b] ∧ SqL K H b (cs.map V.bl) ∧ A (cs.all id) := ⟨a, bs, rfl, SqL.of h, k⟩
theorem g_allT {K : PySem.W.Frag} {H : Hp} {a : Addr} {n : Nat} {Q : VK} (h : H a = some (.lst (List.replicate n (.bl true)))) (k : Q (.bl true) H) : rAll K [.ref a] H Q :=
  ⟨a, List.replicate n true, rfl, SqL.of (by rw [h, List.map_replicate]), by rw [show (List.replicate n true).all id = true from List.all_eq_true.mpr fun x hx => (List.eq_of_mem_replicate hx)]; exact k⟩
theorem flat_of {K : PySem.W.Frag} {H : Hp} {v : V} {T : String} (h : Th K H v T) : flatB v = true ∨ ∃ a, v = .ref a := by
  rcases h.sc with e | ⟨a, rfl, _⟩
  · cases v with
    | non => exact .inl rfl
    | bl b => exact .inl rfl
    | int i => exact .inl rfl
    | str z => exact .inl rfl
    | _ => cases e
  · exact .inr ⟨a, rfl⟩
theorem g_eqS2 {K : PySem.W.Frag} {H : Hp} {p q : Addr} {x1 x2 y1 y2 : V} {Q : VK} (h1 : H p = some (.tup [x1, x2])) (h2 : H q = some (.tup [y1, y2])) (e1 : EqI K H x1 y1) (e2 : EqI K H x2 y2) (k : Q (.bl true) H) : rEqS K (.ref p) (.ref q) H Q :=
  ⟨p, q, _, _, rfl, rfl, .inr ⟨SqT.of h1, SqT.of h2⟩, .cons e1 (.cons e2 .nil), k⟩
theorem g_disp {trs : List (TE × TE)} {σ : St} {H : Hp} {Q : VK} (k : ∀ p, H p = none → tPairs trs σ (upd H p (.dK [])) fun ps H2 => H2 p = some (.dK []) ∧ ∃ kvs : List (Key × V), ps = kvs.map (fun kv => (kV kv.1, kv.2)) ∧ kvs.length ≤ 15 ∧ Q (.ref p) (upd H2 p (.dK (mergeK [] kvs)))) : tDisp trs σ H Q := k
theorem g_pnil {σ : St} {H : Hp} {Q : List (V × V) → Hp → Prop} (k : Q [] H) : tPairs [] σ H Q := k
theorem g_pcons {tk tv : TE} {r : List (TE × TE)} {σ : St} {H : Hp} {Q : List (V × V) → Hp → Prop} (k : tk σ H fun x H1 => tv σ H1 fun y H2 => tPairs r σ H2 fun ps H3 => Q ((x, y) :: ps) H3) : tPairs ((tk, tv) :: r) σ H Q := k
/-- the end of a display of two keys -/
theorem g_dispE {k1 k2 : Str} {y1 y2 : V} {p : Addr} {H : Hp} {A : List (Key × V) → Prop} (e : H p = some (.dK [])) (k : A [(.inr k1, y1), (.inr k2, y2)]) :
    H p = some (.dK []) ∧ ∃ kvs : List (Key × V), [(V.str k1, y1), (V.str k2, y2)] = kvs.map (fun kv => (kV kv.1, kv.2)) ∧ kvs.length ≤ 15 ∧ A kvs := ⟨e, _, rfl, by exact of_decide_eq_true rfl, k⟩
theorem lc_gen {K : PySem.W.Frag} {a : Addr} {xs : List V} {te : TE} {i : Nat} {σ : St} {H1 : Hp} {D : Addr} {Qd : Hp → Prop} (Pv : Nat → Hp → Prop) (h0 : Pv 0 (upd H1 D (.lst []))) (hl : ∀ j H, j ≤ xs.length → Pv j H → SqL K H a xs) (hw : ∀ x, wipe ((wipe σ [i]).set i (some x)) [i] = wipe σ [i])
    (hs : ∀ j x H, xs[j]? = some x → Pv j H → te ((wipe σ [i]).set i (some x)) H (fun y H4 => ∃ acc, H4 D = some (.lst acc) ∧ acc.length < sizeLine ∧ Pv (j + 1) (upd H4 D (.lst (acc ++ [y])))))
    (hd : ∀ H, Pv xs.length H → Qd H) :
    ∃ W : Nat → Nat → Hp → Prop, (∃ m, W 0 m (upd H1 D (.lst []))) ∧ ∀ j m H, W j m H →
      ((Itl K a).stop j H ∧ Qd H) ∨ ((Itl K a).go j H ∧ ∃ Nx : Hp → Prop, (∀ H', Nx H' → ∃ m', m' < m ∧ W (j + 1) m' H') ∧ ∀ x H', (Itl K a).yld j H x H' → gName i x (wipe σ [i]) H' fun σ2 H2 => wipe σ2 [i] = wipe σ [i] ∧ tYes σ2 H2 fun b H3 =>
        if b = true then te σ2 H3 fun y H4 => ∃ acc, H4 D = some (.lst acc) ∧ acc.length < sizeLine ∧ Nx (upd H4 D (.lst (acc ++ [y]))) else Nx H3) :=
  lc_list (K := K) (xs := xs) Pv h0 hl (fun j x H e p => ⟨hw x, hs j x H e p⟩) hd
/-- with one test -/
theorem lc_genT {K : PySem.W.Frag} {a : Addr} {xs : List V} {te : TE} {tt : TT} {i : Nat} {σ : St} {H1 : Hp} {D : Addr} {Qd : Hp → Prop} (Pv : Nat → Hp → Prop) (h0 : Pv 0 (upd H1 D (.lst []))) (hl : ∀ j H, j ≤ xs.length → Pv j H → SqL K H a xs) (hw : ∀ x, wipe ((wipe σ [i]).set i (some x)) [i] = wipe σ [i])
    (hs : ∀ j x H, xs[j]? = some x → Pv j H → tt ((wipe σ [i]).set i (some x)) H fun b H3 => if b = true then te ((wipe σ [i]).set i (some x)) H3 (fun y H4 => ∃ acc, H4 D = some (.lst acc) ∧ acc.length < sizeLine ∧ Pv (j + 1) (upd H4 D (.lst (acc ++ [y])))) else Pv (j + 1) H3)
    (hd : ∀ H, Pv xs.length H → Qd H) :
    ∃ W : Nat → Nat → Hp → Prop, (∃ m, W 0 m (upd H1 D (.lst []))) ∧ ∀ j m H, W j m H →
      ((Itl K a).stop j H ∧ Qd H) ∨ ((Itl K a).go j H ∧ ∃ Nx : Hp → Prop, (∀ H', Nx H' → ∃ m', m' < m ∧ W (j + 1) m' H') ∧ ∀ x H', (Itl K a).yld j H x H' → gName i x (wipe σ [i]) H' fun σ2 H2 => wipe σ2 [i] = wipe σ [i] ∧ tt σ2 H2 fun b H3 =>
        if b = true then te σ2 H3 fun y H4 => ∃ acc, H4 D = some (.lst acc) ∧ acc.length < sizeLine ∧ Nx (upd H4 D (.lst (acc ++ [y]))) else Nx H3) :=
  lc_list (K := K) (xs := xs) Pv h0 hl (fun j x H e p => ⟨hw x, hs j x H e p⟩) hd
theorem g_for {wi : TI} {g : TG} {tb : TS} {D : Ends} {σ : St} {H : Hp} (k : wi σ H fun J H1 => ∃ W : Nat → Nat → St → Hp → Prop, (∃ m, W 0 m σ H1) ∧ ∀ i m σ H, W i m σ H →
  (J.stop i H ∧ D.nx σ H) ∨ (J.go i H ∧ ∃ N : St → Hp → Prop, (∀ σ' H', N σ' H' → ∃ m', m' < m ∧ W (i + 1) m' σ' H') ∧ ∀ x H', J.yld i H x H' → g x σ H' fun σ2 H2 => tb { D with nx := N, ct := N, bk := D.nx } σ2 H2)) : tFor wi g tb D σ H := k
theorem g_slL {K : PySem.W.Frag} {H : Hp} {a : Addr} {xs : List V} {lo hi : Option Int} {Q : VK} (h : SqL K H a xs) (k : ∀ p, H p = none → Q (.ref p) (upd H p (.lst (cutV xs lo hi)))) : rSlL K (.ref a) lo hi H Q := ⟨a, xs, rfl, h, k⟩
theorem cutV_mem {xs : List V} {lo hi : Option Int} {x : V} (h : x ∈ cutV xs lo hi) : x ∈ xs := List.mem_of_mem_drop (List.mem_of_mem_take h)
end L2
set_option Elab.async false
set_option linter.all false
set_option maxRecDepth 100000
set_option maxHeartbeats 400000

namespace K78
open PySem PySem.Spec PyProof.Rows L2
def top (i : Nat) : Stmt := PySem.Challenge.pw_causehall_k78_plain_deeds.main.body.getD i (.Pass ⟨0, 0, 0, 0⟩)
abbrev s_NoNumber_init : Stmt := inClass (top 3) 0
theorem sc_NoNumber_init : FnScope ["self", "found"] ["self", "found"] (defScope s_NoNumber_init) := ⟨rfl, rfl, rfl, by decide +kernel, rfl, by decide +kernel, by decide +kernel⟩
def d_NoNumber_init : He.DefD := ⟨("NoNumber", some "__init__"), "__init__", "NoNumber.__init__", defArgs s_NoNumber_init, defBody s_NoNumber_init, defScope s_NoNumber_init, [], []⟩
abbrev s_NoMember_init : Stmt := inClass (top 4) 0
theorem sc_NoMember_init : FnScope ["self", "found"] ["self", "found"] (defScope s_NoMember_init) := ⟨rfl, rfl, rfl, by decide +kernel, rfl, by decide +kernel, by decide +kernel⟩
def d_NoMember_init : He.DefD := ⟨("NoMember", some "__init__"), "__init__", "NoMember.__init__", defArgs s_NoMember_init, defBody s_NoMember_init, defScope s_NoMember_init, [], []⟩
abbrev s_NoDeed_init : Stmt := inClass (top 5) 0
theorem sc_NoDeed_init : FnScope ["self", "found"] ["self", "found"] (defScope s_NoDeed_init) := ⟨rfl, rfl, rfl, by decide +kernel, rfl, by decide +kernel, by decide +kernel⟩
def d_NoDeed_init : He.DefD := ⟨("NoDeed", some "__init__"), "__init__", "NoDeed.__init__", defArgs s_NoDeed_init, defBody s_NoDeed_init, defScope s_NoDeed_init, [], []⟩
abbrev s_Lacks_init : Stmt := inClass (top 6) 0
theorem sc_Lacks_init : FnScope ["self", "found"] ["self", "found"] (defScope s_Lacks_init) := ⟨rfl, rfl, rfl, by decide +kernel, rfl, by decide +kernel, by decide +kernel⟩
def d_Lacks_init : He.DefD := ⟨("Lacks", some "__init__"), "__init__", "Lacks.__init__", defArgs s_Lacks_init, defBody s_Lacks_init, defScope s_Lacks_init, [], []⟩
abbrev s_Known_init : Stmt := inClass (top 7) 0
theorem sc_Known_init : FnScope ["self", "found"] ["self", "found"] (defScope s_Known_init) := ⟨rfl, rfl, rfl, by decide +kernel, rfl, by decide +kernel, by decide +kernel⟩
def d_Known_init : He.DefD := ⟨("Known", some "__init__"), "__init__", "Known.__init__", defArgs s_Known_init, defBody s_Known_init, defScope s_Known_init, [], []⟩
abbrev s_AllTold_init : Stmt := inClass (top 8) 0
theorem sc_AllTold_init : FnScope ["self", "found"] ["self", "found"] (defScope s_AllTold_init) := ⟨rfl, rfl, rfl, by decide +kernel, rfl, by decide +kernel, by decide +kernel⟩
def d_AllTold_init : He.DefD := ⟨("AllTold", some "__init__"), "__init__", "AllTold.__init__", defArgs s_AllTold_init, defBody s_AllTold_init, defScope s_AllTold_init, [], []⟩
abbrev s_is_whole : Stmt := top 12
theorem sc_is_whole : FnScope ["thing", "low", "high"] ["thing", "low", "high"] (defScope s_is_whole) := ⟨rfl, rfl, rfl, by decide +kernel, rfl, by decide +kernel, by decide +kernel⟩
def d_is_whole : He.DefD := ⟨("is_whole", none), "is_whole", "is_whole", defArgs s_is_whole, defBody s_is_whole, defScope s_is_whole, [.non], []⟩
abbrev s_are_members : Stmt := top 13
theorem sc_are_members : FnScope ["thing"] ["thing"] (defScope s_are_members) := ⟨rfl, rfl, rfl, by decide +kernel, rfl, by decide +kernel, by decide +kernel⟩
def d_are_members : He.DefD := ⟨("are_members", none), "are_members", "are_members", defArgs s_are_members, defBody s_are_members, defScope s_are_members, [], []⟩
abbrev s_is_add : Stmt := top 15
theorem sc_is_add : FnScope ["deed", "members"] ["deed", "members"] (defScope s_is_add) := ⟨rfl, rfl, rfl, by decide +kernel, rfl, by decide +kernel, by decide +kernel⟩
def d_is_add : He.DefD := ⟨("is_add", none), "is_add", "is_add", defArgs s_is_add, defBody s_is_add, defScope s_is_add, [], []⟩
abbrev s_is_tell : Stmt := top 16
theorem sc_is_tell : FnScope ["deed", "members"] ["deed", "members"] (defScope s_is_tell) := ⟨rfl, rfl, rfl, by decide +kernel, rfl, by decide +kernel, by decide +kernel⟩
def d_is_tell : He.DefD := ⟨("is_tell", none), "is_tell", "is_tell", defArgs s_is_tell, defBody s_is_tell, defScope s_is_tell, [], []⟩
abbrev s_PlainHall_init : Stmt := inClass (top 17) 0
theorem sc_PlainHall_init : FnScope ["self", "members"] ["self", "members"] (defScope s_PlainHall_init) := ⟨rfl, rfl, rfl, by decide +kernel, rfl, by decide +kernel, by decide +kernel⟩
def d_PlainHall_init : He.DefD := ⟨("PlainHall", some "__init__"), "__init__", "PlainHall.__init__", defArgs s_PlainHall_init, defBody s_PlainHall_init, defScope s_PlainHall_init, [], []⟩
abbrev s_PlainHall_eq : Stmt := inClass (top 17) 1
theorem sc_PlainHall_eq : FnScope ["self", "other"] ["self", "other"] (defScope s_PlainHall_eq) := ⟨rfl, rfl, rfl, by decide +kernel, rfl, by decide +kernel, by decide +kernel⟩
def d_PlainHall_eq : He.DefD := ⟨("PlainHall", some "__eq__"), "__eq__", "PlainHall.__eq__", defArgs s_PlainHall_eq, defBody s_PlainHall_eq, defScope s_PlainHall_eq, [], []⟩
abbrev s_PlainHall_len : Stmt := inClass (top 17) 2
theorem sc_PlainHall_len : FnScope ["self"] ["self"] (defScope s_PlainHall_len) := ⟨rfl, rfl, rfl, by decide +kernel, rfl, by decide +kernel, by decide +kernel⟩
def d_PlainHall_len : He.DefD := ⟨("PlainHall", some "__len__"), "__len__", "PlainHall.__len__", defArgs s_PlainHall_len, defBody s_PlainHall_len, defScope s_PlainHall_len, [], []⟩
abbrev s_PlainHall_row : Stmt := inClass (top 17) 3
theorem sc_PlainHall_row : FnScope ["self"] ["self"] (defScope s_PlainHall_row) := ⟨rfl, rfl, rfl, by decide +kernel, rfl, by decide +kernel, by decide +kernel⟩
def d_PlainHall_row : He.DefD := ⟨("PlainHall", some "row"), "row", "PlainHall.row", defArgs s_PlainHall_row, defBody s_PlainHall_row, defScope s_PlainHall_row, [], []⟩
abbrev s_PlainHall_told_by : Stmt := inClass (top 17) 4
theorem sc_PlainHall_told_by : FnScope ["self", "member"] ["self", "member"] (defScope s_PlainHall_told_by) := ⟨rfl, rfl, rfl, by decide +kernel, rfl, by decide +kernel, by decide +kernel⟩
def d_PlainHall_told_by : He.DefD := ⟨("PlainHall", some "told_by"), "told_by", "PlainHall.told_by", defArgs s_PlainHall_told_by, defBody s_PlainHall_told_by, defScope s_PlainHall_told_by, [], []⟩
abbrev s_PlainHall_state : Stmt := inClass (top 17) 5
theorem sc_PlainHall_state : FnScope ["self"] ["self"] (defScope s_PlainHall_state) := ⟨rfl, rfl, rfl, by decide +kernel, rfl, by decide +kernel, by decide +kernel⟩
def d_PlainHall_state : He.DefD := ⟨("PlainHall", some "state"), "state", "PlainHall.state", defArgs s_PlainHall_state, defBody s_PlainHall_state, defScope s_PlainHall_state, [], []⟩
abbrev s_PlainHall_add_id : Stmt := inClass (top 17) 6
theorem sc_PlainHall_add_id : FnScope ["self", "ident", "ahead"] ["self", "ident"] (defScope s_PlainHall_add_id) := ⟨rfl, rfl, rfl, by decide +kernel, rfl, by decide +kernel, by decide +kernel⟩
def d_PlainHall_add_id : He.DefD := ⟨("PlainHall", some "add_id"), "add_id", "PlainHall.add_id", defArgs s_PlainHall_add_id, defBody s_PlainHall_add_id, defScope s_PlainHall_add_id, [], []⟩
abbrev s_PlainHall_tell_next : Stmt := inClass (top 17) 7
theorem sc_PlainHall_tell_next : FnScope ["self", "member", "place"] ["self", "member"] (defScope s_PlainHall_tell_next) := ⟨rfl, rfl, rfl, by decide +kernel, rfl, by decide +kernel, by decide +kernel⟩
def d_PlainHall_tell_next : He.DefD := ⟨("PlainHall", some "tell_next"), "tell_next", "PlainHall.tell_next", defArgs s_PlainHall_tell_next, defBody s_PlainHall_tell_next, defScope s_PlainHall_tell_next, [], []⟩
abbrev s_PlainHall_do : Stmt := inClass (top 17) 8
theorem sc_PlainHall_do : FnScope ["self", "deed", "members"] ["self", "deed"] (defScope s_PlainHall_do) := ⟨rfl, rfl, rfl, by decide +kernel, rfl, by decide +kernel, by decide +kernel⟩
def d_PlainHall_do : He.DefD := ⟨("PlainHall", some "do"), "do", "PlainHall.do", defArgs s_PlainHall_do, defBody s_PlainHall_do, defScope s_PlainHall_do, [], []⟩
abbrev s_PlainHall_twin : Stmt := inClass (top 17) 9
theorem sc_PlainHall_twin : FnScope ["self", "other"] ["self"] (defScope s_PlainHall_twin) := ⟨rfl, rfl, rfl, by decide +kernel, rfl, by decide +kernel, by decide +kernel⟩
def d_PlainHall_twin : He.DefD := ⟨("PlainHall", some "twin"), "twin", "PlainHall.twin", defArgs s_PlainHall_twin, defBody s_PlainHall_twin, defScope s_PlainHall_twin, [], []⟩
abbrev s__law_cell_at : Stmt := top 19
theorem sc__law_cell_at : FnScope ["script", "k"] ["script", "k"] (defScope s__law_cell_at) := ⟨rfl, rfl, rfl, by decide +kernel, rfl, by decide +kernel, by decide +kernel⟩
def d__law_cell_at : He.DefD := ⟨("_law_cell_at", none), "_law_cell_at", "_law_cell_at", defArgs s__law_cell_at, defBody s__law_cell_at, defScope s__law_cell_at, [], []⟩
abbrev s__law_pool : Stmt := top 20
theorem sc__law_pool : FnScope ["cell", "number", "k", "mix"] ["cell"] (defScope s__law_pool) := ⟨rfl, rfl, rfl, by decide +kernel, rfl, by decide +kernel, by decide +kernel⟩
def d__law_pool : He.DefD := ⟨("_law_pool", none), "_law_pool", "_law_pool", defArgs s__law_pool, defBody s__law_pool, defScope s__law_pool, [], []⟩
abbrev s__law_take : Stmt := top 21
theorem sc__law_take : FnScope ["pool", "size", "found"] ["pool", "size"] (defScope s__law_take) := ⟨rfl, rfl, rfl, by decide +kernel, rfl, by decide +kernel, by decide +kernel⟩
def d__law_take : He.DefD := ⟨("_law_take", none), "_law_take", "_law_take", defArgs s__law_take, defBody s__law_take, defScope s__law_take, [], []⟩
abbrev s__law_did : Stmt := top 22
theorem sc__law_did : FnScope ["plain", "deed", "e", "told", "words", "lacks"] ["plain", "deed"] (defScope s__law_did) := ⟨rfl, rfl, rfl, by decide +kernel, rfl, by decide +kernel, by decide +kernel⟩
def d__law_did : He.DefD := ⟨("_law_did", none), "_law_did", "_law_did", defArgs s__law_did, defBody s__law_did, defScope s__law_did, [], []⟩
abbrev s__law_due : Stmt := top 23
theorem sc__law_due : FnScope ["state", "deed", "ident", "place"] ["state", "deed"] (defScope s__law_due) := ⟨rfl, rfl, rfl, by decide +kernel, rfl, by decide +kernel, by decide +kernel⟩
def d__law_due : He.DefD := ⟨("_law_due", none), "_law_due", "_law_due", defArgs s__law_due, defBody s__law_due, defScope s__law_due, [], []⟩
abbrev s__law_no_member : Stmt := top 24
theorem sc__law_no_member : FnScope ["plain", "thing", "e"] ["plain", "thing"] (defScope s__law_no_member) := ⟨rfl, rfl, rfl, by decide +kernel, rfl, by decide +kernel, by decide +kernel⟩
def d__law_no_member : He.DefD := ⟨("_law_no_member", none), "_law_no_member", "_law_no_member", defArgs s__law_no_member, defBody s__law_no_member, defScope s__law_no_member, [], []⟩
abbrev s__law_stands : Stmt := top 25
theorem sc__law_stands : FnScope ["plain", "state", "row", "due", "member"] ["plain", "state"] (defScope s__law_stands) := ⟨rfl, rfl, rfl, by decide +kernel, rfl, by decide +kernel, by decide +kernel⟩
def d__law_stands : He.DefD := ⟨("_law_stands", none), "_law_stands", "_law_stands", defArgs s__law_stands, defBody s__law_stands, defScope s__law_stands, [], []⟩
abbrev s__law_bad : Stmt := top 26
theorem sc__law_bad : FnScope ["plain", "state", "members", "some", "thing"] ["plain", "state"] (defScope s__law_bad) := ⟨rfl, rfl, rfl, by decide +kernel, rfl, by decide +kernel, by decide +kernel⟩
def d__law_bad : He.DefD := ⟨("_law_bad", none), "_law_bad", "_law_bad", defArgs s__law_bad, defBody s__law_bad, defScope s__law_bad, [], []⟩
abbrev s__law_made : Stmt := top 27
theorem sc__law_made : FnScope ["thing", "e"] ["thing"] (defScope s__law_made) := ⟨rfl, rfl, rfl, by decide +kernel, rfl, by decide +kernel, by decide +kernel⟩
def d__law_made : He.DefD := ⟨("_law_made", none), "_law_made", "_law_made", defArgs s__law_made, defBody s__law_made, defScope s__law_made, [], []⟩
abbrev s__law_done : Stmt := top 28
theorem sc__law_done : FnScope ["plain", "state", "deed", "due"] ["plain", "state", "deed"] (defScope s__law_done) := ⟨rfl, rfl, rfl, by decide +kernel, rfl, by decide +kernel, by decide +kernel⟩
def d__law_done : He.DefD := ⟨("_law_done", none), "_law_done", "_law_done", defArgs s__law_done, defBody s__law_done, defScope s__law_done, [], []⟩
abbrev s_law : Stmt := top 29
theorem sc_law : FnScope ["script", "sizes", "some", "states", "cell", "pool", "side", "way", "twin", "far", "state", "member", "number", "deed", "kept", "size", "thing", "ident"] ["script"] (defScope s_law) := ⟨rfl, rfl, rfl, by decide +kernel, rfl, by decide +kernel, by decide +kernel⟩
def d_law : He.DefD := ⟨("law", none), "law", "law", defArgs s_law, defBody s_law, defScope s_law, [], []⟩
def fn : List He.DefD := [d_NoNumber_init, d_NoMember_init, d_NoDeed_init, d_Lacks_init, d_Known_init, d_AllTold_init, d_is_whole, d_are_members, d_is_add, d_is_tell, d_PlainHall_init, d_PlainHall_eq, d_PlainHall_len, d_PlainHall_row, d_PlainHall_told_by, d_PlainHall_state, d_PlainHall_add_id, d_PlainHall_tell_next, d_PlainHall_do, d_PlainHall_twin, d__law_cell_at, d__law_pool, d__law_take, d__law_did, d__law_due, d__law_no_member, d__law_stands, d__law_bad, d__law_made, d__law_done, d_law]
def fa : List He.Fa := [.glo "is_whole", .glo "are_members", .glo "is_add", .glo "is_tell", .glo "_law_cell_at", .glo "_law_pool", .glo "_law_take", .glo "_law_did", .glo "_law_due", .glo "_law_no_member", .glo "_law_stands", .glo "_law_bad", .glo "_law_made", .glo "_law_done", .glo "law", .glo "HallError", .glo "Barred", .glo "NoNumber", .glo "NoMember", .glo "NoDeed", .glo "Lacks", .glo "Known", .glo "AllTold", .glo "PlainHall", .free "all", .free "bool", .free "int", .free "isinstance", .free "len", .free "list", .free "max", .free "range", .free "str", .free "tuple", .int "LEAST_MEMBERS" (2), .int "MOST_MEMBERS" (5), .cls "PlainHall", .mkr "PlainHall", .noat "PlainHall" "kept_row", .noat "PlainHall" "kept_told", .meth "PlainHall" "__init__", .meth "PlainHall" "__eq__", .meth "PlainHall" "__len__", .meth "PlainHall" "row", .meth "PlainHall" "told_by", .meth "PlainHall" "state", .meth "PlainHall" "add_id", .meth "PlainHall" "tell_next", .meth "PlainHall" "do", .meth "PlainHall" "twin", .meth "NoNumber" "__init__", .meth "NoMember" "__init__", .meth "NoDeed" "__init__", .meth "Lacks" "__init__", .meth "Known" "__init__", .meth "AllTold" "__init__"]
def xs : List (PySem.W.Frag → Bool) := [fun K => baseB K (He.ga K "HallError") "ValueError.__init__", fun K => baseB K (He.ga K "Barred") "LookupError.__init__", fun K => ownXB K (He.ga K "NoNumber") "ValueError.__new__" PySem.CR.tlVE, fun K => cXfB K (He.ga K "NoNumber"), fun K => He.eqO (PySem.W.findIn K (.ref (He.ga K "NoNumber")) "found") (some none), fun K => ownXB K (He.ga K "NoMember") "ValueError.__new__" PySem.CR.tlVE, fun K => cXfB K (He.ga K "NoMember"), fun K => He.eqO (PySem.W.findIn K (.ref (He.ga K "NoMember")) "found") (some none), fun K => ownXB K (He.ga K "NoDeed") "ValueError.__new__" PySem.CR.tlVE, fun K => cXfB K (He.ga K "NoDeed"), fun K => He.eqO (PySem.W.findIn K (.ref (He.ga K "NoDeed")) "found") (some none), fun K => ownXB K (He.ga K "Lacks") "LookupError.__new__" PySem.CR.tlLE, fun K => cXfB K (He.ga K "Lacks"), fun K => He.eqO (PySem.W.findIn K (.ref (He.ga K "Lacks")) "found") (some none), fun K => ownXB K (He.ga K "Known") "LookupError.__new__" PySem.CR.tlLE, fun K => cXfB K (He.ga K "Known"), fun K => He.eqO (PySem.W.findIn K (.ref (He.ga K "Known")) "found") (some none), fun K => ownXB K (He.ga K "AllTold") "LookupError.__new__" PySem.CR.tlLE, fun K => cXfB K (He.ga K "AllTold"), fun K => He.eqO (PySem.W.findIn K (.ref (He.ga K "AllTold")) "found") (some none), fun K => decide (PySem.W.notFirst K (He.ga K "PlainHall") (.type "tuple") = true), fun K => decide (PySem.W.notFirst K (He.ga K "PlainHall") (.ref (He.ga K "PlainHall")) = true), fun K => isiB K (He.ga K "PlainHall"), fun K => decide (PySem.W.kitOne K (.ref (He.ga K "PlainHall")) (.ref (He.ga K "PlainHall")) = some true), fun K => decide (PySem.W.kitOne K (.type "tuple") (.ref (He.ga K "PlainHall")) = some false), fun K => decide (PySem.W.exmAny K (.ref (He.ga K "NoNumber")) [.ref (He.ga K "Known"), .ref (He.ga K "Lacks"), .ref (He.ga K "AllTold")] = some false), fun K => decide (PySem.W.exmOne K (.ref (He.ga K "NoNumber")) (.ref (He.ga K "NoDeed")) = some false), fun K => decide (PySem.W.exmOne K (.ref (He.ga K "NoNumber")) (.ref (He.ga K "NoMember")) = some false), fun K => decide (PySem.W.exmOne K (.ref (He.ga K "NoNumber")) (.ref (He.ga K "NoNumber")) = some true), fun K => decide (PySem.W.kitOne K (.ref (He.ga K "NoNumber")) (.ref (He.ga K "Known")) = some false), fun K => decide (PySem.W.kitOne K (.ref (He.ga K "NoNumber")) (.ref (He.ga K "Lacks")) = some false), fun K => decide (PySem.W.kitOne K (.ref (He.ga K "NoNumber")) (.ref (He.ga K "Barred")) = some false), fun K => decide (PySem.W.kitOne K (.ref (He.ga K "NoNumber")) (.ref (He.ga K "AllTold")) = some false), fun K => decide (PySem.W.kitOne K (.ref (He.ga K "NoNumber")) (.ref (He.ga K "HallError")) = some true), fun K => decide (PySem.W.exmAny K (.ref (He.ga K "NoMember")) [.ref (He.ga K "Known"), .ref (He.ga K "Lacks"), .ref (He.ga K "AllTold")] = some false), fun K => decide (PySem.W.exmOne K (.ref (He.ga K "NoMember")) (.ref (He.ga K "NoDeed")) = some false), fun K => decide (PySem.W.exmOne K (.ref (He.ga K "NoMember")) (.ref (He.ga K "NoMember")) = some true), fun K => decide (PySem.W.exmOne K (.ref (He.ga K "NoMember")) (.ref (He.ga K "NoNumber")) = some false), fun K => decide (PySem.W.kitOne K (.ref (He.ga K "NoMember")) (.ref (He.ga K "Known")) = some false), fun K => decide (PySem.W.kitOne K (.ref (He.ga K "NoMember")) (.ref (He.ga K "Lacks")) = some false), fun K => decide (PySem.W.kitOne K (.ref (He.ga K "NoMember")) (.ref (He.ga K "Barred")) = some false), fun K => decide (PySem.W.kitOne K (.ref (He.ga K "NoMember")) (.ref (He.ga K "AllTold")) = some false), fun K => decide (PySem.W.kitOne K (.ref (He.ga K "NoMember")) (.ref (He.ga K "HallError")) = some true), fun K => decide (PySem.W.exmAny K (.ref (He.ga K "NoDeed")) [.ref (He.ga K "Known"), .ref (He.ga K "Lacks"), .ref (He.ga K "AllTold")] = some false), fun K => decide (PySem.W.exmOne K (.ref (He.ga K "NoDeed")) (.ref (He.ga K "NoDeed")) = some true), fun K => decide (PySem.W.exmOne K (.ref (He.ga K "NoDeed")) (.ref (He.ga K "NoMember")) = some false), fun K => decide (PySem.W.exmOne K (.ref (He.ga K "NoDeed")) (.ref (He.ga K "NoNumber")) = some false), fun K => decide (PySem.W.kitOne K (.ref (He.ga K "NoDeed")) (.ref (He.ga K "Known")) = some false), fun K => decide (PySem.W.kitOne K (.ref (He.ga K "NoDeed")) (.ref (He.ga K "Lacks")) = some false), fun K => decide (PySem.W.kitOne K (.ref (He.ga K "NoDeed")) (.ref (He.ga K "Barred")) = some false), fun K => decide (PySem.W.kitOne K (.ref (He.ga K "NoDeed")) (.ref (He.ga K "AllTold")) = some false), fun K => decide (PySem.W.kitOne K (.ref (He.ga K "NoDeed")) (.ref (He.ga K "HallError")) = some true), fun K => decide (PySem.W.exmAny K (.ref (He.ga K "Lacks")) [.ref (He.ga K "Known"), .ref (He.ga K "Lacks"), .ref (He.ga K "AllTold")] = some true), fun K => decide (PySem.W.exmOne K (.ref (He.ga K "Lacks")) (.ref (He.ga K "NoDeed")) = some false), fun K => decide (PySem.W.exmOne K (.ref (He.ga K "Lacks")) (.ref (He.ga K "NoMember")) = some false), fun K => decide (PySem.W.exmOne K (.ref (He.ga K "Lacks")) (.ref (He.ga K "NoNumber")) = some false), fun K => decide (PySem.W.kitOne K (.ref (He.ga K "Lacks")) (.ref (He.ga K "Known")) = some false), fun K => decide (PySem.W.kitOne K (.ref (He.ga K "Lacks")) (.ref (He.ga K "Lacks")) = some true), fun K => decide (PySem.W.kitOne K (.ref (He.ga K "Lacks")) (.ref (He.ga K "Barred")) = some true), fun K => decide (PySem.W.kitOne K (.ref (He.ga K "Lacks")) (.ref (He.ga K "AllTold")) = some false), fun K => decide (PySem.W.kitOne K (.ref (He.ga K "Lacks")) (.ref (He.ga K "HallError")) = some false), fun K => decide (PySem.W.exmAny K (.ref (He.ga K "Known")) [.ref (He.ga K "Known"), .ref (He.ga K "Lacks"), .ref (He.ga K "AllTold")] = some true), fun K => decide (PySem.W.exmOne K (.ref (He.ga K "Known")) (.ref (He.ga K "NoDeed")) = some false), fun K => decide (PySem.W.exmOne K (.ref (He.ga K "Known")) (.ref (He.ga K "NoMember")) = some false), fun K => decide (PySem.W.exmOne K (.ref (He.ga K "Known")) (.ref (He.ga K "NoNumber")) = some false), fun K => decide (PySem.W.kitOne K (.ref (He.ga K "Known")) (.ref (He.ga K "Known")) = some true), fun K => decide (PySem.W.kitOne K (.ref (He.ga K "Known")) (.ref (He.ga K "Lacks")) = some false), fun K => decide (PySem.W.kitOne K (.ref (He.ga K "Known")) (.ref (He.ga K "Barred")) = some true), fun K => decide (PySem.W.kitOne K (.ref (He.ga K "Known")) (.ref (He.ga K "AllTold")) = some false), fun K => decide (PySem.W.kitOne K (.ref (He.ga K "Known")) (.ref (He.ga K "HallError")) = some false), fun K => decide (PySem.W.exmAny K (.ref (He.ga K "AllTold")) [.ref (He.ga K "Known"), .ref (He.ga K "Lacks"), .ref (He.ga K "AllTold")] = some true), fun K => decide (PySem.W.exmOne K (.ref (He.ga K "AllTold")) (.ref (He.ga K "NoDeed")) = some false), fun K => decide (PySem.W.exmOne K (.ref (He.ga K "AllTold")) (.ref (He.ga K "NoMember")) = some false), fun K => decide (PySem.W.exmOne K (.ref (He.ga K "AllTold")) (.ref (He.ga K "NoNumber")) = some false), fun K => decide (PySem.W.kitOne K (.ref (He.ga K "AllTold")) (.ref (He.ga K "Known")) = some false), fun K => decide (PySem.W.kitOne K (.ref (He.ga K "AllTold")) (.ref (He.ga K "Lacks")) = some false), fun K => decide (PySem.W.kitOne K (.ref (He.ga K "AllTold")) (.ref (He.ga K "Barred")) = some true), fun K => decide (PySem.W.kitOne K (.ref (He.ga K "AllTold")) (.ref (He.ga K "AllTold")) = some true), fun K => decide (PySem.W.kitOne K (.ref (He.ga K "AllTold")) (.ref (He.ga K "HallError")) = some false)]
def ex (K : PySem.W.Frag) : Bool := fa.all (fun f => f.ok K) && xs.all fun g => g K
structure T (K : PySem.W.Frag) (mg : Str → Option Value) : Prop where
  g_is_whole : mg "is_whole" = some (.ref (He.ga K "is_whole"))
  g_are_members : mg "are_members" = some (.ref (He.ga K "are_members"))
  g_is_add : mg "is_add" = some (.ref (He.ga K "is_add"))
  g_is_tell : mg "is_tell" = some (.ref (He.ga K "is_tell"))
  g__law_cell_at : mg "_law_cell_at" = some (.ref (He.ga K "_law_cell_at"))
  g__law_pool : mg "_law_pool" = some (.ref (He.ga K "_law_pool"))
  g__law_take : mg "_law_take" = some (.ref (He.ga K "_law_take"))
  g__law_did : mg "_law_did" = some (.ref (He.ga K "_law_did"))
  g__law_due : mg "_law_due" = some (.ref (He.ga K "_law_due"))
  g__law_no_member : mg "_law_no_member" = some (.ref (He.ga K "_law_no_member"))
  g__law_stands : mg "_law_stands" = some (.ref (He.ga K "_law_stands"))
  g__law_bad : mg "_law_bad" = some (.ref (He.ga K "_law_bad"))
  g__law_made : mg "_law_made" = some (.ref (He.ga K "_law_made"))
  g__law_done : mg "_law_done" = some (.ref (He.ga K "_law_done"))
  g_law : mg "law" = some (.ref (He.ga K "law"))
  g_HallError : mg "HallError" = some (.ref (He.ga K "HallError"))
  g_Barred : mg "Barred" = some (.ref (He.ga K "Barred"))
  g_NoNumber : mg "NoNumber" = some (.ref (He.ga K "NoNumber"))
  g_NoMember : mg "NoMember" = some (.ref (He.ga K "NoMember"))
  g_NoDeed : mg "NoDeed" = some (.ref (He.ga K "NoDeed"))
  g_Lacks : mg "Lacks" = some (.ref (He.ga K "Lacks"))
  g_Known : mg "Known" = some (.ref (He.ga K "Known"))
  g_AllTold : mg "AllTold" = some (.ref (He.ga K "AllTold"))
  g_PlainHall : mg "PlainHall" = some (.ref (He.ga K "PlainHall"))
  f_all : mg "all" = none
  f_bool : mg "bool" = none
  f_int : mg "int" = none
  f_isinstance : mg "isinstance" = none
  f_len : mg "len" = none
  f_list : mg "list" = none
  f_max : mg "max" = none
  f_range : mg "range" = none
  f_str : mg "str" = none
  f_tuple : mg "tuple" = none
  i_LEAST_MEMBERS : ∃ t, mg "LEAST_MEMBERS" = some (.int (2) t)
  i_MOST_MEMBERS : ∃ t, mg "MOST_MEMBERS" = some (.int (5) t)
  c_PlainHall : Cls K (He.ga K "PlainHall")
  k_PlainHall : Mk K (He.ga K "PlainHall") (He.ma K (He.ga K "PlainHall") "__init__")
  n_PlainHall_kept_row : NoAttr K (He.ga K "PlainHall") "kept_row"
  n_PlainHall_kept_told : NoAttr K (He.ga K "PlainHall") "kept_told"
  m_PlainHall_init : Meth K (He.ga K "PlainHall") "__init__" (He.ma K (He.ga K "PlainHall") "__init__")
  m_PlainHall_eq : Meth K (He.ga K "PlainHall") "__eq__" (He.ma K (He.ga K "PlainHall") "__eq__")
  m_PlainHall_len : Meth K (He.ga K "PlainHall") "__len__" (He.ma K (He.ga K "PlainHall") "__len__")
  m_PlainHall_row : Meth K (He.ga K "PlainHall") "row" (He.ma K (He.ga K "PlainHall") "row")
  m_PlainHall_told_by : Meth K (He.ga K "PlainHall") "told_by" (He.ma K (He.ga K "PlainHall") "told_by")
  m_PlainHall_state : Meth K (He.ga K "PlainHall") "state" (He.ma K (He.ga K "PlainHall") "state")
  m_PlainHall_add_id : Meth K (He.ga K "PlainHall") "add_id" (He.ma K (He.ga K "PlainHall") "add_id")
  m_PlainHall_tell_next : Meth K (He.ga K "PlainHall") "tell_next" (He.ma K (He.ga K "PlainHall") "tell_next")
  m_PlainHall_do : Meth K (He.ga K "PlainHall") "do" (He.ma K (He.ga K "PlainHall") "do")
  m_PlainHall_twin : Meth K (He.ga K "PlainHall") "twin" (He.ma K (He.ga K "PlainHall") "twin")
  m_NoNumber_init : Meth K (He.ga K "NoNumber") "__init__" (He.ma K (He.ga K "NoNumber") "__init__")
  m_NoMember_init : Meth K (He.ga K "NoMember") "__init__" (He.ma K (He.ga K "NoMember") "__init__")
  m_NoDeed_init : Meth K (He.ga K "NoDeed") "__init__" (He.ma K (He.ga K "NoDeed") "__init__")
  m_Lacks_init : Meth K (He.ga K "Lacks") "__init__" (He.ma K (He.ga K "Lacks") "__init__")
  m_Known_init : Meth K (He.ga K "Known") "__init__" (He.ma K (He.ga K "Known") "__init__")
  m_AllTold_init : Meth K (He.ga K "AllTold") "__init__" (He.ma K (He.ga K "AllTold") "__init__")
  b_HallError : BaseX K (He.ga K "HallError") "ValueError.__init__"
  b_Barred : BaseX K (He.ga K "Barred") "LookupError.__init__"
  x_NoNumber : OwnX K (He.ga K "NoNumber") "ValueError.__new__" PySem.CR.tlVE
  xf_NoNumber : CXf K (He.ga K "NoNumber")
  n_NoNumber_found : PySem.W.findIn K (.ref (He.ga K "NoNumber")) "found" = some none
  x_NoMember : OwnX K (He.ga K "NoMember") "ValueError.__new__" PySem.CR.tlVE
  xf_NoMember : CXf K (He.ga K "NoMember")
  n_NoMember_found : PySem.W.findIn K (.ref (He.ga K "NoMember")) "found" = some none
  x_NoDeed : OwnX K (He.ga K "NoDeed") "ValueError.__new__" PySem.CR.tlVE
  xf_NoDeed : CXf K (He.ga K "NoDeed")
  n_NoDeed_found : PySem.W.findIn K (.ref (He.ga K "NoDeed")) "found" = some none
  x_Lacks : OwnX K (He.ga K "Lacks") "LookupError.__new__" PySem.CR.tlLE
  xf_Lacks : CXf K (He.ga K "Lacks")
  n_Lacks_found : PySem.W.findIn K (.ref (He.ga K "Lacks")) "found" = some none
  x_Known : OwnX K (He.ga K "Known") "LookupError.__new__" PySem.CR.tlLE
  xf_Known : CXf K (He.ga K "Known")
  n_Known_found : PySem.W.findIn K (.ref (He.ga K "Known")) "found" = some none
  x_AllTold : OwnX K (He.ga K "AllTold") "LookupError.__new__" PySem.CR.tlLE
  xf_AllTold : CXf K (He.ga K "AllTold")
  n_AllTold_found : PySem.W.findIn K (.ref (He.ga K "AllTold")) "found" = some none
  nf_tup : PySem.W.notFirst K (He.ga K "PlainHall") (.type "tuple") = true
  nf_own : PySem.W.notFirst K (He.ga K "PlainHall") (.ref (He.ga K "PlainHall")) = true
  isi_P : IsiX K (He.ga K "PlainHall")
  kit_PP : PySem.W.kitOne K (.ref (He.ga K "PlainHall")) (.ref (He.ga K "PlainHall")) = some true
  kit_tP : PySem.W.kitOne K (.type "tuple") (.ref (He.ga K "PlainHall")) = some false
  xm_NoNumber__Known_Lacks_AllTold : PySem.W.exmAny K (.ref (He.ga K "NoNumber")) [.ref (He.ga K "Known"), .ref (He.ga K "Lacks"), .ref (He.ga K "AllTold")] = some false
  xm_NoNumber__NoDeed : PySem.W.exmOne K (.ref (He.ga K "NoNumber")) (.ref (He.ga K "NoDeed")) = some false
  xm_NoNumber__NoMember : PySem.W.exmOne K (.ref (He.ga K "NoNumber")) (.ref (He.ga K "NoMember")) = some false
  xm_NoNumber__NoNumber : PySem.W.exmOne K (.ref (He.ga K "NoNumber")) (.ref (He.ga K "NoNumber")) = some true
  ki_NoNumber__Known : PySem.W.kitOne K (.ref (He.ga K "NoNumber")) (.ref (He.ga K "Known")) = some false
  ki_NoNumber__Lacks : PySem.W.kitOne K (.ref (He.ga K "NoNumber")) (.ref (He.ga K "Lacks")) = some false
  ki_NoNumber__Barred : PySem.W.kitOne K (.ref (He.ga K "NoNumber")) (.ref (He.ga K "Barred")) = some false
  ki_NoNumber__AllTold : PySem.W.kitOne K (.ref (He.ga K "NoNumber")) (.ref (He.ga K "AllTold")) = some false
  ki_NoNumber__HallError : PySem.W.kitOne K (.ref (He.ga K "NoNumber")) (.ref (He.ga K "HallError")) = some true
  xm_NoMember__Known_Lacks_AllTold : PySem.W.exmAny K (.ref (He.ga K "NoMember")) [.ref (He.ga K "Known"), .ref (He.ga K "Lacks"), .ref (He.ga K "AllTold")] = some false
  xm_NoMember__NoDeed : PySem.W.exmOne K (.ref (He.ga K "NoMember")) (.ref (He.ga K "NoDeed")) = some false
  xm_NoMember__NoMember : PySem.W.exmOne K (.ref (He.ga K "NoMember")) (.ref (He.ga K "NoMember")) = some true
  xm_NoMember__NoNumber : PySem.W.exmOne K (.ref (He.ga K "NoMember")) (.ref (He.ga K "NoNumber")) = some false
  ki_NoMember__Known : PySem.W.kitOne K (.ref (He.ga K "NoMember")) (.ref (He.ga K "Known")) = some false
  ki_NoMember__Lacks : PySem.W.kitOne K (.ref (He.ga K "NoMember")) (.ref (He.ga K "Lacks")) = some false
  ki_NoMember__Barred : PySem.W.kitOne K (.ref (He.ga K "NoMember")) (.ref (He.ga K "Barred")) = some false
  ki_NoMember__AllTold : PySem.W.kitOne K (.ref (He.ga K "NoMember")) (.ref (He.ga K "AllTold")) = some false
  ki_NoMember__HallError : PySem.W.kitOne K (.ref (He.ga K "NoMember")) (.ref (He.ga K "HallError")) = some true
  xm_NoDeed__Known_Lacks_AllTold : PySem.W.exmAny K (.ref (He.ga K "NoDeed")) [.ref (He.ga K "Known"), .ref (He.ga K "Lacks"), .ref (He.ga K "AllTold")] = some false
  xm_NoDeed__NoDeed : PySem.W.exmOne K (.ref (He.ga K "NoDeed")) (.ref (He.ga K "NoDeed")) = some true
  xm_NoDeed__NoMember : PySem.W.exmOne K (.ref (He.ga K "NoDeed")) (.ref (He.ga K "NoMember")) = some false
  xm_NoDeed__NoNumber : PySem.W.exmOne K (.ref (He.ga K "NoDeed")) (.ref (He.ga K "NoNumber")) = some false
  ki_NoDeed__Known : PySem.W.kitOne K (.ref (He.ga K "NoDeed")) (.ref (He.ga K "Known")) = some false
  ki_NoDeed__Lacks : PySem.W.kitOne K (.ref (He.ga K "NoDeed")) (.ref (He.ga K "Lacks")) = some false
  ki_NoDeed__Barred : PySem.W.kitOne K (.ref (He.ga K "NoDeed")) (.ref (He.ga K "Barred")) = some false
  ki_NoDeed__AllTold : PySem.W.kitOne K (.ref (He.ga K "NoDeed")) (.ref (He.ga K "AllTold")) = some false
  ki_NoDeed__HallError : PySem.W.kitOne K (.ref (He.ga K "NoDeed")) (.ref (He.ga K "HallError")) = some true
  xm_Lacks__Known_Lacks_AllTold : PySem.W.exmAny K (.ref (He.ga K "Lacks")) [.ref (He.ga K "Known"), .ref (He.ga K "Lacks"), .ref (He.ga K "AllTold")] = some true
  xm_Lacks__NoDeed : PySem.W.exmOne K (.ref (He.ga K "Lacks")) (.ref (He.ga K "NoDeed")) = some false
  xm_Lacks__NoMember : PySem.W.exmOne K (.ref (He.ga K "Lacks")) (.ref (He.ga K "NoMember")) = some false
  xm_Lacks__NoNumber : PySem.W.exmOne K (.ref (He.ga K "Lacks")) (.ref (He.ga K "NoNumber")) = some false
  ki_Lacks__Known : PySem.W.kitOne K (.ref (He.ga K "Lacks")) (.ref (He.ga K "Known")) = some false
  ki_Lacks__Lacks : PySem.W.kitOne K (.ref (He.ga K "Lacks")) (.ref (He.ga K "Lacks")) = some true
  ki_Lacks__Barred : PySem.W.kitOne K (.ref (He.ga K "Lacks")) (.ref (He.ga K "Barred")) = some true
  ki_Lacks__AllTold : PySem.W.kitOne K (.ref (He.ga K "Lacks")) (.ref (He.ga K "AllTold")) = some false
  ki_Lacks__HallError : PySem.W.kitOne K (.ref (He.ga K "Lacks")) (.ref (He.ga K "HallError")) = some false
  xm_Known__Known_Lacks_AllTold : PySem.W.exmAny K (.ref (He.ga K "Known")) [.ref (He.ga K "Known"), .ref (He.ga K "Lacks"), .ref (He.ga K "AllTold")] = some true
  xm_Known__NoDeed : PySem.W.exmOne K (.ref (He.ga K "Known")) (.ref (He.ga K "NoDeed")) = some false
  xm_Known__NoMember : PySem.W.exmOne K (.ref (He.ga K "Known")) (.ref (He.ga K "NoMember")) = some false
  xm_Known__NoNumber : PySem.W.exmOne K (.ref (He.ga K "Known")) (.ref (He.ga K "NoNumber")) = some false
  ki_Known__Known : PySem.W.kitOne K (.ref (He.ga K "Known")) (.ref (He.ga K "Known")) = some true
  ki_Known__Lacks : PySem.W.kitOne K (.ref (He.ga K "Known")) (.ref (He.ga K "Lacks")) = some false
  ki_Known__Barred : PySem.W.kitOne K (.ref (He.ga K "Known")) (.ref (He.ga K "Barred")) = some true
  ki_Known__AllTold : PySem.W.kitOne K (.ref (He.ga K "Known")) (.ref (He.ga K "AllTold")) = some false
  ki_Known__HallError : PySem.W.kitOne K (.ref (He.ga K "Known")) (.ref (He.ga K "HallError")) = some false
  xm_AllTold__Known_Lacks_AllTold : PySem.W.exmAny K (.ref (He.ga K "AllTold")) [.ref (He.ga K "Known"), .ref (He.ga K "Lacks"), .ref (He.ga K "AllTold")] = some true
  xm_AllTold__NoDeed : PySem.W.exmOne K (.ref (He.ga K "AllTold")) (.ref (He.ga K "NoDeed")) = some false
  xm_AllTold__NoMember : PySem.W.exmOne K (.ref (He.ga K "AllTold")) (.ref (He.ga K "NoMember")) = some false
  xm_AllTold__NoNumber : PySem.W.exmOne K (.ref (He.ga K "AllTold")) (.ref (He.ga K "NoNumber")) = some false
  ki_AllTold__Known : PySem.W.kitOne K (.ref (He.ga K "AllTold")) (.ref (He.ga K "Known")) = some false
  ki_AllTold__Lacks : PySem.W.kitOne K (.ref (He.ga K "AllTold")) (.ref (He.ga K "Lacks")) = some false
  ki_AllTold__Barred : PySem.W.kitOne K (.ref (He.ga K "AllTold")) (.ref (He.ga K "Barred")) = some true
  ki_AllTold__AllTold : PySem.W.kitOne K (.ref (He.ga K "AllTold")) (.ref (He.ga K "AllTold")) = some true
  ki_AllTold__HallError : PySem.W.kitOne K (.ref (He.ga K "AllTold")) (.ref (He.ga K "HallError")) = some false
  D_NoNumber_init : ∃ fd, FunD K "__init__" "NoNumber.__init__" (defArgs s_NoNumber_init) (defBody s_NoNumber_init) (defScope s_NoNumber_init) [] [] (He.fAd K d_NoNumber_init.at_) fd
  D_NoMember_init : ∃ fd, FunD K "__init__" "NoMember.__init__" (defArgs s_NoMember_init) (defBody s_NoMember_init) (defScope s_NoMember_init) [] [] (He.fAd K d_NoMember_init.at_) fd
  D_NoDeed_init : ∃ fd, FunD K "__init__" "NoDeed.__init__" (defArgs s_NoDeed_init) (defBody s_NoDeed_init) (defScope s_NoDeed_init) [] [] (He.fAd K d_NoDeed_init.at_) fd
  D_Lacks_init : ∃ fd, FunD K "__init__" "Lacks.__init__" (defArgs s_Lacks_init) (defBody s_Lacks_init) (defScope s_Lacks_init) [] [] (He.fAd K d_Lacks_init.at_) fd
  D_Known_init : ∃ fd, FunD K "__init__" "Known.__init__" (defArgs s_Known_init) (defBody s_Known_init) (defScope s_Known_init) [] [] (He.fAd K d_Known_init.at_) fd
  D_AllTold_init : ∃ fd, FunD K "__init__" "AllTold.__init__" (defArgs s_AllTold_init) (defBody s_AllTold_init) (defScope s_AllTold_init) [] [] (He.fAd K d_AllTold_init.at_) fd
  D_is_whole : ∃ fd, FunD K "is_whole" "is_whole" (defArgs s_is_whole) (defBody s_is_whole) (defScope s_is_whole) [.non] [] (He.fAd K d_is_whole.at_) fd
  D_are_members : ∃ fd, FunD K "are_members" "are_members" (defArgs s_are_members) (defBody s_are_members) (defScope s_are_members) [] [] (He.fAd K d_are_members.at_) fd
  D_is_add : ∃ fd, FunD K "is_add" "is_add" (defArgs s_is_add) (defBody s_is_add) (defScope s_is_add) [] [] (He.fAd K d_is_add.at_) fd
  D_is_tell : ∃ fd, FunD K "is_tell" "is_tell" (defArgs s_is_tell) (defBody s_is_tell) (defScope s_is_tell) [] [] (He.fAd K d_is_tell.at_) fd
  D_PlainHall_init : ∃ fd, FunD K "__init__" "PlainHall.__init__" (defArgs s_PlainHall_init) (defBody s_PlainHall_init) (defScope s_PlainHall_init) [] [] (He.fAd K d_PlainHall_init.at_) fd
  D_PlainHall_eq : ∃ fd, FunD K "__eq__" "PlainHall.__eq__" (defArgs s_PlainHall_eq) (defBody s_PlainHall_eq) (defScope s_PlainHall_eq) [] [] (He.fAd K d_PlainHall_eq.at_) fd
  D_PlainHall_len : ∃ fd, FunD K "__len__" "PlainHall.__len__" (defArgs s_PlainHall_len) (defBody s_PlainHall_len) (defScope s_PlainHall_len) [] [] (He.fAd K d_PlainHall_len.at_) fd
  D_PlainHall_row : ∃ fd, FunD K "row" "PlainHall.row" (defArgs s_PlainHall_row) (defBody s_PlainHall_row) (defScope s_PlainHall_row) [] [] (He.fAd K d_PlainHall_row.at_) fd
  D_PlainHall_told_by : ∃ fd, FunD K "told_by" "PlainHall.told_by" (defArgs s_PlainHall_told_by) (defBody s_PlainHall_told_by) (defScope s_PlainHall_told_by) [] [] (He.fAd K d_PlainHall_told_by.at_) fd
  D_PlainHall_state : ∃ fd, FunD K "state" "PlainHall.state" (defArgs s_PlainHall_state) (defBody s_PlainHall_state) (defScope s_PlainHall_state) [] [] (He.fAd K d_PlainHall_state.at_) fd
  D_PlainHall_add_id : ∃ fd, FunD K "add_id" "PlainHall.add_id" (defArgs s_PlainHall_add_id) (defBody s_PlainHall_add_id) (defScope s_PlainHall_add_id) [] [] (He.fAd K d_PlainHall_add_id.at_) fd
  D_PlainHall_tell_next : ∃ fd, FunD K "tell_next" "PlainHall.tell_next" (defArgs s_PlainHall_tell_next) (defBody s_PlainHall_tell_next) (defScope s_PlainHall_tell_next) [] [] (He.fAd K d_PlainHall_tell_next.at_) fd
  D_PlainHall_do : ∃ fd, FunD K "do" "PlainHall.do" (defArgs s_PlainHall_do) (defBody s_PlainHall_do) (defScope s_PlainHall_do) [] [] (He.fAd K d_PlainHall_do.at_) fd
  D_PlainHall_twin : ∃ fd, FunD K "twin" "PlainHall.twin" (defArgs s_PlainHall_twin) (defBody s_PlainHall_twin) (defScope s_PlainHall_twin) [] [] (He.fAd K d_PlainHall_twin.at_) fd
  D__law_cell_at : ∃ fd, FunD K "_law_cell_at" "_law_cell_at" (defArgs s__law_cell_at) (defBody s__law_cell_at) (defScope s__law_cell_at) [] [] (He.fAd K d__law_cell_at.at_) fd
  D__law_pool : ∃ fd, FunD K "_law_pool" "_law_pool" (defArgs s__law_pool) (defBody s__law_pool) (defScope s__law_pool) [] [] (He.fAd K d__law_pool.at_) fd
  D__law_take : ∃ fd, FunD K "_law_take" "_law_take" (defArgs s__law_take) (defBody s__law_take) (defScope s__law_take) [] [] (He.fAd K d__law_take.at_) fd
  D__law_did : ∃ fd, FunD K "_law_did" "_law_did" (defArgs s__law_did) (defBody s__law_did) (defScope s__law_did) [] [] (He.fAd K d__law_did.at_) fd
  D__law_due : ∃ fd, FunD K "_law_due" "_law_due" (defArgs s__law_due) (defBody s__law_due) (defScope s__law_due) [] [] (He.fAd K d__law_due.at_) fd
  D__law_no_member : ∃ fd, FunD K "_law_no_member" "_law_no_member" (defArgs s__law_no_member) (defBody s__law_no_member) (defScope s__law_no_member) [] [] (He.fAd K d__law_no_member.at_) fd
  D__law_stands : ∃ fd, FunD K "_law_stands" "_law_stands" (defArgs s__law_stands) (defBody s__law_stands) (defScope s__law_stands) [] [] (He.fAd K d__law_stands.at_) fd
  D__law_bad : ∃ fd, FunD K "_law_bad" "_law_bad" (defArgs s__law_bad) (defBody s__law_bad) (defScope s__law_bad) [] [] (He.fAd K d__law_bad.at_) fd
  D__law_made : ∃ fd, FunD K "_law_made" "_law_made" (defArgs s__law_made) (defBody s__law_made) (defScope s__law_made) [] [] (He.fAd K d__law_made.at_) fd
  D__law_done : ∃ fd, FunD K "_law_done" "_law_done" (defArgs s__law_done) (defBody s__law_done) (defScope s__law_done) [] [] (He.fAd K d__law_done.at_) fd
  D_law : ∃ fd, FunD K "law" "law" (defArgs s_law) (defBody s_law) (defScope s_law) [] [] (He.fAd K d_law.at_) fd
theorem T_of {K : PySem.W.Frag} {h : Heap} {mg : Str → Option Value} (X : K.In h) (G : h.Ns mainGlobals mg) (c : SaysM fn ex K) : T K mg := by
  obtain ⟨c1, c2⟩ := He.ba (show (fa.all (fun f => f.ok K) && xs.all fun g => g K) = true from c.ex)
  have fc : ∀ (i : Nat) {f : He.Fa}, fa[i]? = some f → f.ok K = true := fun i f h => List.all_eq_true.mp c1 f (List.mem_of_getElem? h)
  have xc : ∀ (i : Nat) {g : PySem.W.Frag → Bool}, xs[i]? = some g → g K = true := fun i g h => List.all_eq_true.mp c2 g (List.mem_of_getElem? h)
  exact {
    g_is_whole := He.glo_ok X G (fc 0 (f := .glo "is_whole") rfl)
    g_are_members := He.glo_ok X G (fc 1 (f := .glo "are_members") rfl)
    g_is_add := He.glo_ok X G (fc 2 (f := .glo "is_add") rfl)
    g_is_tell := He.glo_ok X G (fc 3 (f := .glo "is_tell") rfl)
    g__law_cell_at := He.glo_ok X G (fc 4 (f := .glo "_law_cell_at") rfl)
    g__law_pool := He.glo_ok X G (fc 5 (f := .glo "_law_pool") rfl)
    g__law_take := He.glo_ok X G (fc 6 (f := .glo "_law_take") rfl)
    g__law_did := He.glo_ok X G (fc 7 (f := .glo "_law_did") rfl)
    g__law_due := He.glo_ok X G (fc 8 (f := .glo "_law_due") rfl)
    g__law_no_member := He.glo_ok X G (fc 9 (f := .glo "_law_no_member") rfl)
    g__law_stands := He.glo_ok X G (fc 10 (f := .glo "_law_stands") rfl)
    g__law_bad := He.glo_ok X G (fc 11 (f := .glo "_law_bad") rfl)
    g__law_made := He.glo_ok X G (fc 12 (f := .glo "_law_made") rfl)
    g__law_done := He.glo_ok X G (fc 13 (f := .glo "_law_done") rfl)
    g_law := He.glo_ok X G (fc 14 (f := .glo "law") rfl)
    g_HallError := He.glo_ok X G (fc 15 (f := .glo "HallError") rfl)
    g_Barred := He.glo_ok X G (fc 16 (f := .glo "Barred") rfl)
    g_NoNumber := He.glo_ok X G (fc 17 (f := .glo "NoNumber") rfl)
    g_NoMember := He.glo_ok X G (fc 18 (f := .glo "NoMember") rfl)
    g_NoDeed := He.glo_ok X G (fc 19 (f := .glo "NoDeed") rfl)
    g_Lacks := He.glo_ok X G (fc 20 (f := .glo "Lacks") rfl)
    g_Known := He.glo_ok X G (fc 21 (f := .glo "Known") rfl)
    g_AllTold := He.glo_ok X G (fc 22 (f := .glo "AllTold") rfl)
    g_PlainHall := He.glo_ok X G (fc 23 (f := .glo "PlainHall") rfl)
    f_all := He.free_ok X G (fc 24 (f := .free "all") rfl)
    f_bool := He.free_ok X G (fc 25 (f := .free "bool") rfl)
    f_int := He.free_ok X G (fc 26 (f := .free "int") rfl)
    f_isinstance := He.free_ok X G (fc 27 (f := .free "isinstance") rfl)
    f_len := He.free_ok X G (fc 28 (f := .free "len") rfl)
    f_list := He.free_ok X G (fc 29 (f := .free "list") rfl)
    f_max := He.free_ok X G (fc 30 (f := .free "max") rfl)
    f_range := He.free_ok X G (fc 31 (f := .free "range") rfl)
    f_str := He.free_ok X G (fc 32 (f := .free "str") rfl)
    f_tuple := He.free_ok X G (fc 33 (f := .free "tuple") rfl)
    i_LEAST_MEMBERS := He.int_ok X G (fc 34 (f := .int "LEAST_MEMBERS" (2)) rfl)
    i_MOST_MEMBERS := He.int_ok X G (fc 35 (f := .int "MOST_MEMBERS" (5)) rfl)
    c_PlainHall := He.cls_ok (fc 36 (f := .cls "PlainHall") rfl)
    k_PlainHall := He.mkr_ok (fc 37 (f := .mkr "PlainHall") rfl)
    n_PlainHall_kept_row := He.noat_ok (fc 38 (f := .noat "PlainHall" "kept_row") rfl)
    n_PlainHall_kept_told := He.noat_ok (fc 39 (f := .noat "PlainHall" "kept_told") rfl)
    m_PlainHall_init := He.meth_ok (fc 40 (f := .meth "PlainHall" "__init__") rfl)
    m_PlainHall_eq := He.meth_ok (fc 41 (f := .meth "PlainHall" "__eq__") rfl)
    m_PlainHall_len := He.meth_ok (fc 42 (f := .meth "PlainHall" "__len__") rfl)
    m_PlainHall_row := He.meth_ok (fc 43 (f := .meth "PlainHall" "row") rfl)
    m_PlainHall_told_by := He.meth_ok (fc 44 (f := .meth "PlainHall" "told_by") rfl)
    m_PlainHall_state := He.meth_ok (fc 45 (f := .meth "PlainHall" "state") rfl)
    m_PlainHall_add_id := He.meth_ok (fc 46 (f := .meth "PlainHall" "add_id") rfl)
    m_PlainHall_tell_next := He.meth_ok (fc 47 (f := .meth "PlainHall" "tell_next") rfl)
    m_PlainHall_do := He.meth_ok (fc 48 (f := .meth "PlainHall" "do") rfl)
    m_PlainHall_twin := He.meth_ok (fc 49 (f := .meth "PlainHall" "twin") rfl)
    m_NoNumber_init := He.meth_ok (fc 50 (f := .meth "NoNumber" "__init__") rfl)
    m_NoMember_init := He.meth_ok (fc 51 (f := .meth "NoMember" "__init__") rfl)
    m_NoDeed_init := He.meth_ok (fc 52 (f := .meth "NoDeed" "__init__") rfl)
    m_Lacks_init := He.meth_ok (fc 53 (f := .meth "Lacks" "__init__") rfl)
    m_Known_init := He.meth_ok (fc 54 (f := .meth "Known" "__init__") rfl)
    m_AllTold_init := He.meth_ok (fc 55 (f := .meth "AllTold" "__init__") rfl)
    b_HallError := baseB_ok (xc 0 (g := fun K => baseB K (He.ga K "HallError") "ValueError.__init__") rfl)
    b_Barred := baseB_ok (xc 1 (g := fun K => baseB K (He.ga K "Barred") "LookupError.__init__") rfl)
    x_NoNumber := ownXB_ok (xc 2 (g := fun K => ownXB K (He.ga K "NoNumber") "ValueError.__new__" PySem.CR.tlVE) rfl)
    xf_NoNumber := cXfB_ok (xc 3 (g := fun K => cXfB K (He.ga K "NoNumber")) rfl)
    n_NoNumber_found := He.eqO_ok (xc 4 (g := fun K => He.eqO (PySem.W.findIn K (.ref (He.ga K "NoNumber")) "found") (some none)) rfl)
    x_NoMember := ownXB_ok (xc 5 (g := fun K => ownXB K (He.ga K "NoMember") "ValueError.__new__" PySem.CR.tlVE) rfl)
    xf_NoMember := cXfB_ok (xc 6 (g := fun K => cXfB K (He.ga K "NoMember")) rfl)
    n_NoMember_found := He.eqO_ok (xc 7 (g := fun K => He.eqO (PySem.W.findIn K (.ref (He.ga K "NoMember")) "found") (some none)) rfl)
    x_NoDeed := ownXB_ok (xc 8 (g := fun K => ownXB K (He.ga K "NoDeed") "ValueError.__new__" PySem.CR.tlVE) rfl)
    xf_NoDeed := cXfB_ok (xc 9 (g := fun K => cXfB K (He.ga K "NoDeed")) rfl)
    n_NoDeed_found := He.eqO_ok (xc 10 (g := fun K => He.eqO (PySem.W.findIn K (.ref (He.ga K "NoDeed")) "found") (some none)) rfl)
    x_Lacks := ownXB_ok (xc 11 (g := fun K => ownXB K (He.ga K "Lacks") "LookupError.__new__" PySem.CR.tlLE) rfl)
    xf_Lacks := cXfB_ok (xc 12 (g := fun K => cXfB K (He.ga K "Lacks")) rfl)
    n_Lacks_found := He.eqO_ok (xc 13 (g := fun K => He.eqO (PySem.W.findIn K (.ref (He.ga K "Lacks")) "found") (some none)) rfl)
    x_Known := ownXB_ok (xc 14 (g := fun K => ownXB K (He.ga K "Known") "LookupError.__new__" PySem.CR.tlLE) rfl)
    xf_Known := cXfB_ok (xc 15 (g := fun K => cXfB K (He.ga K "Known")) rfl)
    n_Known_found := He.eqO_ok (xc 16 (g := fun K => He.eqO (PySem.W.findIn K (.ref (He.ga K "Known")) "found") (some none)) rfl)
    x_AllTold := ownXB_ok (xc 17 (g := fun K => ownXB K (He.ga K "AllTold") "LookupError.__new__" PySem.CR.tlLE) rfl)
    xf_AllTold := cXfB_ok (xc 18 (g := fun K => cXfB K (He.ga K "AllTold")) rfl)
    n_AllTold_found := He.eqO_ok (xc 19 (g := fun K => He.eqO (PySem.W.findIn K (.ref (He.ga K "AllTold")) "found") (some none)) rfl)
    nf_tup := of_decide_eq_true (xc 20 (g := fun K => decide (PySem.W.notFirst K (He.ga K "PlainHall") (.type "tuple") = true)) rfl)
    nf_own := of_decide_eq_true (xc 21 (g := fun K => decide (PySem.W.notFirst K (He.ga K "PlainHall") (.ref (He.ga K "PlainHall")) = true)) rfl)
    isi_P := isiB_ok (xc 22 (g := fun K => isiB K (He.ga K "PlainHall")) rfl)
    kit_PP := of_decide_eq_true (xc 23 (g := fun K => decide (PySem.W.kitOne K (.ref (He.ga K "PlainHall")) (.ref (He.ga K "PlainHall")) = some true)) rfl)
    kit_tP := of_decide_eq_true (xc 24 (g := fun K => decide (PySem.W.kitOne K (.type "tuple") (.ref (He.ga K "PlainHall")) = some false)) rfl)
    xm_NoNumber__Known_Lacks_AllTold := of_decide_eq_true (xc 25 (g := fun K => decide (PySem.W.exmAny K (.ref (He.ga K "NoNumber")) [.ref (He.ga K "Known"), .ref (He.ga K "Lacks"), .ref (He.ga K "AllTold")] = some false)) rfl)
    xm_NoNumber__NoDeed := of_decide_eq_true (xc 26 (g := fun K => decide (PySem.W.exmOne K (.ref (He.ga K "NoNumber")) (.ref (He.ga K "NoDeed")) = some false)) rfl)
    xm_NoNumber__NoMember := of_decide_eq_true (xc 27 (g := fun K => decide (PySem.W.exmOne K (.ref (He.ga K "NoNumber")) (.ref (He.ga K "NoMember")) = some false)) rfl)
    xm_NoNumber__NoNumber := of_decide_eq_true (xc 28 (g := fun K => decide (PySem.W.exmOne K (.ref (He.ga K "NoNumber")) (.ref (He.ga K "NoNumber")) = some true)) rfl)
    ki_NoNumber__Known := of_decide_eq_true (xc 29 (g := fun K => decide (PySem.W.kitOne K (.ref (He.ga K "NoNumber")) (.ref (He.ga K "Known")) = some false)) rfl)
    ki_NoNumber__Lacks := of_decide_eq_true (xc 30 (g := fun K => decide (PySem.W.kitOne K (.ref (He.ga K "NoNumber")) (.ref (He.ga K "Lacks")) = some false)) rfl)
    ki_NoNumber__Barred := of_decide_eq_true (xc 31 (g := fun K => decide (PySem.W.kitOne K (.ref (He.ga K "NoNumber")) (.ref (He.ga K "Barred")) = some false)) rfl)
    ki_NoNumber__AllTold := of_decide_eq_true (xc 32 (g := fun K => decide (PySem.W.kitOne K (.ref (He.ga K "NoNumber")) (.ref (He.ga K "AllTold")) = some false)) rfl)
    ki_NoNumber__HallError := of_decide_eq_true (xc 33 (g := fun K => decide (PySem.W.kitOne K (.ref (He.ga K "NoNumber")) (.ref (He.ga K "HallError")) = some true)) rfl)
    xm_NoMember__Known_Lacks_AllTold := of_decide_eq_true (xc 34 (g := fun K => decide (PySem.W.exmAny K (.ref (He.ga K "NoMember")) [.ref (He.ga K "Known"), .ref (He.ga K "Lacks"), .ref (He.ga K "AllTold")] = some false)) rfl)
    xm_NoMember__NoDeed := of_decide_eq_true (xc 35 (g := fun K => decide (PySem.W.exmOne K (.ref (He.ga K "NoMember")) (.ref (He.ga K "NoDeed")) = some false)) rfl)
    xm_NoMember__NoMember := of_decide_eq_true (xc 36 (g := fun K => decide (PySem.W.exmOne K (.ref (He.ga K "NoMember")) (.ref (He.ga K "NoMember")) = some true)) rfl)
    xm_NoMember__NoNumber := of_decide_eq_true (xc 37 (g := fun K => decide (PySem.W.exmOne K (.ref (He.ga K "NoMember")) (.ref (He.ga K "NoNumber")) = some false)) rfl)
    ki_NoMember__Known := of_decide_eq_true (xc 38 (g := fun K => decide (PySem.W.kitOne K (.ref (He.ga K "NoMember")) (.ref (He.ga K "Known")) = some false)) rfl)
    ki_NoMember__Lacks := of_decide_eq_true (xc 39 (g := fun K => decide (PySem.W.kitOne K (.ref (He.ga K "NoMember")) (.ref (He.ga K "Lacks")) = some false)) rfl)
    ki_NoMember__Barred := of_decide_eq_true (xc 40 (g := fun K => decide (PySem.W.kitOne K (.ref (He.ga K "NoMember")) (.ref (He.ga K "Barred")) = some false)) rfl)
    ki_NoMember__AllTold := of_decide_eq_true (xc 41 (g := fun K => decide (PySem.W.kitOne K (.ref (He.ga K "NoMember")) (.ref (He.ga K "AllTold")) = some false)) rfl)
    ki_NoMember__HallError := of_decide_eq_true (xc 42 (g := fun K => decide (PySem.W.kitOne K (.ref (He.ga K "NoMember")) (.ref (He.ga K "HallError")) = some true)) rfl)
    xm_NoDeed__Known_Lacks_AllTold := of_decide_eq_true (xc 43 (g := fun K => decide (PySem.W.exmAny K (.ref (He.ga K "NoDeed")) [.ref (He.ga K "Known"), .ref (He.ga K "Lacks"), .ref (He.ga K "AllTold")] = some false)) rfl)
    xm_NoDeed__NoDeed := of_decide_eq_true (xc 44 (g := fun K => decide (PySem.W.exmOne K (.ref (He.ga K "NoDeed")) (.ref (He.ga K "NoDeed")) = some true)) rfl)
    xm_NoDeed__NoMember := of_decide_eq_true (xc 45 (g := fun K => decide (PySem.W.exmOne K (.ref (He.ga K "NoDeed")) (.ref (He.ga K "NoMember")) = some false)) rfl)
    xm_NoDeed__NoNumber := of_decide_eq_true (xc 46 (g := fun K => decide (PySem.W.exmOne K (.ref (He.ga K "NoDeed")) (.ref (He.ga K "NoNumber")) = some false)) rfl)
    ki_NoDeed__Known := of_decide_eq_true (xc 47 (g := fun K => decide (PySem.W.kitOne K (.ref (He.ga K "NoDeed")) (.ref (He.ga K "Known")) = some false)) rfl)
    ki_NoDeed__Lacks := of_decide_eq_true (xc 48 (g := fun K => decide (PySem.W.kitOne K (.ref (He.ga K "NoDeed")) (.ref (He.ga K "Lacks")) = some false)) rfl)
    ki_NoDeed__Barred := of_decide_eq_true (xc 49 (g := fun K => decide (PySem.W.kitOne K (.ref (He.ga K "NoDeed")) (.ref (He.ga K "Barred")) = some false)) rfl)
    ki_NoDeed__AllTold := of_decide_eq_true (xc 50 (g := fun K => decide (PySem.W.kitOne K (.ref (He.ga K "NoDeed")) (.ref (He.ga K "AllTold")) = some false)) rfl)
    ki_NoDeed__HallError := of_decide_eq_true (xc 51 (g := fun K => decide (PySem.W.kitOne K (.ref (He.ga K "NoDeed")) (.ref (He.ga K "HallError")) = some true)) rfl)
    xm_Lacks__Known_Lacks_AllTold := of_decide_eq_true (xc 52 (g := fun K => decide (PySem.W.exmAny K (.ref (He.ga K "Lacks")) [.ref (He.ga K "Known"), .ref (He.ga K "Lacks"), .ref (He.ga K "AllTold")] = some true)) rfl)
    xm_Lacks__NoDeed := of_decide_eq_true (xc 53 (g := fun K => decide (PySem.W.exmOne K (.ref (He.ga K "Lacks")) (.ref (He.ga K "NoDeed")) = some false)) rfl)
    xm_Lacks__NoMember := of_decide_eq_true (xc 54 (g := fun K => decide (PySem.W.exmOne K (.ref (He.ga K "Lacks")) (.ref (He.ga K "NoMember")) = some false)) rfl)
    xm_Lacks__NoNumber := of_decide_eq_true (xc 55 (g := fun K => decide (PySem.W.exmOne K (.ref (He.ga K "Lacks")) (.ref (He.ga K "NoNumber")) = some false)) rfl)
    ki_Lacks__Known := of_decide_eq_true (xc 56 (g := fun K => decide (PySem.W.kitOne K (.ref (He.ga K "Lacks")) (.ref (He.ga K "Known")) = some false)) rfl)
    ki_Lacks__Lacks := of_decide_eq_true (xc 57 (g := fun K => decide (PySem.W.kitOne K (.ref (He.ga K "Lacks")) (.ref (He.ga K "Lacks")) = some true)) rfl)
    ki_Lacks__Barred := of_decide_eq_true (xc 58 (g := fun K => decide (PySem.W.kitOne K (.ref (He.ga K "Lacks")) (.ref (He.ga K "Barred")) = some true)) rfl)
    ki_Lacks__AllTold := of_decide_eq_true (xc 59 (g := fun K => decide (PySem.W.kitOne K (.ref (He.ga K "Lacks")) (.ref (He.ga K "AllTold")) = some false)) rfl)
    ki_Lacks__HallError := of_decide_eq_true (xc 60 (g := fun K => decide (PySem.W.kitOne K (.ref (He.ga K "Lacks")) (.ref (He.ga K "HallError")) = some false)) rfl)
    xm_Known__Known_Lacks_AllTold := of_decide_eq_true (xc 61 (g := fun K => decide (PySem.W.exmAny K (.ref (He.ga K "Known")) [.ref (He.ga K "Known"), .ref (He.ga K "Lacks"), .ref (He.ga K "AllTold")] = some true)) rfl)
    xm_Known__NoDeed := of_decide_eq_true (xc 62 (g := fun K => decide (PySem.W.exmOne K (.ref (He.ga K "Known")) (.ref (He.ga K "NoDeed")) = some false)) rfl)
    xm_Known__NoMember := of_decide_eq_true (xc 63 (g := fun K => decide (PySem.W.exmOne K (.ref (He.ga K "Known")) (.ref (He.ga K "NoMember")) = some false)) rfl)
    xm_Known__NoNumber := of_decide_eq_true (xc 64 (g := fun K => decide (PySem.W.exmOne K (.ref (He.ga K "Known")) (.ref (He.ga K "NoNumber")) = some false)) rfl)
    ki_Known__Known := of_decide_eq_true (xc 65 (g := fun K => decide (PySem.W.kitOne K (.ref (He.ga K "Known")) (.ref (He.ga K "Known")) = some true)) rfl)
    ki_Known__Lacks := of_decide_eq_true (xc 66 (g := fun K => decide (PySem.W.kitOne K (.ref (He.ga K "Known")) (.ref (He.ga K "Lacks")) = some false)) rfl)
    ki_Known__Barred := of_decide_eq_true (xc 67 (g := fun K => decide (PySem.W.kitOne K (.ref (He.ga K "Known")) (.ref (He.ga K "Barred")) = some true)) rfl)
    ki_Known__AllTold := of_decide_eq_true (xc 68 (g := fun K => decide (PySem.W.kitOne K (.ref (He.ga K "Known")) (.ref (He.ga K "AllTold")) = some false)) rfl)
    ki_Known__HallError := of_decide_eq_true (xc 69 (g := fun K => decide (PySem.W.kitOne K (.ref (He.ga K "Known")) (.ref (He.ga K "HallError")) = some false)) rfl)
    xm_AllTold__Known_Lacks_AllTold := of_decide_eq_true (xc 70 (g := fun K => decide (PySem.W.exmAny K (.ref (He.ga K "AllTold")) [.ref (He.ga K "Known"), .ref (He.ga K "Lacks"), .ref (He.ga K "AllTold")] = some true)) rfl)
    xm_AllTold__NoDeed := of_decide_eq_true (xc 71 (g := fun K => decide (PySem.W.exmOne K (.ref (He.ga K "AllTold")) (.ref (He.ga K "NoDeed")) = some false)) rfl)
    xm_AllTold__NoMember := of_decide_eq_true (xc 72 (g := fun K => decide (PySem.W.exmOne K (.ref (He.ga K "AllTold")) (.ref (He.ga K "NoMember")) = some false)) rfl)
    xm_AllTold__NoNumber := of_decide_eq_true (xc 73 (g := fun K => decide (PySem.W.exmOne K (.ref (He.ga K "AllTold")) (.ref (He.ga K "NoNumber")) = some false)) rfl)
    ki_AllTold__Known := of_decide_eq_true (xc 74 (g := fun K => decide (PySem.W.kitOne K (.ref (He.ga K "AllTold")) (.ref (He.ga K "Known")) = some false)) rfl)
    ki_AllTold__Lacks := of_decide_eq_true (xc 75 (g := fun K => decide (PySem.W.kitOne K (.ref (He.ga K "AllTold")) (.ref (He.ga K "Lacks")) = some false)) rfl)
    ki_AllTold__Barred := of_decide_eq_true (xc 76 (g := fun K => decide (PySem.W.kitOne K (.ref (He.ga K "AllTold")) (.ref (He.ga K "Barred")) = some true)) rfl)
    ki_AllTold__AllTold := of_decide_eq_true (xc 77 (g := fun K => decide (PySem.W.kitOne K (.ref (He.ga K "AllTold")) (.ref (He.ga K "AllTold")) = some true)) rfl)
    ki_AllTold__HallError := of_decide_eq_true (xc 78 (g := fun K => decide (PySem.W.kitOne K (.ref (He.ga K "AllTold")) (.ref (He.ga K "HallError")) = some false)) rfl)
    D_NoNumber_init := c.def_ (d := d_NoNumber_init) 0 rfl
    D_NoMember_init := c.def_ (d := d_NoMember_init) 1 rfl
    D_NoDeed_init := c.def_ (d := d_NoDeed_init) 2 rfl
    D_Lacks_init := c.def_ (d := d_Lacks_init) 3 rfl
    D_Known_init := c.def_ (d := d_Known_init) 4 rfl
    D_AllTold_init := c.def_ (d := d_AllTold_init) 5 rfl
    D_is_whole := c.def_ (d := d_is_whole) 6 rfl
    D_are_members := c.def_ (d := d_are_members) 7 rfl
    D_is_add := c.def_ (d := d_is_add) 8 rfl
    D_is_tell := c.def_ (d := d_is_tell) 9 rfl
    D_PlainHall_init := c.def_ (d := d_PlainHall_init) 10 rfl
    D_PlainHall_eq := c.def_ (d := d_PlainHall_eq) 11 rfl
    D_PlainHall_len := c.def_ (d := d_PlainHall_len) 12 rfl
    D_PlainHall_row := c.def_ (d := d_PlainHall_row) 13 rfl
    D_PlainHall_told_by := c.def_ (d := d_PlainHall_told_by) 14 rfl
    D_PlainHall_state := c.def_ (d := d_PlainHall_state) 15 rfl
    D_PlainHall_add_id := c.def_ (d := d_PlainHall_add_id) 16 rfl
    D_PlainHall_tell_next := c.def_ (d := d_PlainHall_tell_next) 17 rfl
    D_PlainHall_do := c.def_ (d := d_PlainHall_do) 18 rfl
    D_PlainHall_twin := c.def_ (d := d_PlainHall_twin) 19 rfl
    D__law_cell_at := c.def_ (d := d__law_cell_at) 20 rfl
    D__law_pool := c.def_ (d := d__law_pool) 21 rfl
    D__law_take := c.def_ (d := d__law_take) 22 rfl
    D__law_did := c.def_ (d := d__law_did) 23 rfl
    D__law_due := c.def_ (d := d__law_due) 24 rfl
    D__law_no_member := c.def_ (d := d__law_no_member) 25 rfl
    D__law_stands := c.def_ (d := d__law_stands) 26 rfl
    D__law_bad := c.def_ (d := d__law_bad) 27 rfl
    D__law_made := c.def_ (d := d__law_made) 28 rfl
    D__law_done := c.def_ (d := d__law_done) 29 rfl
    D_law := c.def_ (d := d_law) 30 rfl
  }
section
variable {P : Program} {w : World} {K : PySem.W.Frag} {mg : Str → Option Value} {base : Heap}
theorem rai_NoNumber (t : T K mg) : RaiX P w K mg base "NoNumber" (He.ga K "NoNumber") "found" := by
  obtain ⟨fd, F⟩ := t.D_NoNumber_init
  refine ⟨_, _, _, _, fd, xb_VE, t.x_NoNumber, t.m_NoNumber_init.at_, beq_iff_eq.mp t.m_NoNumber_init.fn, F.ok sc_NoNumber_init (fun vs H Q E h => by obtain ⟨a, v, rfl, _⟩ := h; rfl) (fun cdv A outer s H vs Q E hr h => ?body), F.bindsN (fun _ _ _ _ _ _ us hl => match us, hl with | [_, _], _ => rfl), t.g_NoNumber⟩
  obtain ⟨a, v, rfl, ha, k⟩ := h
  refine ⟨_, (pss_cons (ps_expr (pe_xinit xb_VE rfl t.g_HallError t.b_HallError.sp t.b_HallError.rd t.b_HallError.fi (pa_cons (pv 0) (pa_cons pe_str pa_nil)))) (pss_one (ps_xst xb_VE (pv 0) (pv 1)))), ?_⟩
  exact ⟨_, rfl, a, He.ga K "NoNumber", _, rfl, by decide, t.x_NoNumber, ha, _, rfl, _, rfl, a, He.ga K "NoNumber", rfl, t.x_NoNumber, t.n_NoNumber_found, ha, fun dx hd hne => k dx hd hne⟩
theorem rai_NoMember (t : T K mg) : RaiX P w K mg base "NoMember" (He.ga K "NoMember") "found" := by
  obtain ⟨fd, F⟩ := t.D_NoMember_init
  refine ⟨_, _, _, _, fd, xb_VE, t.x_NoMember, t.m_NoMember_init.at_, beq_iff_eq.mp t.m_NoMember_init.fn, F.ok sc_NoMember_init (fun vs H Q E h => by obtain ⟨a, v, rfl, _⟩ := h; rfl) (fun cdv A outer s H vs Q E hr h => ?body), F.bindsN (fun _ _ _ _ _ _ us hl => match us, hl with | [_, _], _ => rfl), t.g_NoMember⟩
  obtain ⟨a, v, rfl, ha, k⟩ := h
  refine ⟨_, (pss_cons (ps_expr (pe_xinit xb_VE rfl t.g_HallError t.b_HallError.sp t.b_HallError.rd t.b_HallError.fi (pa_cons (pv 0) (pa_cons pe_str pa_nil)))) (pss_one (ps_xst xb_VE (pv 0) (pv 1)))), ?_⟩
  exact ⟨_, rfl, a, He.ga K "NoMember", _, rfl, by decide, t.x_NoMember, ha, _, rfl, _, rfl, a, He.ga K "NoMember", rfl, t.x_NoMember, t.n_NoMember_found, ha, fun dx hd hne => k dx hd hne⟩
theorem rai_NoDeed (t : T K mg) : RaiX P w K mg base "NoDeed" (He.ga K "NoDeed") "found" := by
  obtain ⟨fd, F⟩ := t.D_NoDeed_init
  refine ⟨_, _, _, _, fd, xb_VE, t.x_NoDeed, t.m_NoDeed_init.at_, beq_iff_eq.mp t.m_NoDeed_init.fn, F.ok sc_NoDeed_init (fun vs H Q E h => by obtain ⟨a, v, rfl, _⟩ := h; rfl) (fun cdv A outer s H vs Q E hr h => ?body), F.bindsN (fun _ _ _ _ _ _ us hl => match us, hl with | [_, _], _ => rfl), t.g_NoDeed⟩
  obtain ⟨a, v, rfl, ha, k⟩ := h
  refine ⟨_, (pss_cons (ps_expr (pe_xinit xb_VE rfl t.g_HallError t.b_HallError.sp t.b_HallError.rd t.b_HallError.fi (pa_cons (pv 0) (pa_cons pe_str pa_nil)))) (pss_one (ps_xst xb_VE (pv 0) (pv 1)))), ?_⟩
  exact ⟨_, rfl, a, He.ga K "NoDeed", _, rfl, by decide, t.x_NoDeed, ha, _, rfl, _, rfl, a, He.ga K "NoDeed", rfl, t.x_NoDeed, t.n_NoDeed_found, ha, fun dx hd hne => k dx hd hne⟩
theorem rai_Lacks (t : T K mg) : RaiX P w K mg base "Lacks" (He.ga K "Lacks") "found" := by
  obtain ⟨fd, F⟩ := t.D_Lacks_init
  refine ⟨_, _, _, _, fd, xb_LE, t.x_Lacks, t.m_Lacks_init.at_, beq_iff_eq.mp t.m_Lacks_init.fn, F.ok sc_Lacks_init (fun vs H Q E h => by obtain ⟨a, v, rfl, _⟩ := h; rfl) (fun cdv A outer s H vs Q E hr h => ?body), F.bindsN (fun _ _ _ _ _ _ us hl => match us, hl with | [_, _], _ => rfl), t.g_Lacks⟩
  obtain ⟨a, v, rfl, ha, k⟩ := h
  refine ⟨_, (pss_cons (ps_expr (pe_xinit xb_LE rfl t.g_Barred t.b_Barred.sp t.b_Barred.rd t.b_Barred.fi (pa_cons (pv 0) (pa_cons pe_str pa_nil)))) (pss_one (ps_xst xb_LE (pv 0) (pv 1)))), ?_⟩
  exact ⟨_, rfl, a, He.ga K "Lacks", _, rfl, by decide, t.x_Lacks, ha, _, rfl, _, rfl, a, He.ga K "Lacks", rfl, t.x_Lacks, t.n_Lacks_found, ha, fun dx hd hne => k dx hd hne⟩
theorem rai_Known (t : T K mg) : RaiX P w K mg base "Known" (He.ga K "Known") "found" := by
  obtain ⟨fd, F⟩ := t.D_Known_init
  refine ⟨_, _, _, _, fd, xb_LE, t.x_Known, t.m_Known_init.at_, beq_iff_eq.mp t.m_Known_init.fn, F.ok sc_Known_init (fun vs H Q E h => by obtain ⟨a, v, rfl, _⟩ := h; rfl) (fun cdv A outer s H vs Q E hr h => ?body), F.bindsN (fun _ _ _ _ _ _ us hl => match us, hl with | [_, _], _ => rfl), t.g_Known⟩
  obtain ⟨a, v, rfl, ha, k⟩ := h
  refine ⟨_, (pss_cons (ps_expr (pe_xinit xb_LE rfl t.g_Barred t.b_Barred.sp t.b_Barred.rd t.b_Barred.fi (pa_cons (pv 0) (pa_cons pe_str pa_nil)))) (pss_one (ps_xst xb_LE (pv 0) (pv 1)))), ?_⟩
  exact ⟨_, rfl, a, He.ga K "Known", _, rfl, by decide, t.x_Known, ha, _, rfl, _, rfl, a, He.ga K "Known", rfl, t.x_Known, t.n_Known_found, ha, fun dx hd hne => k dx hd hne⟩
theorem rai_AllTold (t : T K mg) : RaiX P w K mg base "AllTold" (He.ga K "AllTold") "found" := by
  obtain ⟨fd, F⟩ := t.D_AllTold_init
  refine ⟨_, _, _, _, fd, xb_LE, t.x_AllTold, t.m_AllTold_init.at_, beq_iff_eq.mp t.m_AllTold_init.fn, F.ok sc_AllTold_init (fun vs H Q E h => by obtain ⟨a, v, rfl, _⟩ := h; rfl) (fun cdv A outer s H vs Q E hr h => ?body), F.bindsN (fun _ _ _ _ _ _ us hl => match us, hl with | [_, _], _ => rfl), t.g_AllTold⟩
  obtain ⟨a, v, rfl, ha, k⟩ := h
  refine ⟨_, (pss_cons (ps_expr (pe_xinit xb_LE rfl t.g_Barred t.b_Barred.sp t.b_Barred.rd t.b_Barred.fi (pa_cons (pv 0) (pa_cons pe_str pa_nil)))) (pss_one (ps_xst xb_LE (pv 0) (pv 1)))), ?_⟩
  exact ⟨_, rfl, a, He.ga K "AllTold", _, rfl, by decide, t.x_AllTold, ha, _, rfl, _, rfl, a, He.ga K "AllTold", rfl, t.x_AllTold, t.n_AllTold_found, ha, fun dx hd hne => k dx hd hne⟩
end
end K78
set_option Elab.async false
set_option linter.all false
set_option maxRecDepth 100000
set_option maxHeartbeats 400000
namespace K78
open PySem PySem.Spec PyProof.Rows L2
local macro_rules | `(tactic| wtm_at "cg") => `(tactic| first
  | with_reducible refine g_seq ?_
  | with_reducible refine g_ifS ?_
  | with_reducible refine g_test ?_
  | with_reducible refine g_tB ?_
  | with_reducible refine g_or ?_
  | with_reducible refine g_and ?_
  | with_reducible refine g_not ?_
  | (focus ((with_reducible apply g_var); (case' h => exact rfl); (case' k => skip)))
  | with_reducible refine g_c ?_
  | with_reducible refine g_cb ?_
  | with_reducible refine g_cons ?_
  | with_reducible refine g_nil ?_
  | with_reducible refine g_op ?_
  | with_reducible refine g_un ?_
  | with_reducible refine g_fld ?_
  | (focus ((with_reducible apply g_fldq); (case' h => wtm_at "chp"); (case' c => wtm_at "ccls"); (case' n => wtm_at "ccls"); (case' l => exact rfl); (case' k => skip)))
  | with_reducible refine g_ret ?_
  | with_reducible refine g_asg ?_
  | with_reducible refine g_next ?_
  | with_reducible refine g_drop ?_
  | with_reducible refine g_cal ?_
  | with_reducible refine g_met ?_
  | (focus ((with_reducible apply g_metq); (case' h => wtm_at "chp"); (case' l => exact rfl); (case' k => skip)))
  | with_reducible refine g_orV ?_
  | with_reducible refine g_andV ?_
  | with_reducible refine g_notV ?_
  | with_reducible refine g_blV ?_
  | with_reducible refine g_ifE ?_
  | with_reducible refine g_tup ?_
  | with_reducible refine g_lst ?_
  | with_reducible refine g_sfld ?_
  | with_reducible refine g_mk1 ?_
  | with_reducible refine g_I0 ?_
  | (focus ((with_reducible apply g_eq); (case' h => exact rfl); (case' k => skip)))
  | (focus ((with_reducible apply g_ne); (case' h => exact rfl); (case' k => skip)))
  | with_reducible refine And.intro (Eq.refl V.non) ?_
  | (focus ((with_reducible apply g_T); (case' h => first | exact rfl | exact decide_eq_true rfl); (case' k => skip)))
  | (focus ((with_reducible apply g_F); (case' h => first | exact rfl | exact ndec | (focus ((with_reducible apply decide_eq_false); (intro z); (cases z); done))); (case' k => skip)))
  | (focus ((with_reducible apply g_lenL); (case' h => wtm_at "csql"); (case' k => skip)))
  | (focus ((with_reducible apply g_lenT); (case' h => wtm_at "csqt"); (case' k => skip)))
  | (focus ((with_reducible apply g_ixT); (case' h => wtm_at "csqt"); (case' e => exact rfl); (case' k => skip)))
  | (focus ((with_reducible apply g_ixL); (case' h => wtm_at "csql"); (case' e => exact rfl); (case' k => skip))))
local macro_rules | `(tactic| wtm_at "cgs") => `(tactic| (repeat wtm_at "cg"))
/- H a = some o -/
local macro_rules | `(tactic| wtm_at "chp") => `(tactic| first
  | with_reducible assumption
  | exact upd_same
  | (focus ((with_reducible apply upd_new); (case' n => with_reducible assumption); (case' h => wtm_at "chp")))
  | (focus ((with_reducible apply upd_off); (case' n => first | wtm_at "cne0" | wtm_at "cne"); (case' h => wtm_at "chp")))
  | (focus ((with_reducible apply Fr.use0); (case' f => with_reducible assumption); (case' e => wtm_at "chp")))
  | (focus ((with_reducible apply Fr.use); (case' f => with_reducible assumption); (case' e => wtm_at "chp"); (case' n => wtm_at "cnin")))
  | assumption)
local macro_rules | `(tactic| wtm_at "cnin") => `(tactic| first
  | assumption
  | exact List.not_mem_nil
  | (focus ((with_reducible apply not_mem_c); (case' h => wtm_at "cne"); (case' t => wtm_at "cnin"))))
local macro_rules | `(tactic| wtm_at "cne0") => `(tactic| first
  | with_reducible assumption
  | (with_reducible apply Ne.symm; with_reducible assumption))
local macro_rules | `(tactic| wtm_at "cne") => `(tactic| first
  | wtm_at "cne0"
  | (focus ((with_reducible apply ne_of_none); (case' h' => with_reducible assumption); (case' h => wtm_at "chp")))
  | (focus ((with_reducible apply Ne.symm); (with_reducible apply ne_of_none); (case' h' => with_reducible assumption); (case' h => wtm_at "chp"))))
local macro_rules | `(tactic| wtm_at "csqt") => `(tactic| first | assumption | exact SqT.of (by wtm_at "chp"))
local macro_rules | `(tactic| wtm_at "csql") => `(tactic| first | assumption | exact SqL.of (by wtm_at "chp"))
local macro_rules | `(tactic| wtm_at "cst") => `(tactic| ((try dsimp only [L2.start, List.map, List.length_cons, List.length_nil, List.replicate, Nat.reduceAdd, Nat.reduceSub]); (try simp only [List.append_nil, List.nil_append, List.cons_append])))
local macro_rules | `(tactic| wtm_at "ccls") => `(tactic| first | assumption | (rename_i t; exact t.c_PlainHall))
local macro_rules | `(tactic| wtm_at "cg") => `(tactic| first
  | (focus ((with_reducible apply g_sfldq); (case' h => wtm_at "chp"); (case' c => assumption); (case' n => assumption); (case' l => exact of_decide_eq_true rfl); (case' k => skip)))
  | (focus ((with_reducible apply g_tofL); (case' h => wtm_at "csql"); (case' k => skip)))
  | (focus ((with_reducible apply g_tofT); (case' h => wtm_at "csqt"); (case' k => skip)))
  | with_reducible refine g_bm ?_
  | with_reducible refine g_mak ?_
  | with_reducible refine g_augS ?_
  | with_reducible refine g_ipI ?_
  | with_reducible refine g_asgS ?_
  | with_reducible refine g_gName ?_
  | with_reducible refine g_for ?_
  | with_reducible refine g_disp ?_
  | with_reducible refine g_pnil ?_
  | with_reducible refine g_pcons ?_
  | with_reducible refine g_lc ?_
  | with_reducible refine g_U ?_
  | with_reducible refine g_dnew ?_
  | with_reducible refine g_xfG ?_
  | with_reducible refine g_dget ?_
  | with_reducible refine g_sl ?_
  | with_reducible refine g_part ?_
  | with_reducible refine g_partq ?_
  | with_reducible refine g_nopart ?_
  | with_reducible refine Or.inr (Exists.intro _ (And.intro (Eq.refl [V.bl _]) ?_))
  | with_reducible refine g_rng1 ?_
  | with_reducible refine g_itL ?_)
local macro_rules | `(tactic| wtm_at "cfr") => `(tactic| first
  | assumption
  | exact Fr.refl
  | (focus ((with_reducible apply Fr.new); (case' h => assumption); (case' f => wtm_at "cfr")))
  | (focus ((with_reducible apply Fr.mut); (case' h => wtm_at "cmem"); (case' f => wtm_at "cfr")))
  | (focus ((with_reducible apply Fr.mutN); (case' h => wtm_at "chn"); (case' f => wtm_at "cfr"))))
local macro_rules | `(tactic| wtm_at "cmem") => `(tactic| first
  | exact List.mem_cons_self
  | (refine List.mem_cons_of_mem _ ?_; wtm_at "cmem"))
local macro_rules | `(tactic| wtm_at "chn") => `(tactic| first
  | assumption
  | (focus ((with_reducible apply Fr.free0); (case' h => assumption); (case' f => wtm_at "cfr"))))
/- allocations and the like, names left -/
local macro_rules | `(tactic| wtm_at "cga") => `(tactic| first
  | wtm_at "cg"
  | (with_reducible refine And.intro le100 ?_; intro _ _)
  | (with_reducible refine g_all ?_; intro _ _)
  | (focus ((with_reducible apply g_dispE); (case' e => wtm_at "chp"); (case' k => skip)))
  | (focus ((with_reducible apply g_xfGq); (case' t => assumption); (case' n => assumption); (case' h => wtm_at "chp"); (case' l => exact rfl); (case' k => skip)))
  | (focus ((with_reducible apply g_isX); (case' h => wtm_at "chp"); (case' t => assumption); (case' e => assumption); (case' k => skip)))
  | (focus ((with_reducible apply g_rep); (case' h => wtm_at "chp"); (case' h1 => decide); (case' h2 => decide); (case' q => (intro _ _))))
  | (focus ((with_reducible apply g_cat); (case' h => wtm_at "chp"); (case' h2 => wtm_at "chp"); (case' l => exact le100); (case' k => (intro _ _))))
  | (focus ((with_reducible apply g_dgetK); (case' h => wtm_at "chp"); (case' e => wtm_at "cvv"); (case' k => skip))))
local macro_rules | `(tactic| wtm_at "cgas") => `(tactic| (repeat wtm_at "cga"))
local macro_rules | `(tactic| wtm_at "cvv") => `(tactic| first
  | with_reducible exact valV_hd
  | (focus ((with_reducible apply valV_tl); (case' h => decide); (case' e => wtm_at "cvv"))))
/- up to the next statement -/
local macro_rules | `(tactic| wtm_at "cgus") => `(tactic| (repeat ((fail_if_success (with_reducible refine g_seq ?_)); wtm_at "cga")))

section
variable {P : Program} {w : World} {K : PySem.W.Frag} {mg : Str → Option Value} {base : Heap}

/-! ### words -/
@[reducible] def optV : Option Int → V
  | none => .non
  | some h => .int h
def sp_whole (K : PySem.W.Frag) : Sp := spOf (fun (a : V × Int × Option Int) => [a.1, .int a.2.1, optV a.2.2]) fun a H Q _ => (∃ T, Th K H a.1 T) ∧ Q (.bl (wholeV a.1 a.2.1 a.2.2)) H
theorem fok_is_whole (t : T K mg) : ∃ fd, FunD K "is_whole" "is_whole" (defArgs s_is_whole) (defBody s_is_whole) (defScope s_is_whole) [.non] [] (He.fAd K d_is_whole.at_) fd ∧ FnOk P w K mg base (L2.CX P w) 1 (He.fAd K d_is_whole.at_) fd ["thing", "low", "high"] (sp_whole K) := by
  obtain ⟨fd, F⟩ := t.D_is_whole
  refine ⟨fd, F, F.ok sc_is_whole (fun vs H Q E h => spOf_len h (fun _ => rfl)) (fun cdv A outer s H vs Q E hr h => ?body)⟩
  case body =>
    obtain ⟨⟨x, lo, hi⟩, rfl, ⟨T, hT⟩, k⟩ := h
    dsimp only at hT k
    refine ⟨_, (pss_cons (ps_if (pw_or (pt_not (pt_val (pe_callB call_isi (by rfl) t.f_isinstance bt_isinstance (pa_cons (pv 0) (pa_cons (pe_bltn (v := .ty "int") (by rfl) t.f_int (by decide +kernel) rfl) pa_nil))))) (pw_or (pt_val (pe_callB call_isi (by rfl) t.f_isinstance bt_isinstance (pa_cons (pv 0) (pa_cons (pe_bltn (v := .ty "bool") (by rfl) t.f_bool (by decide +kernel) rfl) pa_nil)))) (pw_or1 (pt_cmpR op_lt (pv 0) (pv 1) (nomark _))))).pt (pss_one (ps_ret pe_bl)) pss_nil)
    (pss_one (ps_ret (pe_or (pe_cmpR op_isN (pv 2) pe_non (nomark _)) (pe_one (pe_cmpR op_le (pv 0) (pv 2) (nomark _))))))), ?_⟩
    wtm_at "cst"
    wtm_at "cgs"
    refine g_isi (.ty _) hT.ty (kit_int hT.ok) ?_
    by_cases h1 : T = "int"
    · subst h1
      obtain ⟨i, rfl⟩ := th_of_int hT
      wtm_at "cgs"
      refine g_isi (.ty _) hT.ty (kit_bool hT.ok) ?_
      wtm_at "cgs"
      by_cases h2 : i < lo
      · refine g_T (decide_eq_true h2) ?_
        wtm_at "cgs"
        rw [show wholeV (.int i) lo hi = false by show (decide (lo ≤ i) && _) = false; rw [decide_eq_false (by omega)]; rfl] at k
        exact k
      · refine g_F (decide_eq_false h2) ?_
        wtm_at "cgs"
        cases hi with
        | none =>
          rw [show wholeV (.int i) lo none = true by show (decide (lo ≤ i) && _) = _; rw [decide_eq_true (by omega)]; rfl] at k
          dsimp only [optV]
          wtm_at "cgs"
          exact k
        | some h =>
          rw [show wholeV (.int i) lo (some h) = decide (i ≤ h) by show (decide (lo ≤ i) && _) = _; rw [decide_eq_true (by omega)]; rfl] at k
          dsimp only [optV]
          wtm_at "cgs"
          exact k
    · rw [whole_not hT h1] at k
      by_cases h2 : T = "bool"
      · subst h2
        wtm_at "cgs"
        refine g_isi (.ty _) hT.ty (kit_bool hT.ok) ?_
        wtm_at "cgs"
        exact k
      · refine g_blV ?_
        refine g_T (by rw [beq_false_of_ne h1, beq_false_of_ne h2]; rfl) ?_
        wtm_at "cgs"
        exact k
theorem ok_is_whole2 (t : T K mg) : CalX P w K mg base 1 "is_whole" (sp_whole K) [.non] := by
  obtain ⟨fd, F, G⟩ := fok_is_whole (P := P) (w := w) (base := base) t
  obtain ⟨ds, hv, hb⟩ := F.binds1 2 0 (List.cons_ne_nil _ _) rfl (fun _ _ _ _ _ _ _ us its hu hi => match us, hu, its, hi with | [_, _], _, [_], _ => ⟨_, rfl, rfl⟩) (ps := ["thing", "low", "high"])
  exact ⟨_, fd, _, ds, G, t.g_is_whole, F.kp, hb, hv⟩
theorem ok_is_whole (t : T K mg) : CalX P w K mg base 1 "is_whole" (sp_whole K) [] := by
  obtain ⟨fd, F, G⟩ := fok_is_whole (P := P) (w := w) (base := base) t
  obtain ⟨ds, hv, hb⟩ := F.binds1 3 1 (List.cons_ne_nil _ _) rfl (fun _ _ _ _ _ _ _ us its hu hi => match us, hu, its, hi with | [_, _, _], _, [_], _ => ⟨_, rfl, rfl⟩) (ps := ["thing", "low", "high"])
  exact ⟨_, fd, _, ds, G, t.g_is_whole, F.kp, hb, hv⟩
def sp_mem (K : PySem.W.Frag) : Sp := spOf (fun (a : V) => [a]) fun a H Q _ => (∃ T, Th K H a T) ∧ Q (.bl (wholeV a 2 (some 5))) H
theorem ok_are_members (t : T K mg) : CalX P w K mg base 2 "are_members" (sp_mem K) [] := by
  obtain ⟨fd, F⟩ := t.D_are_members
  refine ⟨_, fd, ["thing"], [], F.ok sc_are_members (fun vs H Q E h => spOf_len h (fun _ => rfl)) (fun cdv A outer s H vs Q E hr h => ?body), t.g_are_members, F.kp, F.bindsN (fun _ _ _ _ _ _ us hl => match us, hl with | [_], _ => rfl), .nil⟩
  case body =>
    obtain ⟨x, rfl, hT, k⟩ := h
    refine ⟨_, (pss_one (ps_ret (pc_cal (ok_is_whole t) hr (by decide) (takes_of rfl rfl rfl rfl) (by rfl) (pa_cons (pv 0) (pa_cons (pe_gi (by rfl) t.i_LEAST_MEMBERS) (pa_cons (pe_gi (by rfl) t.i_MOST_MEMBERS) pa_nil)))))), ?_⟩
    wtm_at "cst"
    wtm_at "cgs"
    exact ⟨⟨x, 2, some 5⟩, rfl, hT, k⟩
/-! ### deeds -/
/-- what stands in a thing that may be a deed -/
def addB (xs : List V) (m : Int) : Bool := match xs with
  | [a, b, c] => decide (a = .str "add") && (wholeV b 0 (some (m - 1)) && wholeV c 1 none)
  | _ => false
def tellB (xs : List V) (m : Int) : Bool := match xs with
  | [a, b] => decide (a = .str "tell") && wholeV b 0 (some (m - 1))
  | _ => false
def ThAll (K : PySem.W.Frag) (H : Hp) (xs : List V) : Prop := ∀ x ∈ xs, ∃ T, Th K H x T
/-- a thing with its answer: no tuple, or a tuple of things -/
inductive Deed (K : PySem.W.Frag) (H : Hp) (v : V) (f : List V → Bool) : Bool → Prop
  | no {T : String} : Th K H v T → T ≠ "tuple" → Deed K H v f false
  | tup {a : Addr} {xs : List V} : v = .ref a → H a = some (.tup xs) → ThAll K H xs → Deed K H v f (f xs)
def sp_isadd (K : PySem.W.Frag) (f : List V → Int → Bool) : Sp := spOf (fun (a : V × Int) => [a.1, .int a.2]) fun a H Q _ => ∃ b, Deed K H a.1 (fun xs => f xs a.2) b ∧ Q (.bl b) H
theorem th_of_tup {H : Hp} {a : Addr} {xs : List V} (h : H a = some (.tup xs)) : TyX K H (.ref a) (.type "tuple") := (th_tup (K := K) h).ty
theorem str_of {H : Hp} {v : V} (h : Th K H v "str") : ∃ z, v = .str z := by
  rcases h.sc with e | ⟨a, rfl, ⟨e, _⟩ | ⟨e, _⟩ | ⟨e, _⟩⟩
  · cases v with
    | str i => exact ⟨i, rfl⟩
    | _ => first | cases e | (exact absurd (Option.some.inj e) (by decide))
  · exact absurd e (by decide)
  · exact absurd e (by decide)
  · exact absurd e (by decide)
theorem nostr {H : Hp} {v : V} {T : String} {z : Str} (h : Th K H v T) (n : T ≠ "str") : v ≠ .str z := by
  intro e
  subst e
  rcases h.sc with e | ⟨a, e, _⟩
  · cases e
    exact n rfl
  · cases e
theorem addB_len {xs : List V} {m : Int} (h : xs.length ≠ 3) : addB xs m = false := by
  unfold addB
  split
  · exact absurd rfl h
  · rfl
theorem tellB_len {xs : List V} {m : Int} (h : xs.length ≠ 2) : tellB xs m = false := by
  unfold tellB
  split
  · exact absurd rfl h
  · rfl
theorem len3 {xs : List V} (h : xs.length = 3) : ∃ a b c, xs = [a, b, c] := by
  match xs, h with
  | [a, b, c], _ => exact ⟨a, b, c, rfl⟩
theorem len2 {xs : List V} (h : xs.length = 2) : ∃ a b, xs = [a, b] := by
  match xs, h with
  | [a, b], _ => exact ⟨a, b, rfl⟩
theorem ne_len {n : Nat} {k : Int} (h : (n : Int) ≠ k) : (!decide (V.int (n : Int) = V.int k)) = true := by
  rw [decide_eq_false (fun e => h (V.int.inj e))]
  rfl
theorem thall {H : Hp} {x : V} {xs : List V} (h : ThAll K H (x :: xs)) : (∃ T, Th K H x T) ∧ ThAll K H xs := ⟨h x List.mem_cons_self, fun y hy => h y (List.mem_cons_of_mem _ hy)⟩
theorem ok_is_add (t : T K mg) : CalX P w K mg base 3 "is_add" (sp_isadd K addB) [] := by
  obtain ⟨fd, F⟩ := t.D_is_add
  refine ⟨_, fd, ["deed", "members"], [], F.ok sc_is_add (fun vs H Q E h => spOf_len h (fun _ => rfl)) (fun cdv A outer s H vs Q E hr h => ?body), t.g_is_add, F.kp, F.bindsN (fun _ _ _ _ _ _ us hl => match us, hl with | [_, _], _ => rfl), .nil⟩
  case body =>
    obtain ⟨⟨x, m⟩, rfl, b, hd, k⟩ := h
    dsimp only at hd k
    refine ⟨_, (pss_cons (ps_if (pw_or (pt_not (pt_val (pe_callB call_isi (by rfl) t.f_isinstance bt_isinstance (pa_cons (pv 0) (pa_cons (pe_bltn (v := .ty "tuple") (by rfl) t.f_tuple (by decide +kernel) rfl) pa_nil))))) (pw_or (pt_cmpR op_ne (pe_callB call_len_seq (by rfl) t.f_len bt_len (pa_cons (pv 0) pa_nil)) pe_int (nomark _)) (pw_or1 (pt_not (pt_val (pe_callB call_isi (by rfl) t.f_isinstance bt_isinstance (pa_cons (pe_ix ix_tup (pv 0) pe_int (fun _ _ => rfl)) (pa_cons (pe_bltn (v := .ty "str") (by rfl) t.f_str (by decide +kernel) rfl) pa_nil)))))))).pt (pss_one (ps_ret pe_bl)) pss_nil)
    (pss_one (ps_ret (pe_and (pe_cmpR op_eq (pe_ix ix_tup (pv 0) pe_int (fun _ _ => rfl)) pe_str (nomark _)) (pe_and (pc_cal (ok_is_whole t) hr (by decide) (takes_of rfl rfl rfl rfl) (by rfl) (pa_cons (pe_ix ix_tup (pv 0) pe_int (fun _ _ => rfl)) (pa_cons pe_int (pa_cons (pe_op op_sub (pv 1) pe_int) pa_nil)))) (pe_one (pc_cal (ok_is_whole2 t) hr (by decide) (takes_of rfl rfl rfl rfl) (by rfl) (pa_cons (pe_ix ix_tup (pv 0) pe_int (fun _ _ => rfl)) (pa_cons pe_int pa_nil))))))))), ?_⟩
    wtm_at "cst"
    wtm_at "cgs"
    cases hd with
    | @no T hT hn =>
      refine g_isi (.ty _) hT.ty (kit_tup hT.ok) ?_
      refine g_blV ?_
      refine g_T (by rw [beq_false_of_ne hn]; rfl) ?_
      wtm_at "cgs"
      exact k
    | @tup a xs e ha hall =>
      subst e
      refine g_isi (.ty _) (th_of_tup ha) (kit_tup (th_tup (K := K) ha).ok) ?_
      by_cases hl : xs.length = 3
      · obtain ⟨a0, a1, a2, rfl⟩ := len3 hl
        obtain ⟨⟨T0, h0⟩, hr1⟩ := thall hall
        obtain ⟨h1, hr2⟩ := thall hr1
        obtain ⟨h2, _⟩ := thall hr2
        wtm_at "cgs"
        refine g_isi (.ty _) h0.ty (kit_str h0.ok) ?_
        by_cases e0 : T0 = "str"
        · subst e0
          obtain ⟨z, rfl⟩ := str_of h0
          wtm_at "cgs"
          by_cases ez : z = "add"
          · subst ez
            refine g_T (decide_eq_true rfl) ?_
            wtm_at "cgs"
            refine ⟨⟨a1, 0, some (m - 1)⟩, rfl, h1, ?_⟩
            dsimp only
            cases e1 : wholeV a1 0 (some (m - 1)) with
            | true =>
              wtm_at "cgs"
              refine ⟨⟨a2, 1, none⟩, rfl, h2, ?_⟩
              dsimp only
              rw [show addB [.str "add", a1, a2] m = wholeV a2 1 none by show (decide (V.str "add" = V.str "add") && (wholeV a1 0 (some (m - 1)) && wholeV a2 1 none)) = _; rw [e1, decide_eq_true rfl]; rfl] at k
              exact k
            | false =>
              wtm_at "cgs"
              rw [show addB [.str "add", a1, a2] m = false by show (decide (V.str "add" = V.str "add") && (wholeV a1 0 (some (m - 1)) && wholeV a2 1 none)) = _; rw [e1, decide_eq_true rfl]; rfl] at k
              exact k
          · have e3 : V.str z ≠ V.str "add" := fun e => ez (V.str.inj e)
            refine g_F (decide_eq_false e3) ?_
            wtm_at "cgs"
            rw [show addB [.str z, a1, a2] m = false by show (decide (V.str z = V.str "add") && (wholeV a1 0 (some (m - 1)) && wholeV a2 1 none)) = _; rw [decide_eq_false e3]; rfl] at k
            exact k
        · refine g_blV ?_
          refine g_T (by rw [beq_false_of_ne e0]; rfl) ?_
          wtm_at "cgs"
          rw [show addB [a0, a1, a2] m = false by show (decide (a0 = V.str "add") && (wholeV a1 0 (some (m - 1)) && wholeV a2 1 none)) = _; rw [decide_eq_false (nostr h0 e0)]; rfl] at k
          exact k
      · wtm_at "cgs"
        refine g_T (ne_len (by omega)) ?_
        wtm_at "cgs"
        rw [addB_len hl] at k
        exact k
theorem ok_is_tell (t : T K mg) : CalX P w K mg base 3 "is_tell" (sp_isadd K tellB) [] := by
  obtain ⟨fd, F⟩ := t.D_is_tell
  refine ⟨_, fd, ["deed", "members"], [], F.ok sc_is_tell (fun vs H Q E h => spOf_len h (fun _ => rfl)) (fun cdv A outer s H vs Q E hr h => ?body), t.g_is_tell, F.kp, F.bindsN (fun _ _ _ _ _ _ us hl => match us, hl with | [_, _], _ => rfl), .nil⟩
  case body =>
    obtain ⟨⟨x, m⟩, rfl, b, hd, k⟩ := h
    dsimp only at hd k
    refine ⟨_, (pss_cons (ps_if (pw_or (pt_not (pt_val (pe_callB call_isi (by rfl) t.f_isinstance bt_isinstance (pa_cons (pv 0) (pa_cons (pe_bltn (v := .ty "tuple") (by rfl) t.f_tuple (by decide +kernel) rfl) pa_nil))))) (pw_or (pt_cmpR op_ne (pe_callB call_len_seq (by rfl) t.f_len bt_len (pa_cons (pv 0) pa_nil)) pe_int (nomark _)) (pw_or1 (pt_not (pt_val (pe_callB call_isi (by rfl) t.f_isinstance bt_isinstance (pa_cons (pe_ix ix_tup (pv 0) pe_int (fun _ _ => rfl)) (pa_cons (pe_bltn (v := .ty "str") (by rfl) t.f_str (by decide +kernel) rfl) pa_nil)))))))).pt (pss_one (ps_ret pe_bl)) pss_nil)
    (pss_one (ps_ret (pe_and (pe_cmpR op_eq (pe_ix ix_tup (pv 0) pe_int (fun _ _ => rfl)) pe_str (nomark _)) (pe_one (pc_cal (ok_is_whole t) hr (by decide) (takes_of rfl rfl rfl rfl) (by rfl) (pa_cons (pe_ix ix_tup (pv 0) pe_int (fun _ _ => rfl)) (pa_cons pe_int (pa_cons (pe_op op_sub (pv 1) pe_int) pa_nil))))))))), ?_⟩
    wtm_at "cst"
    wtm_at "cgs"
    cases hd with
    | @no T hT hn =>
      refine g_isi (.ty _) hT.ty (kit_tup hT.ok) ?_
      refine g_blV ?_
      refine g_T (by rw [beq_false_of_ne hn]; rfl) ?_
      wtm_at "cgs"
      exact k
    | @tup a xs e ha hall =>
      subst e
      refine g_isi (.ty _) (th_of_tup ha) (kit_tup (th_tup (K := K) ha).ok) ?_
      by_cases hl : xs.length = 2
      · obtain ⟨a0, a1, rfl⟩ := len2 hl
        obtain ⟨⟨T0, h0⟩, hr1⟩ := thall hall
        obtain ⟨h1, _⟩ := thall hr1
        wtm_at "cgs"
        refine g_isi (.ty _) h0.ty (kit_str h0.ok) ?_
        by_cases e0 : T0 = "str"
        · subst e0
          obtain ⟨z, rfl⟩ := str_of h0
          wtm_at "cgs"
          by_cases ez : z = "tell"
          · subst ez
            refine g_T (decide_eq_true rfl) ?_
            wtm_at "cgs"
            refine ⟨⟨a1, 0, some (m - 1)⟩, rfl, h1, ?_⟩
            dsimp only
            rw [show tellB [.str "tell", a1] m = wholeV a1 0 (some (m - 1)) by show (decide (V.str "tell" = V.str "tell") && wholeV a1 0 (some (m - 1))) = _; rw [decide_eq_true rfl]; rfl] at k
            exact k
          · have e3 : V.str z ≠ V.str "tell" := fun e => ez (V.str.inj e)
            refine g_F (decide_eq_false e3) ?_
            wtm_at "cgs"
            rw [show tellB [.str z, a1] m = false by show (decide (V.str z = V.str "tell") && wholeV a1 0 (some (m - 1))) = _; rw [decide_eq_false e3]; rfl] at k
            exact k
        · refine g_blV ?_
          refine g_T (by rw [beq_false_of_ne e0]; rfl) ?_
          wtm_at "cgs"
          rw [show tellB [a0, a1] m = false by show (decide (a0 = V.str "tell") && wholeV a1 0 (some (m - 1))) = _; rw [decide_eq_false (nostr h0 e0)]; rfl] at k
          exact k
      · wtm_at "cgs"
        refine g_T (ne_len (by omega)) ?_
        wtm_at "cgs"
        rw [tellB_len hl] at k
        exact k
end
end K78
set_option Elab.async false
set_option linter.all false
set_option maxRecDepth 100000
set_option maxHeartbeats 400000
namespace K78
open PySem PySem.Spec PyProof.Rows L2
local macro_rules | `(tactic| wtm_at "cg") => `(tactic| first
  | with_reducible refine g_seq ?_
  | with_reducible refine g_ifS ?_
  | with_reducible refine g_test ?_
  | with_reducible refine g_tB ?_
  | with_reducible refine g_or ?_
  | with_reducible refine g_and ?_
  | with_reducible refine g_not ?_
  | (focus ((with_reducible apply g_var); (case' h => exact rfl); (case' k => skip)))
  | with_reducible refine g_c ?_
  | with_reducible refine g_cb ?_
  | with_reducible refine g_cons ?_
  | with_reducible refine g_nil ?_
  | with_reducible refine g_op ?_
  | with_reducible refine g_un ?_
  | with_reducible refine g_fld ?_
  | (focus ((with_reducible apply g_fldq); (case' h => wtm_at "chp"); (case' c => wtm_at "ccls"); (case' n => wtm_at "ccls"); (case' l => exact rfl); (case' k => skip)))
  | with_reducible refine g_ret ?_
  | with_reducible refine g_asg ?_
  | with_reducible refine g_next ?_
  | with_reducible refine g_drop ?_
  | with_reducible refine g_cal ?_
  | with_reducible refine g_met ?_
  | (focus ((with_reducible apply g_metq); (case' h => wtm_at "chp"); (case' l => exact rfl); (case' k => skip)))
  | with_reducible refine g_orV ?_
  | with_reducible refine g_andV ?_
  | with_reducible refine g_notV ?_
  | with_reducible refine g_blV ?_
  | with_reducible refine g_ifE ?_
  | with_reducible refine g_tup ?_
  | with_reducible refine g_lst ?_
  | with_reducible refine g_sfld ?_
  | with_reducible refine g_mk1 ?_
  | with_reducible refine g_I0 ?_
  | (focus ((with_reducible apply g_eq); (case' h => exact rfl); (case' k => skip)))
  | (focus ((with_reducible apply g_ne); (case' h => exact rfl); (case' k => skip)))
  | with_reducible refine And.intro (Eq.refl V.non) ?_
  | (focus ((with_reducible apply g_T); (case' h => first | exact rfl | exact decide_eq_true rfl); (case' k => skip)))
  | (focus ((with_reducible apply g_F); (case' h => first | exact rfl | exact ndec | (focus ((with_reducible apply decide_eq_false); (intro z); (cases z); done))); (case' k => skip)))
  | (focus ((with_reducible apply g_lenL); (case' h => wtm_at "csql"); (case' k => skip)))
  | (focus ((with_reducible apply g_lenT); (case' h => wtm_at "csqt"); (case' k => skip)))
  | (focus ((with_reducible apply g_ixT); (case' h => wtm_at "csqt"); (case' e => exact rfl); (case' k => skip)))
  | (focus ((with_reducible apply g_ixL); (case' h => wtm_at "csql"); (case' e => exact rfl); (case' k => skip))))
local macro_rules | `(tactic| wtm_at "cgs") => `(tactic| (repeat wtm_at "cg"))
/- H a = some o -/
local macro_rules | `(tactic| wtm_at "chp") => `(tactic| first
  | with_reducible assumption
  | exact upd_same
  | (focus ((with_reducible apply upd_new); (case' n => with_reducible assumption); (case' h => wtm_at "chp")))
  | (focus ((with_reducible apply upd_off); (case' n => first | wtm_at "cne0" | wtm_at "cne"); (case' h => wtm_at "chp")))
  | (focus ((with_reducible apply Fr.use0); (case' f => with_reducible assumption); (case' e => wtm_at "chp")))
  | (focus ((with_reducible apply Fr.use); (case' f => with_reducible assumption); (case' e => wtm_at "chp"); (case' n => wtm_at "cnin")))
  | assumption)
local macro_rules | `(tactic| wtm_at "cnin") => `(tactic| first
  | assumption
  | exact List.not_mem_nil
  | (focus ((with_reducible apply not_mem_c); (case' h => wtm_at "cne"); (case' t => wtm_at "cnin"))))
local macro_rules | `(tactic| wtm_at "cne0") => `(tactic| first
  | with_reducible assumption
  | (with_reducible apply Ne.symm; with_reducible assumption))
local macro_rules | `(tactic| wtm_at "cne") => `(tactic| first
  | wtm_at "cne0"
  | (focus ((with_reducible apply ne_of_none); (case' h' => with_reducible assumption); (case' h => wtm_at "chp")))
  | (focus ((with_reducible apply Ne.symm); (with_reducible apply ne_of_none); (case' h' => with_reducible assumption); (case' h => wtm_at "chp"))))
local macro_rules | `(tactic| wtm_at "csqt") => `(tactic| first | assumption | exact SqT.of (by wtm_at "chp"))
local macro_rules | `(tactic| wtm_at "csql") => `(tactic| first | assumption | exact SqL.of (by wtm_at "chp"))
local macro_rules | `(tactic| wtm_at "cst") => `(tactic| ((try dsimp only [L2.start, List.map, List.length_cons, List.length_nil, List.replicate, Nat.reduceAdd, Nat.reduceSub]); (try simp only [List.append_nil, List.nil_append, List.cons_append])))
local macro_rules | `(tactic| wtm_at "ccls") => `(tactic| first | assumption | (rename_i t; exact t.c_PlainHall))
local macro_rules | `(tactic| wtm_at "cg") => `(tactic| first
  | (focus ((with_reducible apply g_sfldq); (case' h => wtm_at "chp"); (case' c => assumption); (case' n => assumption); (case' l => exact of_decide_eq_true rfl); (case' k => skip)))
  | (focus ((with_reducible apply g_tofL); (case' h => wtm_at "csql"); (case' k => skip)))
  | (focus ((with_reducible apply g_tofT); (case' h => wtm_at "csqt"); (case' k => skip)))
  | with_reducible refine g_bm ?_
  | with_reducible refine g_mak ?_
  | with_reducible refine g_augS ?_
  | with_reducible refine g_ipI ?_
  | with_reducible refine g_asgS ?_
  | with_reducible refine g_gName ?_
  | with_reducible refine g_for ?_
  | with_reducible refine g_disp ?_
  | with_reducible refine g_pnil ?_
  | with_reducible refine g_pcons ?_
  | with_reducible refine g_lc ?_
  | with_reducible refine g_U ?_
  | with_reducible refine g_dnew ?_
  | with_reducible refine g_xfG ?_
  | with_reducible refine g_dget ?_
  | with_reducible refine g_sl ?_
  | with_reducible refine g_part ?_
  | with_reducible refine g_partq ?_
  | with_reducible refine g_nopart ?_
  | with_reducible refine Or.inr (Exists.intro _ (And.intro (Eq.refl [V.bl _]) ?_))
  | with_reducible refine g_rng1 ?_
  | with_reducible refine g_itL ?_)
local macro_rules | `(tactic| wtm_at "cfr") => `(tactic| first
  | assumption
  | exact Fr.refl
  | (focus ((with_reducible apply Fr.new); (case' h => assumption); (case' f => wtm_at "cfr")))
  | (focus ((with_reducible apply Fr.mut); (case' h => wtm_at "cmem"); (case' f => wtm_at "cfr")))
  | (focus ((with_reducible apply Fr.mutN); (case' h => wtm_at "chn"); (case' f => wtm_at "cfr"))))
local macro_rules | `(tactic| wtm_at "cmem") => `(tactic| first
  | exact List.mem_cons_self
  | (refine List.mem_cons_of_mem _ ?_; wtm_at "cmem"))
local macro_rules | `(tactic| wtm_at "chn") => `(tactic| first
  | assumption
  | (focus ((with_reducible apply Fr.free0); (case' h => assumption); (case' f => wtm_at "cfr"))))
/- allocations and the like, names left -/
local macro_rules | `(tactic| wtm_at "cga") => `(tactic| first
  | wtm_at "cg"
  | (with_reducible refine And.intro le100 ?_; intro _ _)
  | (with_reducible refine g_all ?_; intro _ _)
  | (focus ((with_reducible apply g_dispE); (case' e => wtm_at "chp"); (case' k => skip)))
  | (focus ((with_reducible apply g_xfGq); (case' t => assumption); (case' n => assumption); (case' h => wtm_at "chp"); (case' l => exact rfl); (case' k => skip)))
  | (focus ((with_reducible apply g_isX); (case' h => wtm_at "chp"); (case' t => assumption); (case' e => assumption); (case' k => skip)))
  | (focus ((with_reducible apply g_rep); (case' h => wtm_at "chp"); (case' h1 => decide); (case' h2 => decide); (case' q => (intro _ _))))
  | (focus ((with_reducible apply g_cat); (case' h => wtm_at "chp"); (case' h2 => wtm_at "chp"); (case' l => exact le100); (case' k => (intro _ _))))
  | (focus ((with_reducible apply g_dgetK); (case' h => wtm_at "chp"); (case' e => wtm_at "cvv"); (case' k => skip))))
local macro_rules | `(tactic| wtm_at "cgas") => `(tactic| (repeat wtm_at "cga"))
local macro_rules | `(tactic| wtm_at "cvv") => `(tactic| first
  | with_reducible exact valV_hd
  | (focus ((with_reducible apply valV_tl); (case' h => decide); (case' e => wtm_at "cvv"))))
/- up to the next statement -/
local macro_rules | `(tactic| wtm_at "cgus") => `(tactic| (repeat ((fail_if_success (with_reducible refine g_seq ?_)); wtm_at "cga")))

section
variable {P : Program} {w : World} {K : PySem.W.Frag} {mg : Str → Option Value} {base : Heap}
abbrev PC (K : PySem.W.Frag) : Addr := He.ga K "PlainHall"
structure HallAt (K : PySem.W.Frag) (H : Hp) (p r t : Addr) (vs : List V) (told : List Int) : Prop where
  ins : ∃ dx, H p = some (.ins (PC K) dx [("kept_row", .ref r), ("kept_told", .ref t)])
  row : H r = some (.lst vs)
  tol : H t = some (.lst (told.map .int))
  ne : r ≠ t
theorem HallAt.pr {H : Hp} {p r t : Addr} {vs : List V} {told : List Int} (h : HallAt K H p r t vs told) : p ≠ r := h.ins.elim fun dx e => ne_of e h.row (fun z => nomatch z)
theorem HallAt.pt {H : Hp} {p r t : Addr} {vs : List V} {told : List Int} (h : HallAt K H p r t vs told) : p ≠ t := h.ins.elim fun dx e => ne_of e h.tol (fun z => nomatch z)
def IdAt (H : Hp) (v : V) (d : Int × Int) : Prop := ∃ a, v = .ref a ∧ H a = some (.tup [.int d.1, .int d.2])
abbrev Ids (H : Hp) (vs : List V) (ids : List (Int × Int)) : Prop := Paired (IdAt H) vs ids
def idD (d : Int × Int) : PyData := .tuple [.int d.1, .int d.2]
theorem IdAt.dp {H : Hp} {v : V} {d : Int × Int} (h : IdAt H v d) : Dp K H v (idD d) := by
  obtain ⟨a, rfl, h⟩ := h
  exact .tup (SqT.of h) (.cons (.int _) (.cons (.int _) .nil))
theorem IdAt.kt {H H' : Hp} {v : V} {d : Int × Int} (h : IdAt H v d) (f : KpT H H') : IdAt H' v d := by
  obtain ⟨a, rfl, h⟩ := h
  exact ⟨a, rfl, f a _ h⟩
theorem Ids.kt {H H' : Hp} {vs : List V} {ids : List (Int × Int)} (h : Ids H vs ids) (f : KpT H H') : Ids H' vs ids := h.mono fun _ _ z => z.kt f
theorem Ids.dp {H : Hp} {vs : List V} {ids : List (Int × Int)} (h : Ids H vs ids) : DpAll K H vs (ids.map idD) := DpAll.of (fun _ _ z => z.dp) h
theorem shp_id {d : Int × Int} : Shp 1 (idD d) := .tup (.cons .int (.cons .int .nil))
theorem shp_ids {ids : List (Int × Int)} : ShpAll 1 (ids.map idD) := .map (fun _ => shp_id) ids
theorem eqv_id {a b : Int × Int} : PyData.eqv (idD a) (idD b) = decide (a = b) := by
  obtain ⟨a, b2⟩ := a
  obtain ⟨c, d⟩ := b
  simp only [idD, PyData.eqv, PyData.eqvAll]
  by_cases h : a = c <;> by_cases h2 : b2 = d <;> simp [h, h2]
theorem any_id {ids : List (Int × Int)} {d : Int × Int} : ((ids.map idD).any fun z => PyData.eqv z (idD d)) = decide (d ∈ ids) := by
  induction ids with
  | nil => simp
  | cons x l ih =>
    rw [List.map_cons, List.any_cons, ih, eqv_id]
    by_cases h : x = d
    · subst h; simp
    · by_cases h2 : d ∈ l
      · simp [h, h2]
      · simp [h, h2, Ne.symm h]
theorem whole_int {v : V} {lo : Int} {hi : Option Int} (h : wholeV v lo hi = true) : ∃ i, v = .int i ∧ lo ≤ i ∧ ∀ k, hi = some k → i ≤ k := by
  cases v with
  | int i =>
    unfold wholeV at h
    obtain ⟨h2, h3⟩ := He.ba h
    refine ⟨i, rfl, of_decide_eq_true h2, fun k e => ?_⟩
    subst e
    exact of_decide_eq_true h3
  | _ => cases h
def sp_init (K : PySem.W.Frag) : Sp := spOf (fun (a : Addr × V) => [.ref a.1, a.2]) fun a H Q E => (∃ dx, H a.1 = some (.ins (PC K) dx [])) ∧ (∃ T, Th K H a.2 T) ∧
  (wholeV a.2 2 (some 5) = false → Rai (He.ga K "NoNumber") "found" a.2 H E) ∧
  ∀ m : Nat, a.2 = .int m → wholeV a.2 2 (some 5) = true → ∀ r t H1, Fr [a.1] H H1 → H r = none → H t = none → r ≠ t → HallAt K H1 a.1 r t [] (List.replicate m 0) → Q .non H1
theorem ok_PlainHall_init (t : T K mg) : MakX P w K mg base 3 "PlainHall" (He.ga K "PlainHall") (sp_init K) [] := by
  obtain ⟨fd, F⟩ := t.D_PlainHall_init
  refine ⟨_, fd, ["self", "members"], [], F.ok sc_PlainHall_init (fun vs H Q E h => spOf_len h (fun _ => rfl)) (fun cdv A outer s H vs Q E hr h => ?body), t.k_PlainHall, t.g_PlainHall, F.bindsN (fun _ _ _ _ _ _ us hl => match us, hl with | [_, _], _ => rfl), .nil⟩
  case body =>
    obtain ⟨⟨p, x⟩, rfl, ⟨dx, hp⟩, ⟨T, hT⟩, kx, k⟩ := h
    dsimp only at hp hT kx k
    have hc_PlainHall := t.c_PlainHall; have hn_PlainHall_kept_row := t.n_PlainHall_kept_row; have hn_PlainHall_kept_told := t.n_PlainHall_kept_told
    refine ⟨_, (pss_cons (ps_if (pt_not (pt_val (pc_cal (ok_are_members t) hr (by decide) (takes_of rfl rfl rfl rfl) (by rfl) (pa_cons (pv 1) pa_nil)))) (pss_one (ps_raise rfl (takes_of rfl rfl rfl rfl) (pmk_rai (rai_NoNumber t) hr (by decide) (by rfl) (pa_cons (pv 1) pa_nil)))) pss_nil)
    (pss_cons (ps_fld (pv 0) (pe_lst pa_nil) rfl)
    (pss_one (ps_fld (pv 0) (pe_op op_rep (pe_lst (pa_cons pe_int pa_nil)) (pv 1)) rfl)))), ?_⟩
    wtm_at "cst"
    wtm_at "cgs"
    refine ⟨x, rfl, ⟨T, hT⟩, ?_⟩
    cases hw : wholeV x 2 (some 5) with
    | false =>
      wtm_at "cgs"
      exact (kx hw).of Fr.refl
    | true =>
      obtain ⟨i, rfl, h1, h2⟩ := whole_int hw
      have h3 := h2 5 rfl
      obtain ⟨m, rfl⟩ : ∃ m : Nat, i = m := ⟨i.toNat, by omega⟩
      wtm_at "cgs"
      refine ⟨le100, fun r er => ?_⟩
      wtm_at "cgs"
      refine ⟨le100, fun z ez => ?_⟩
      wtm_at "cgs"
      have n1 : r ≠ p := Ne.symm (ne_of_none hp er)
      have n2 : z ≠ p := by wtm_at "cne"
      have n3 : z ≠ r := by wtm_at "cne"
      refine g_rep upd_same (by omega) (by omega) fun tt et => ?_
      have n4 : tt ≠ z := by wtm_at "cne"
      have n5 : tt ≠ p := by wtm_at "cne"
      have n6 : tt ≠ r := by wtm_at "cne"
      have et0 : H tt = none := by rw [upd_ne n4, upd_ne n5, upd_ne n6] at et; exact et
      wtm_at "cgs"
      refine k m rfl hw r tt _ ?_ er et0 (Ne.symm n6) ⟨⟨dx, upd_same⟩, ?_, ?_, Ne.symm n6⟩
      · wtm_at "cfr"
      · rw [upd_ne n1]; wtm_at "chp"
      · rw [upd_ne n5]
        rw [upd_same, show List.map V.int (List.replicate m 0) = List.replicate m (V.int 0) from List.map_replicate]
        rfl
def sp_row (K : PySem.W.Frag) : Sp := spOf (fun (a : Addr × Addr × Addr × List V × List Int) => [.ref a.1]) fun a H Q E => HallAt K H a.1 a.2.1 a.2.2.1 a.2.2.2.1 a.2.2.2.2 ∧ ∀ q, H q = none → Q (.ref q) (upd H q (.lst a.2.2.2.1))
theorem ok_PlainHall_row (t : T K mg) : MetX P w K mg base 1 (He.ga K "PlainHall") "row" (sp_row K) [] := by
  obtain ⟨fd, F⟩ := t.D_PlainHall_row
  refine ⟨_, fd, ["self"], [], F.ok sc_PlainHall_row (fun vs H Q E h => spOf_len h (fun _ => rfl)) (fun cdv A outer s H vs Q E hr h => ?body), t.c_PlainHall, t.m_PlainHall_row, F.bindsN (fun _ _ _ _ _ _ us hl => match us, hl with | [_], _ => rfl), .nil⟩
  case body =>
    obtain ⟨⟨p, r, tt, vs, told⟩, rfl, ⟨⟨dx, hi⟩, h1, h2, h0⟩, k⟩ := h
    dsimp only at hi h1 h2 k
    have hc_PlainHall := t.c_PlainHall; have hn_PlainHall_kept_row := t.n_PlainHall_kept_row; have hn_PlainHall_kept_told := t.n_PlainHall_kept_told
    refine ⟨_, (pss_one (ps_ret (pe_callTy call_list_of (by rfl) t.f_list bt_list (pa_cons (pe_fld (pv 0) rfl) pa_nil)))), ?_⟩
    wtm_at "cst"
    wtm_at "cgs"
    intro q hq
    exact k q hq
def sp_len (K : PySem.W.Frag) : Sp := spOf (fun (a : Addr × Addr × Addr × List V × List Int) => [.ref a.1]) fun a H Q E => HallAt K H a.1 a.2.1 a.2.2.1 a.2.2.2.1 a.2.2.2.2 ∧ Q (.int a.2.2.2.1.length) H
theorem ok_PlainHall_len (t : T K mg) : SpeX P w K mg base 1 (He.ga K "PlainHall") "__len__" (sp_len K) := by
  obtain ⟨fd, F⟩ := t.D_PlainHall_len
  refine ⟨_, fd, ["self"], F.ok sc_PlainHall_len (fun vs H Q E h => spOf_len h (fun _ => rfl)) (fun cdv A outer s H vs Q E hr h => ?body), (t.m_PlainHall_len).at_, beq_iff_eq.mp (t.m_PlainHall_len).fn, F.bindsN (fun _ _ _ _ _ _ us hl => match us, hl with | [_], _ => rfl)⟩
  case body =>
    obtain ⟨⟨p, r, tt, vs, told⟩, rfl, ⟨⟨dx, hi⟩, h1, h2, h0⟩, k⟩ := h
    dsimp only at hi h1 h2 k
    have hc_PlainHall := t.c_PlainHall; have hn_PlainHall_kept_row := t.n_PlainHall_kept_row; have hn_PlainHall_kept_told := t.n_PlainHall_kept_told
    refine ⟨_, (pss_one (ps_ret (pe_callB call_len_seq (by rfl) t.f_len bt_len (pa_cons (pe_fld (pv 0) rfl) pa_nil)))), ?_⟩
    wtm_at "cst"
    wtm_at "cgs"
    exact k
def sp_told (K : PySem.W.Frag) : Sp := spOf (fun (a : Addr × Addr × Addr × List V × List Int × V) => [.ref a.1, a.2.2.2.2.2]) fun a H Q E => HallAt K H a.1 a.2.1 a.2.2.1 a.2.2.2.1 a.2.2.2.2.1 ∧ (∃ T, Th K H a.2.2.2.2.2 T) ∧
  (wholeV a.2.2.2.2.2 0 (some ((a.2.2.2.2.1.length : Int) - 1)) = false → Rai (He.ga K "NoMember") "found" a.2.2.2.2.2 H E) ∧
  ∀ (m : Nat) (z : Int), a.2.2.2.2.2 = .int m → a.2.2.2.2.1[m]? = some z → Q (.int z) H
theorem ok_PlainHall_told_by (t : T K mg) : MetX P w K mg base 3 (He.ga K "PlainHall") "told_by" (sp_told K) [] := by
  obtain ⟨fd, F⟩ := t.D_PlainHall_told_by
  refine ⟨_, fd, ["self", "member"], [], F.ok sc_PlainHall_told_by (fun vs H Q E h => spOf_len h (fun _ => rfl)) (fun cdv A outer s H vs Q E hr h => ?body), t.c_PlainHall, t.m_PlainHall_told_by, F.bindsN (fun _ _ _ _ _ _ us hl => match us, hl with | [_, _], _ => rfl), .nil⟩
  case body =>
    obtain ⟨⟨p, r, tt, vs, told, x⟩, rfl, ⟨⟨dx, hi⟩, h1, h2, h0⟩, hT, kx, k⟩ := h
    dsimp only at hi h1 h2 hT kx k
    have hc_PlainHall := t.c_PlainHall; have hn_PlainHall_kept_row := t.n_PlainHall_kept_row; have hn_PlainHall_kept_told := t.n_PlainHall_kept_told
    refine ⟨_, (pss_cons (ps_if (pt_not (pt_val (pc_cal (ok_is_whole t) hr (by decide) (takes_of rfl rfl rfl rfl) (by rfl) (pa_cons (pv 1) (pa_cons pe_int (pa_cons (pe_op op_sub (pe_callB call_len_seq (by rfl) t.f_len bt_len (pa_cons (pe_fld (pv 0) rfl) pa_nil)) pe_int) pa_nil)))))) (pss_one (ps_raise rfl (takes_of rfl rfl rfl rfl) (pmk_rai (rai_NoMember t) hr (by decide) (by rfl) (pa_cons (pv 1) pa_nil)))) pss_nil)
    (pss_one (ps_ret (pe_ix ix_list (pe_fld (pv 0) rfl) (pv 1) (fun _ _ => rfl))))), ?_⟩
    wtm_at "cst"
    wtm_at "cgs"
    refine ⟨⟨x, 0, some ((told.length : Int) - 1)⟩, by rw [List.length_map]; rfl, hT, ?_⟩
    dsimp only
    cases hw : wholeV x 0 (some ((told.length : Int) - 1)) with
    | false =>
      wtm_at "cgs"
      exact (kx hw).of Fr.refl
    | true =>
      obtain ⟨i, rfl, h3, h4⟩ := whole_int hw
      have h5 := h4 _ rfl
      obtain ⟨m, rfl⟩ : ∃ m : Nat, i = m := ⟨i.toNat, by omega⟩
      have h6 : m < told.length := by omega
      wtm_at "cgs"
      refine g_ixL (SqL.of h2) (atI_n (z := V.int told[m]) (by rw [List.getElem?_map, List.getElem?_eq_getElem h6]; rfl)) ?_
      exact k m _ rfl (List.getElem?_eq_getElem h6)
def stD (told : List Int) (ids : List (Int × Int)) : PyData := .tuple [.tuple (ids.map idD), .tuple (told.map .int)]
theorem shp_st {told : List Int} {ids : List (Int × Int)} : Shp 3 (stD told ids) := .tup (.cons (.tup shp_ids) (.cons (.tup (.map (fun _ => .int) told)) .nil))
def sp_state (K : PySem.W.Frag) : Sp := spOf (fun (a : Addr × Addr × Addr × List V × List Int × List (Int × Int)) => [.ref a.1]) fun a H Q E => HallAt K H a.1 a.2.1 a.2.2.1 a.2.2.2.1 a.2.2.2.2.1 ∧ Ids H a.2.2.2.1 a.2.2.2.2.2 ∧
  ∀ v H1, Fr [] H H1 → Dp K H1 v (stD a.2.2.2.2.1 a.2.2.2.2.2) → Q v H1
theorem ok_PlainHall_state (t : T K mg) : MetX P w K mg base 1 (He.ga K "PlainHall") "state" (sp_state K) [] := by
  obtain ⟨fd, F⟩ := t.D_PlainHall_state
  refine ⟨_, fd, ["self"], [], F.ok sc_PlainHall_state (fun vs H Q E h => spOf_len h (fun _ => rfl)) (fun cdv A outer s H vs Q E hr h => ?body), t.c_PlainHall, t.m_PlainHall_state, F.bindsN (fun _ _ _ _ _ _ us hl => match us, hl with | [_], _ => rfl), .nil⟩
  case body =>
    obtain ⟨⟨p, r, tt, vs, told, ids⟩, rfl, ⟨⟨dx, hi⟩, h1, h2, h0⟩, hid, k⟩ := h
    dsimp only at hi h1 h2 hid k
    have hc_PlainHall := t.c_PlainHall; have hn_PlainHall_kept_row := t.n_PlainHall_kept_row; have hn_PlainHall_kept_told := t.n_PlainHall_kept_told
    refine ⟨_, (pss_one (ps_ret (pe_tup (pa_cons (pe_callTy call_tuple_of (by rfl) t.f_tuple bt_tuple (pa_cons (pe_fld (pv 0) rfl) pa_nil)) (pa_cons (pe_callTy call_tuple_of (by rfl) t.f_tuple bt_tuple (pa_cons (pe_fld (pv 0) rfl) pa_nil)) pa_nil))))), ?_⟩
    wtm_at "cst"
    wtm_at "cgs"
    intro a ea
    wtm_at "cgs"
    intro b eb
    wtm_at "cgs"
    refine ⟨le100, fun q eq => ?_⟩
    have f1 : Fr [] H (upd (upd (upd H a (.tup vs)) b (.tup (told.map .int))) q (.tup [.ref a, .ref b])) := by wtm_at "cfr"
    refine k _ _ f1 (.tup (SqT.of upd_same) (.cons (.tup (xs := vs) (SqT.of ?_) ((hid.kt f1.kt0).dp)) (.cons (.tup (xs := told.map .int) (SqT.of ?_) (DpAll.ints _)) .nil)))
    · wtm_at "chp"
    · wtm_at "chp"
end
end K78
set_option Elab.async false
set_option linter.all false
set_option maxRecDepth 100000
set_option maxHeartbeats 400000
namespace K78
open PySem PySem.Spec PyProof.Rows L2
local macro_rules | `(tactic| wtm_at "cg") => `(tactic| first
  | with_reducible refine g_seq ?_
  | with_reducible refine g_ifS ?_
  | with_reducible refine g_test ?_
  | with_reducible refine g_tB ?_
  | with_reducible refine g_or ?_
  | with_reducible refine g_and ?_
  | with_reducible refine g_not ?_
  | (focus ((with_reducible apply g_var); (case' h => exact rfl); (case' k => skip)))
  | with_reducible refine g_c ?_
  | with_reducible refine g_cb ?_
  | with_reducible refine g_cons ?_
  | with_reducible refine g_nil ?_
  | with_reducible refine g_op ?_
  | with_reducible refine g_un ?_
  | with_reducible refine g_fld ?_
  | (focus ((with_reducible apply g_fldq); (case' h => wtm_at "chp"); (case' c => wtm_at "ccls"); (case' n => wtm_at "ccls"); (case' l => exact rfl); (case' k => skip)))
  | with_reducible refine g_ret ?_
  | with_reducible refine g_asg ?_
  | with_reducible refine g_next ?_
  | with_reducible refine g_drop ?_
  | with_reducible refine g_cal ?_
  | with_reducible refine g_met ?_
  | (focus ((with_reducible apply g_metq); (case' h => wtm_at "chp"); (case' l => exact rfl); (case' k => skip)))
  | with_reducible refine g_orV ?_
  | with_reducible refine g_andV ?_
  | with_reducible refine g_notV ?_
  | with_reducible refine g_blV ?_
  | with_reducible refine g_ifE ?_
  | with_reducible refine g_tup ?_
  | with_reducible refine g_lst ?_
  | with_reducible refine g_sfld ?_
  | with_reducible refine g_mk1 ?_
  | with_reducible refine g_I0 ?_
  | (focus ((with_reducible apply g_eq); (case' h => exact rfl); (case' k => skip)))
  | (focus ((with_reducible apply g_ne); (case' h => exact rfl); (case' k => skip)))
  | with_reducible refine And.intro (Eq.refl V.non) ?_
  | (focus ((with_reducible apply g_T); (case' h => first | exact rfl | exact decide_eq_true rfl); (case' k => skip)))
  | (focus ((with_reducible apply g_F); (case' h => first | exact rfl | exact ndec | (focus ((with_reducible apply decide_eq_false); (intro z); (cases z); done))); (case' k => skip)))
  | (focus ((with_reducible apply g_lenL); (case' h => wtm_at "csql"); (case' k => skip)))
  | (focus ((with_reducible apply g_lenT); (case' h => wtm_at "csqt"); (case' k => skip)))
  | (focus ((with_reducible apply g_ixT); (case' h => wtm_at "csqt"); (case' e => exact rfl); (case' k => skip)))
  | (focus ((with_reducible apply g_ixL); (case' h => wtm_at "csql"); (case' e => exact rfl); (case' k => skip))))
local macro_rules | `(tactic| wtm_at "cgs") => `(tactic| (repeat wtm_at "cg"))
/- H a = some o -/
local macro_rules | `(tactic| wtm_at "chp") => `(tactic| first
  | with_reducible assumption
  | exact upd_same
  | (focus ((with_reducible apply upd_new); (case' n => with_reducible assumption); (case' h => wtm_at "chp")))
  | (focus ((with_reducible apply upd_off); (case' n => first | wtm_at "cne0" | wtm_at "cne"); (case' h => wtm_at "chp")))
  | (focus ((with_reducible apply Fr.use0); (case' f => with_reducible assumption); (case' e => wtm_at "chp")))
  | (focus ((with_reducible apply Fr.use); (case' f => with_reducible assumption); (case' e => wtm_at "chp"); (case' n => wtm_at "cnin")))
  | assumption)
local macro_rules | `(tactic| wtm_at "cnin") => `(tactic| first
  | assumption
  | exact List.not_mem_nil
  | (focus ((with_reducible apply not_mem_c); (case' h => wtm_at "cne"); (case' t => wtm_at "cnin"))))
local macro_rules | `(tactic| wtm_at "cne0") => `(tactic| first
  | with_reducible assumption
  | (with_reducible apply Ne.symm; with_reducible assumption))
local macro_rules | `(tactic| wtm_at "cne") => `(tactic| first
  | wtm_at "cne0"
  | (focus ((with_reducible apply ne_of_none); (case' h' => with_reducible assumption); (case' h => wtm_at "chp")))
  | (focus ((with_reducible apply Ne.symm); (with_reducible apply ne_of_none); (case' h' => with_reducible assumption); (case' h => wtm_at "chp"))))
local macro_rules | `(tactic| wtm_at "csqt") => `(tactic| first | assumption | exact SqT.of (by wtm_at "chp"))
local macro_rules | `(tactic| wtm_at "csql") => `(tactic| first | assumption | exact SqL.of (by wtm_at "chp"))
local macro_rules | `(tactic| wtm_at "cst") => `(tactic| ((try dsimp only [L2.start, List.map, List.length_cons, List.length_nil, List.replicate, Nat.reduceAdd, Nat.reduceSub]); (try simp only [List.append_nil, List.nil_append, List.cons_append])))
local macro_rules | `(tactic| wtm_at "ccls") => `(tactic| first | assumption | (rename_i t; exact t.c_PlainHall))
local macro_rules | `(tactic| wtm_at "cg") => `(tactic| first
  | (focus ((with_reducible apply g_sfldq); (case' h => wtm_at "chp"); (case' c => assumption); (case' n => assumption); (case' l => exact of_decide_eq_true rfl); (case' k => skip)))
  | (focus ((with_reducible apply g_tofL); (case' h => wtm_at "csql"); (case' k => skip)))
  | (focus ((with_reducible apply g_tofT); (case' h => wtm_at "csqt"); (case' k => skip)))
  | with_reducible refine g_bm ?_
  | with_reducible refine g_mak ?_
  | with_reducible refine g_augS ?_
  | with_reducible refine g_ipI ?_
  | with_reducible refine g_asgS ?_
  | with_reducible refine g_gName ?_
  | with_reducible refine g_for ?_
  | with_reducible refine g_disp ?_
  | with_reducible refine g_pnil ?_
  | with_reducible refine g_pcons ?_
  | with_reducible refine g_lc ?_
  | with_reducible refine g_U ?_
  | with_reducible refine g_dnew ?_
  | with_reducible refine g_xfG ?_
  | with_reducible refine g_dget ?_
  | with_reducible refine g_sl ?_
  | with_reducible refine g_part ?_
  | with_reducible refine g_partq ?_
  | with_reducible refine g_nopart ?_
  | with_reducible refine Or.inr (Exists.intro _ (And.intro (Eq.refl [V.bl _]) ?_))
  | with_reducible refine g_rng1 ?_
  | with_reducible refine g_itL ?_)
local macro_rules | `(tactic| wtm_at "cfr") => `(tactic| first
  | assumption
  | exact Fr.refl
  | (focus ((with_reducible apply Fr.new); (case' h => assumption); (case' f => wtm_at "cfr")))
  | (focus ((with_reducible apply Fr.mut); (case' h => wtm_at "cmem"); (case' f => wtm_at "cfr")))
  | (focus ((with_reducible apply Fr.mutN); (case' h => wtm_at "chn"); (case' f => wtm_at "cfr"))))
local macro_rules | `(tactic| wtm_at "cmem") => `(tactic| first
  | exact List.mem_cons_self
  | (refine List.mem_cons_of_mem _ ?_; wtm_at "cmem"))
local macro_rules | `(tactic| wtm_at "chn") => `(tactic| first
  | assumption
  | (focus ((with_reducible apply Fr.free0); (case' h => assumption); (case' f => wtm_at "cfr"))))
/- allocations and the like, names left -/
local macro_rules | `(tactic| wtm_at "cga") => `(tactic| first
  | wtm_at "cg"
  | (with_reducible refine And.intro le100 ?_; intro _ _)
  | (with_reducible refine g_all ?_; intro _ _)
  | (focus ((with_reducible apply g_dispE); (case' e => wtm_at "chp"); (case' k => skip)))
  | (focus ((with_reducible apply g_xfGq); (case' t => assumption); (case' n => assumption); (case' h => wtm_at "chp"); (case' l => exact rfl); (case' k => skip)))
  | (focus ((with_reducible apply g_isX); (case' h => wtm_at "chp"); (case' t => assumption); (case' e => assumption); (case' k => skip)))
  | (focus ((with_reducible apply g_rep); (case' h => wtm_at "chp"); (case' h1 => decide); (case' h2 => decide); (case' q => (intro _ _))))
  | (focus ((with_reducible apply g_cat); (case' h => wtm_at "chp"); (case' h2 => wtm_at "chp"); (case' l => exact le100); (case' k => (intro _ _))))
  | (focus ((with_reducible apply g_dgetK); (case' h => wtm_at "chp"); (case' e => wtm_at "cvv"); (case' k => skip))))
local macro_rules | `(tactic| wtm_at "cgas") => `(tactic| (repeat wtm_at "cga"))
local macro_rules | `(tactic| wtm_at "cvv") => `(tactic| first
  | with_reducible exact valV_hd
  | (focus ((with_reducible apply valV_tl); (case' h => decide); (case' e => wtm_at "cvv"))))
/- up to the next statement -/
local macro_rules | `(tactic| wtm_at "cgus") => `(tactic| (repeat ((fail_if_success (with_reducible refine g_seq ?_)); wtm_at "cga")))

section
variable {P : Program} {w : World} {K : PySem.W.Frag} {mg : Str → Option Value} {base : Heap}
theorem HallAt.fr {H H1 : Hp} {p r t : Addr} {vs : List V} {told : List Int} (h : HallAt K H p r t vs told) (f : Fr [] H H1) : HallAt K H1 p r t vs told :=
  ⟨h.ins.elim fun dx e => ⟨dx, f.use0 e⟩, f.use0 h.row, f.use0 h.tol, h.ne⟩
def sp_eq (K : PySem.W.Frag) : Sp := spOf (fun (a : Addr × Addr × Addr × List V × List Int × List (Int × Int) × V) => [.ref a.1, a.2.2.2.2.2.2]) fun a H Q E => HallAt K H a.1 a.2.1 a.2.2.1 a.2.2.2.1 a.2.2.2.2.1 ∧ Ids H a.2.2.2.1 a.2.2.2.2.2.1 ∧
  ((∃ b xs, a.2.2.2.2.2.2 = .ref b ∧ H b = some (.tup xs) ∧ Q (.bl false) H) ∨
   ∃ q r2 t2 vs2 told2 ids2, a.2.2.2.2.2.2 = .ref q ∧ HallAt K H q r2 t2 vs2 told2 ∧ Ids H vs2 ids2 ∧ ∀ H1, Fr [] H H1 → Q (.bl (PyData.eqv (stD a.2.2.2.2.1 a.2.2.2.2.2.1) (stD told2 ids2))) H1)
theorem ok_PlainHall_eq (t : T K mg) : SpeX P w K mg base 2 (He.ga K "PlainHall") "__eq__" (sp_eq K) := by
  obtain ⟨fd, F⟩ := t.D_PlainHall_eq
  refine ⟨_, fd, ["self", "other"], F.ok sc_PlainHall_eq (fun vs H Q E h => spOf_len h (fun _ => rfl)) (fun cdv A outer s H vs Q E hr h => ?body), (t.m_PlainHall_eq).at_, beq_iff_eq.mp (t.m_PlainHall_eq).fn, F.bindsN (fun _ _ _ _ _ _ us hl => match us, hl with | [_, _], _ => rfl)⟩
  case body =>
    obtain ⟨⟨p, r, tt, vs, told, ids, y⟩, rfl, hh, hid, k⟩ := h
    dsimp only at hh hid k
    refine ⟨_, (pss_one (ps_ret (pe_and (pe_callB call_isi (by rfl) t.f_isinstance bt_isinstance (pa_cons (pv 1) (pa_cons (pe_glob (v := .ref (He.ga K "PlainHall")) (by rfl) t.g_PlainHall rfl) pa_nil))) (pe_one (pe_cmpR (op_eqD hr.u) (pc_met0 (ok_PlainHall_state t) hr (by decide) (takes_of rfl rfl rfl rfl) (pv 0)) (pc_met0 (ok_PlainHall_state t) hr (by decide) (takes_of rfl rfl rfl rfl) (pv 1)) (nomark _)))))), ?_⟩
    wtm_at "cst"
    wtm_at "cgs"
    rcases k with ⟨b, xs, rfl, hb, k⟩ | ⟨q, r2, t2, vs2, told2, ids2, rfl, hh2, hid2, k⟩
    · refine g_isi (.own _) (th_of_tup hb) t.kit_tP ?_
      wtm_at "cgs"
      exact k
    · obtain ⟨dx2, hi2⟩ := hh2.ins
      obtain ⟨dx1, hi1⟩ := hh.ins
      refine g_isi (.own _) (.base (t.isi_P.ty t.c_PlainHall hi2)) t.kit_PP ?_
      wtm_at "cgs"
      refine ⟨⟨p, r, tt, vs, told, ids⟩, rfl, hh, hid, fun v H1 f1 d1 => ?_⟩
      wtm_at "cgs"
      refine ⟨⟨q, r2, t2, vs2, told2, ids2⟩, rfl, hh2.fr f1, hid2.kt f1.kt0, fun v2 H2 f2 d2 => ?_⟩
      refine g_eqD (d1.fr f2) d2 shp_st shp_st (by decide) (by decide) ?_
      exact k _ (f1.trans f2)
def LackE (K : PySem.W.Frag) (s n : Int) (H : Hp) (E : XK) : Prop := ∀ l y d H1, Fr [] H H1 → H l = none → H1 l = some (.lst [y]) → IdAt H1 y (s, n - 1) → H1 d = some (.xd [("found", .ref l)]) → E (.ref (He.ga K "Lacks")) (some d) H1
theorem LackE.fr {s n : Int} {H H' : Hp} {E : XK} (h : LackE K s n H E) (f : Fr [] H H') : LackE K s n H' E := fun l y d H1 f1 e => h l y d H1 (f.trans f1) (f.free0 e)
def sp_add (K : PySem.W.Frag) : Sp := spOf (fun (a : Addr × Addr × Addr × List V × List Int × List (Int × Int) × V × Int × Int) => [.ref a.1, a.2.2.2.2.2.2.1]) fun a H Q E => match a with
  | ⟨p, r, t, vs, told, ids, x, s, n⟩ => HallAt K H p r t vs told ∧ Ids H vs ids ∧ IdAt H x (s, n) ∧ vs.length < 1000 ∧
    ((s, n) ∈ ids → Rai (He.ga K "Known") "found" x H E) ∧ ((s, n) ∉ ids → 1 < n → (s, n - 1) ∉ ids → LackE K s n H E) ∧
    ((s, n) ∉ ids → ¬ (1 < n ∧ (s, n - 1) ∉ ids) → ∀ H1, Fr [r] H H1 → H1 r = some (.lst (vs ++ [x])) → Q .non H1)
theorem ok_PlainHall_add_id (t : T K mg) : MetX P w K mg base 3 (He.ga K "PlainHall") "add_id" (sp_add K) [] := by
  obtain ⟨fd, F⟩ := t.D_PlainHall_add_id
  refine ⟨_, fd, ["self", "ident"], [], F.ok sc_PlainHall_add_id (fun vs H Q E h => spOf_len h (fun _ => rfl)) (fun cdv A outer s H vs Q E hr h => ?body), t.c_PlainHall, t.m_PlainHall_add_id, F.bindsN (fun _ _ _ _ _ _ us hl => match us, hl with | [_, _], _ => rfl), .nil⟩
  case body =>
    obtain ⟨⟨p, r, tt, vs, told, ids, x, s1, n⟩, rfl, ⟨⟨dx, hi⟩, h1, h2, h0⟩, hid, hx, hl, k1, k2, k3⟩ := h
    have hc_PlainHall := t.c_PlainHall; have hn_PlainHall_kept_row := t.n_PlainHall_kept_row; have hn_PlainHall_kept_told := t.n_PlainHall_kept_told
    refine ⟨_, (pss_cons (ps_if (pt_cmpR (op_inD hr.u) (pv 1) (pe_fld (pv 0) rfl) rfl) (pss_one (ps_raise rfl (takes_of rfl rfl rfl rfl) (pmk_rai (rai_Known t) hr (by decide) (by rfl) (pa_cons (pv 1) pa_nil)))) pss_nil)
    (pss_cons (ps_set (i := 2) sc_PlainHall_add_id.nd rfl (Or.inl rfl) (pe_tup (pa_cons (pe_ix ix_tup (pv 1) pe_int (fun _ _ => rfl)) (pa_cons (pe_op op_sub (pe_ix ix_tup (pv 1) pe_int (fun _ _ => rfl)) pe_int) pa_nil))))
    (pss_cons (ps_if (pw_and (pt_cmpR op_gt (pe_ix ix_tup (pv 1) pe_int (fun _ _ => rfl)) pe_int (nomark _)) (pw_and1 (pt_cmpR (op_notInD hr.u) (pv 2) (pe_fld (pv 0) rfl) rfl))).pt (pss_one (ps_raise rfl (takes_of rfl rfl rfl rfl) (pmk_rai (rai_Lacks t) hr (by decide) (by rfl) (pa_cons (pe_lst (pa_cons (pv 2) pa_nil)) pa_nil)))) pss_nil)
    (pss_one (ps_expr (pe_bm PySem.F.plainAttrs_list PySem.F.slot_list_append PySem.F.type_list_append mt_append (pe_fld (pv 0) rfl) (pa_cons (pv 1) pa_nil))))))), ?_⟩
    wtm_at "cst"
    wtm_at "cgs"
    refine g_inD hx.dp (.lst (SqL.of h1) hid.dp) shp_id (.lst shp_ids) (by decide) (by decide) ?_
    refine g_blV ?_
    rw [any_id]
    by_cases c1 : (s1, n) ∈ ids
    · refine g_T (decide_eq_true c1) ?_
      wtm_at "cgs"
      exact (k1 c1).of Fr.refl
    · refine g_F (decide_eq_false c1) ?_
      obtain ⟨xa, rfl, hxa⟩ := hx
      wtm_at "cgs"
      refine ⟨le100, fun b eb => ?_⟩
      wtm_at "cgs"
      by_cases c2 : 1 < n
      · refine g_T (decide_eq_true c2) ?_
        wtm_at "cgs"
        have hid2 : Ids (upd H b (.tup [.int s1, .int (n - 1)])) vs ids := hid.kt (KpT.refl.new eb)
        refine g_notInD (IdAt.dp (d := (s1, n - 1)) ⟨b, rfl, upd_same⟩) (.lst (SqL.of (by wtm_at "chp")) hid2.dp) shp_id (.lst shp_ids) (by decide) (by decide) ?_
        refine g_blV ?_
        rw [any_id]
        by_cases c3 : (s1, n - 1) ∈ ids
        · refine g_F (by rw [decide_eq_true c3]; rfl) ?_
          wtm_at "cgs"
          refine ⟨tyV_lst (by wtm_at "chp"), ?_⟩
          wtm_at "cgs"
          refine g_app (by wtm_at "chp") (lt1000 hl) ?_
          refine k3 c1 (fun z => z.2 c3) _ (by wtm_at "cfr") upd_same
        · refine g_T (by rw [decide_eq_false c3]; rfl) ?_
          wtm_at "cgs"
          refine ⟨le100, fun l el => ⟨_, rfl, fun d ed => ?_⟩⟩
          have n1 : H l = none := by wtm_at "chn"
          exact k2 c1 c2 c3 l _ d _ (by wtm_at "cfr") n1 (by wtm_at "chp") ⟨b, rfl, by wtm_at "chp"⟩ upd_same
      · refine g_F (decide_eq_false c2) ?_
        wtm_at "cgs"
        refine ⟨tyV_lst (by wtm_at "chp"), ?_⟩
        wtm_at "cgs"
        refine g_app (by wtm_at "chp") (lt1000 hl) ?_
        refine k3 c1 (fun z => c2 z.1) _ (by wtm_at "cfr") upd_same
def sp_tell (K : PySem.W.Frag) : Sp := spOf (fun (a : Addr × Addr × Addr × List V × List Int × Nat × Nat) => [.ref a.1, .int a.2.2.2.2.2.1]) fun a H Q E => match a with
  | ⟨p, r, t, vs, told, m, k⟩ => HallAt K H p r t vs told ∧ told[m]? = some (k : Int) ∧ k ≤ vs.length ∧ vs.length < 1000 ∧ (k = vs.length → Rai (He.ga K "AllTold") "found" (.int m) H E) ∧
    ∀ y, vs[k]? = some y → Q y (upd H t (.lst ((told.set m (k + 1)).map .int)))
theorem ok_PlainHall_tell_next (t : T K mg) : MetX P w K mg base 3 (He.ga K "PlainHall") "tell_next" (sp_tell K) [] := by
  obtain ⟨fd, F⟩ := t.D_PlainHall_tell_next
  refine ⟨_, fd, ["self", "member"], [], F.ok sc_PlainHall_tell_next (fun vs H Q E h => spOf_len h (fun _ => rfl)) (fun cdv A outer s H vs Q E hr h => ?body), t.c_PlainHall, t.m_PlainHall_tell_next, F.bindsN (fun _ _ _ _ _ _ us hl => match us, hl with | [_, _], _ => rfl), .nil⟩
  case body =>
    obtain ⟨⟨p, r, tt, vs, told, m, k0⟩, rfl, ⟨⟨dx, hi⟩, h1, h2, h0⟩, hm, hl, hl2, k1, k2⟩ := h
    have hc_PlainHall := t.c_PlainHall; have hn_PlainHall_kept_row := t.n_PlainHall_kept_row; have hn_PlainHall_kept_told := t.n_PlainHall_kept_told
    have hmt : (told.map V.int)[m]? = some (V.int k0) := by rw [List.getElem?_map, hm]; rfl
    refine ⟨_, (pss_cons (ps_set (i := 2) sc_PlainHall_tell_next.nd rfl (Or.inl rfl) (pe_ix ix_list (pe_fld (pv 0) rfl) (pv 1) (fun _ _ => rfl)))
    (pss_cons (ps_if (pt_cmpR op_eq (pv 2) (pe_callB call_len_seq (by rfl) t.f_len bt_len (pa_cons (pe_fld (pv 0) rfl) pa_nil)) (nomark _)) (pss_one (ps_raise rfl (takes_of rfl rfl rfl rfl) (pmk_rai (rai_AllTold t) hr (by decide) (by rfl) (pa_cons (pv 1) pa_nil)))) pss_nil)
    (pss_cons (ps_augS (pe_fld (pv 0) rfl) (pv 1) get_list pe_int ip_add set_list)
    (pss_one (ps_ret (pe_ix ix_list (pe_fld (pv 0) rfl) (pv 2) (fun _ _ => rfl))))))), ?_⟩
    wtm_at "cst"
    wtm_at "cgs"
    refine g_ixL (SqL.of h2) (atI_n hmt) ?_
    wtm_at "cgs"
    by_cases c : k0 = vs.length
    · refine g_T (decide_eq_true (by rw [c])) ?_
      wtm_at "cgs"
      exact (k1 c).of Fr.refl
    · refine g_F (decide_eq_false fun e => c (by have := V.int.inj e; omega)) ?_
      have hk : k0 < vs.length := by omega
      have hml : m < told.length := (List.getElem?_eq_some_iff.mp hm).1
      have n1 : p ≠ tt := ne_of hi h2 (fun z => nomatch z)
      wtm_at "cgs"
      refine g_getL (SqL.of h2) (atI_n hmt) ?_
      wtm_at "cgs"
      refine g_setL h2 (by rw [List.length_map]; exact hml) ?_
      wtm_at "cgs"
      refine g_ixL (SqL.of (by wtm_at "chp")) (atI_n (List.getElem?_eq_getElem hk)) ?_
      have z := k2 _ (List.getElem?_eq_getElem hk)
      rw [List.map_set] at z
      exact z
def sp_twin (K : PySem.W.Frag) : Sp := spOf (fun (a : Addr × Addr × Addr × List V × List Int) => [.ref a.1]) fun a H Q E => match a with
  | ⟨p, r, t, vs, told⟩ => HallAt K H p r t vs told ∧ 2 ≤ told.length ∧ told.length ≤ 5 ∧ ∀ q r' t' H1, Fr [] H H1 → H q = none → H r' = none → H t' = none → r' ≠ t' → HallAt K H1 q r' t' vs told → Q (.ref q) H1
theorem ok_PlainHall_twin (t : T K mg) : MetX P w K mg base 5 (He.ga K "PlainHall") "twin" (sp_twin K) [] := by
  obtain ⟨fd, F⟩ := t.D_PlainHall_twin
  refine ⟨_, fd, ["self"], [], F.ok sc_PlainHall_twin (fun vs H Q E h => spOf_len h (fun _ => rfl)) (fun cdv A outer s H vs Q E hr h => ?body), t.c_PlainHall, t.m_PlainHall_twin, F.bindsN (fun _ _ _ _ _ _ us hl => match us, hl with | [_], _ => rfl), .nil⟩
  case body =>
    obtain ⟨⟨p, r, tt, vs, told⟩, rfl, ⟨⟨dx, hi⟩, h1, h2, h0⟩, hl, hl2, k⟩ := h
    have hc_PlainHall := t.c_PlainHall; have hn_PlainHall_kept_row := t.n_PlainHall_kept_row; have hn_PlainHall_kept_told := t.n_PlainHall_kept_told
    refine ⟨_, (pss_cons (ps_set (i := 1) sc_PlainHall_twin.nd rfl (Or.inl rfl) (pc_mak (ok_PlainHall_init t) hr (by decide) (takes_of rfl rfl rfl rfl) (by rfl) (pa_cons (pe_callB call_len_seq (by rfl) t.f_len bt_len (pa_cons (pe_fld (pv 0) rfl) pa_nil)) pa_nil)))
    (pss_cons (ps_fld (pv 1) (pe_callTy call_list_of (by rfl) t.f_list bt_list (pa_cons (pe_fld (pv 0) rfl) pa_nil)) rfl)
    (pss_cons (ps_fld (pv 1) (pe_callTy call_list_of (by rfl) t.f_list bt_list (pa_cons (pe_fld (pv 0) rfl) pa_nil)) rfl)
    (pss_one (ps_ret (pv 1)))))), ?_⟩
    wtm_at "cst"
    wtm_at "cgs"
    intro x d hx hd hne
    have hw : wholeV (.int told.length) 2 (some 5) = true := by show (decide _ && decide _) = true; rw [decide_eq_true (by omega), decide_eq_true (by omega)]; rfl
    refine ⟨⟨x, .int told.length⟩, by rw [List.length_map]; rfl, ⟨d, upd_same⟩, ⟨"int", th_int⟩, fun z => ?_, fun m em _ r1 t1 H1 f1 er et n1 hh => ⟨rfl, ?_⟩⟩
    · dsimp only at z
      rw [hw] at z
      cases z
    have f2 : Fr [] H H1 := (((made_fr hx hd hne).mono fun b hb => absurd hb (by simp)).trans f1).cut fun b hb _ => by
      rw [List.mem_singleton.mp hb]
      exact hx
    obtain ⟨⟨d2, h3⟩, h4, h5, _⟩ := hh
    dsimp only at h3 h4 h5
    have e1 := f2.use0 hi
    have e2 := f2.use0 h1
    have e3 := f2.use0 h2
    have m1 : p ≠ x := ne_of_none hi hx
    wtm_at "cgs"
    intro l1 el1
    have m2 : l1 ≠ x := Ne.symm (ne_of_none h3 el1)
    have m3 : r ≠ x := ne_of_none h1 hx
    have m4 : tt ≠ x := ne_of_none h2 hx
    wtm_at "cgs"
    intro l2 el2
    have m5 : l2 ≠ x := Ne.symm (ne_of_none upd_same el2)
    wtm_at "cgs"
    have w1 : H l1 = none := f2.free0 el1
    have w2 : H1 l2 = none := by
      rw [upd_ne m5, upd_ne (show l2 ≠ l1 from fun e => ?_)] at el2
      · exact el2
      · rw [e, upd_same] at el2
        cases el2
    have w3 : l1 ≠ l2 := fun e => by
      rw [← e, upd_ne m2, upd_same] at el2
      cases el2
    refine k x l1 l2 _ ?_ hx w1 (f2.free0 w2) w3 ⟨⟨d2, upd_same⟩, by wtm_at "chp", by wtm_at "chp", w3⟩
    exact ((((f2.new el1).mutN hx).new el2).mutN hx)
end
end K78
set_option Elab.async false
set_option linter.all false
set_option maxRecDepth 100000
set_option maxHeartbeats 400000
namespace K78
open PySem PySem.Spec PyProof.Rows L2
local macro_rules | `(tactic| wtm_at "cg") => `(tactic| first
  | with_reducible refine g_seq ?_
  | with_reducible refine g_ifS ?_
  | with_reducible refine g_test ?_
  | with_reducible refine g_tB ?_
  | with_reducible refine g_or ?_
  | with_reducible refine g_and ?_
  | with_reducible refine g_not ?_
  | (focus ((with_reducible apply g_var); (case' h => exact rfl); (case' k => skip)))
  | with_reducible refine g_c ?_
  | with_reducible refine g_cb ?_
  | with_reducible refine g_cons ?_
  | with_reducible refine g_nil ?_
  | with_reducible refine g_op ?_
  | with_reducible refine g_un ?_
  | with_reducible refine g_fld ?_
  | (focus ((with_reducible apply g_fldq); (case' h => wtm_at "chp"); (case' c => wtm_at "ccls"); (case' n => wtm_at "ccls"); (case' l => exact rfl); (case' k => skip)))
  | with_reducible refine g_ret ?_
  | with_reducible refine g_asg ?_
  | with_reducible refine g_next ?_
  | with_reducible refine g_drop ?_
  | with_reducible refine g_cal ?_
  | with_reducible refine g_met ?_
  | (focus ((with_reducible apply g_metq); (case' h => wtm_at "chp"); (case' l => exact rfl); (case' k => skip)))
  | with_reducible refine g_orV ?_
  | with_reducible refine g_andV ?_
  | with_reducible refine g_notV ?_
  | with_reducible refine g_blV ?_
  | with_reducible refine g_ifE ?_
  | with_reducible refine g_tup ?_
  | with_reducible refine g_lst ?_
  | with_reducible refine g_sfld ?_
  | with_reducible refine g_mk1 ?_
  | with_reducible refine g_I0 ?_
  | (focus ((with_reducible apply g_eq); (case' h => exact rfl); (case' k => skip)))
  | (focus ((with_reducible apply g_ne); (case' h => exact rfl); (case' k => skip)))
  | with_reducible refine And.intro (Eq.refl V.non) ?_
  | (focus ((with_reducible apply g_T); (case' h => first | exact rfl | exact decide_eq_true rfl); (case' k => skip)))
  | (focus ((with_reducible apply g_F); (case' h => first | exact rfl | exact ndec | (focus ((with_reducible apply decide_eq_false); (intro z); (cases z); done))); (case' k => skip)))
  | (focus ((with_reducible apply g_lenL); (case' h => wtm_at "csql"); (case' k => skip)))
  | (focus ((with_reducible apply g_lenT); (case' h => wtm_at "csqt"); (case' k => skip)))
  | (focus ((with_reducible apply g_ixT); (case' h => wtm_at "csqt"); (case' e => exact rfl); (case' k => skip)))
  | (focus ((with_reducible apply g_ixL); (case' h => wtm_at "csql"); (case' e => exact rfl); (case' k => skip))))
local macro_rules | `(tactic| wtm_at "cgs") => `(tactic| (repeat wtm_at "cg"))
/- H a = some o -/
local macro_rules | `(tactic| wtm_at "chp") => `(tactic| first
  | with_reducible assumption
  | exact upd_same
  | (focus ((with_reducible apply upd_new); (case' n => with_reducible assumption); (case' h => wtm_at "chp")))
  | (focus ((with_reducible apply upd_off); (case' n => first | wtm_at "cne0" | wtm_at "cne"); (case' h => wtm_at "chp")))
  | (focus ((with_reducible apply Fr.use0); (case' f => with_reducible assumption); (case' e => wtm_at "chp")))
  | (focus ((with_reducible apply Fr.use); (case' f => with_reducible assumption); (case' e => wtm_at "chp"); (case' n => wtm_at "cnin")))
  | assumption)
local macro_rules | `(tactic| wtm_at "cnin") => `(tactic| first
  | assumption
  | exact List.not_mem_nil
  | (focus ((with_reducible apply not_mem_c); (case' h => wtm_at "cne"); (case' t => wtm_at "cnin"))))
local macro_rules | `(tactic| wtm_at "cne0") => `(tactic| first
  | with_reducible assumption
  | (with_reducible apply Ne.symm; with_reducible assumption))
local macro_rules | `(tactic| wtm_at "cne") => `(tactic| first
  | wtm_at "cne0"
  | (focus ((with_reducible apply ne_of_none); (case' h' => with_reducible assumption); (case' h => wtm_at "chp")))
  | (focus ((with_reducible apply Ne.symm); (with_reducible apply ne_of_none); (case' h' => with_reducible assumption); (case' h => wtm_at "chp"))))
local macro_rules | `(tactic| wtm_at "csqt") => `(tactic| first | assumption | exact SqT.of (by wtm_at "chp"))
local macro_rules | `(tactic| wtm_at "csql") => `(tactic| first | assumption | exact SqL.of (by wtm_at "chp"))
local macro_rules | `(tactic| wtm_at "cst") => `(tactic| ((try dsimp only [L2.start, List.map, List.length_cons, List.length_nil, List.replicate, Nat.reduceAdd, Nat.reduceSub]); (try simp only [List.append_nil, List.nil_append, List.cons_append])))
local macro_rules | `(tactic| wtm_at "ccls") => `(tactic| first | assumption | (rename_i t; exact t.c_PlainHall))
local macro_rules | `(tactic| wtm_at "cg") => `(tactic| first
  | (focus ((with_reducible apply g_sfldq); (case' h => wtm_at "chp"); (case' c => assumption); (case' n => assumption); (case' l => exact of_decide_eq_true rfl); (case' k => skip)))
  | (focus ((with_reducible apply g_tofL); (case' h => wtm_at "csql"); (case' k => skip)))
  | (focus ((with_reducible apply g_tofT); (case' h => wtm_at "csqt"); (case' k => skip)))
  | with_reducible refine g_bm ?_
  | with_reducible refine g_mak ?_
  | with_reducible refine g_augS ?_
  | with_reducible refine g_ipI ?_
  | with_reducible refine g_asgS ?_
  | with_reducible refine g_gName ?_
  | with_reducible refine g_for ?_
  | with_reducible refine g_disp ?_
  | with_reducible refine g_pnil ?_
  | with_reducible refine g_pcons ?_
  | with_reducible refine g_lc ?_
  | with_reducible refine g_U ?_
  | with_reducible refine g_dnew ?_
  | with_reducible refine g_xfG ?_
  | with_reducible refine g_dget ?_
  | with_reducible refine g_sl ?_
  | with_reducible refine g_part ?_
  | with_reducible refine g_partq ?_
  | with_reducible refine g_nopart ?_
  | with_reducible refine Or.inr (Exists.intro _ (And.intro (Eq.refl [V.bl _]) ?_))
  | with_reducible refine g_rng1 ?_
  | with_reducible refine g_itL ?_)
local macro_rules | `(tactic| wtm_at "cfr") => `(tactic| first
  | assumption
  | exact Fr.refl
  | (focus ((with_reducible apply Fr.new); (case' h => assumption); (case' f => wtm_at "cfr")))
  | (focus ((with_reducible apply Fr.mut); (case' h => wtm_at "cmem"); (case' f => wtm_at "cfr")))
  | (focus ((with_reducible apply Fr.mutN); (case' h => wtm_at "chn"); (case' f => wtm_at "cfr"))))
local macro_rules | `(tactic| wtm_at "cmem") => `(tactic| first
  | exact List.mem_cons_self
  | (refine List.mem_cons_of_mem _ ?_; wtm_at "cmem"))
local macro_rules | `(tactic| wtm_at "chn") => `(tactic| first
  | assumption
  | (focus ((with_reducible apply Fr.free0); (case' h => assumption); (case' f => wtm_at "cfr"))))
/- allocations and the like, names left -/
local macro_rules | `(tactic| wtm_at "cga") => `(tactic| first
  | wtm_at "cg"
  | (with_reducible refine And.intro le100 ?_; intro _ _)
  | (with_reducible refine g_all ?_; intro _ _)
  | (focus ((with_reducible apply g_dispE); (case' e => wtm_at "chp"); (case' k => skip)))
  | (focus ((with_reducible apply g_xfGq); (case' t => assumption); (case' n => assumption); (case' h => wtm_at "chp"); (case' l => exact rfl); (case' k => skip)))
  | (focus ((with_reducible apply g_isX); (case' h => wtm_at "chp"); (case' t => assumption); (case' e => assumption); (case' k => skip)))
  | (focus ((with_reducible apply g_rep); (case' h => wtm_at "chp"); (case' h1 => decide); (case' h2 => decide); (case' q => (intro _ _))))
  | (focus ((with_reducible apply g_cat); (case' h => wtm_at "chp"); (case' h2 => wtm_at "chp"); (case' l => exact le100); (case' k => (intro _ _))))
  | (focus ((with_reducible apply g_dgetK); (case' h => wtm_at "chp"); (case' e => wtm_at "cvv"); (case' k => skip))))
local macro_rules | `(tactic| wtm_at "cgas") => `(tactic| (repeat wtm_at "cga"))
local macro_rules | `(tactic| wtm_at "cvv") => `(tactic| first
  | with_reducible exact valV_hd
  | (focus ((with_reducible apply valV_tl); (case' h => decide); (case' e => wtm_at "cvv"))))
/- up to the next statement -/
local macro_rules | `(tactic| wtm_at "cgus") => `(tactic| (repeat ((fail_if_success (with_reducible refine g_seq ?_)); wtm_at "cga")))

section
variable {P : Program} {w : World} {K : PySem.W.Frag} {mg : Str → Option Value} {base : Heap}
inductive DD
  | add (s n : Int)
  | tell (m : Nat)
def DeedAt (H : Hp) (x : V) : DD → Nat → Prop
  | .add s n, k => (∃ a, x = .ref a ∧ H a = some (.tup [.str "add", .int s, .int n])) ∧ 0 ≤ s ∧ s < k ∧ 1 ≤ n
  | .tell m, k => (∃ a, x = .ref a ∧ H a = some (.tup [.str "tell", .int m])) ∧ m < k
structure S where
  ids : List (Int × Int)
  told : List Nat
def S.tI (s : S) : List Int := s.told.map fun k : Nat => (k : Int)
def lackB (s : S) (i n : Int) : Prop := 1 < n ∧ (i, n - 1) ∉ s.ids
instance {s : S} {i n : Int} : Decidable (lackB s i n) := inferInstanceAs (Decidable (_ ∧ _))
def words (s : S) : DD → List Str
  | .add i n => if (i, n) ∈ s.ids then ["known", "family"] else if lackB s i n then ["lacks", "family"] else ["told"]
  | .tell m => if s.told[m]? = some s.ids.length then ["all told", "family"] else ["told"]
def found (s : S) : DD → PyData
  | .add i n => if (i, n) ∈ s.ids then idD (i, n) else if lackB s i n then .list [idD (i, n - 1)] else .none
  | .tell m => match s.told[m]? with
    | none => .none
    | some k => match s.ids[k]? with
      | none => .int m
      | some d => idD d
def next (s : S) : DD → S
  | .add i n => if (i, n) ∈ s.ids then s else if lackB s i n then s else ⟨s.ids ++ [(i, n)], s.told⟩
  | .tell m => match s.told[m]? with
    | none => s
    | some k => if k = s.ids.length then s else ⟨s.ids, s.told.set m (k + 1)⟩
/-- all that was told stands -/
def SOk (s : S) : Prop := s.ids.length < 1000 ∧ (∀ k ∈ s.told, k ≤ s.ids.length) ∧ 2 ≤ s.told.length ∧ s.told.length ≤ 5
def BadDeed (K : PySem.W.Frag) (H : Hp) (x : V) (m : Nat) : Prop := Deed K H x (fun xs => addB xs m) false ∧ Deed K H x (fun xs => tellB xs m) false
def sp_do (K : PySem.W.Frag) : Sp := spOf (fun (a : Addr × Addr × Addr × List V × S × V) => [.ref a.1, a.2.2.2.2.2]) fun a H Q E => match a with
  | ⟨p, r, t, vs, s, x⟩ => HallAt K H p r t vs s.tI ∧ Ids H vs s.ids ∧ SOk s ∧ ((BadDeed K H x s.told.length ∧ Rai (He.ga K "NoDeed") "found" x H E) ∨ ∃ d, DeedAt H x d s.told.length ∧ match d with
    | .add i n => ((i, n) ∈ s.ids → ∀ y d H1, Fr [] H H1 → IdAt H1 y (i, n) → H1 d = some (.xd [("found", y)]) → E (.ref (He.ga K "Known")) (some d) H1) ∧ ((i, n) ∉ s.ids → lackB s i n → LackE K i n H E) ∧
      ((i, n) ∉ s.ids → ¬ lackB s i n → ∀ y H1, Fr [r] H H1 → IdAt H1 y (i, n) → H1 r = some (.lst (vs ++ [y])) → Q .non H1)
    | .tell m => ∃ k, s.told[m]? = some k ∧ (k = s.ids.length → Rai (He.ga K "AllTold") "found" (.int m) H E) ∧ ∀ y d, vs[k]? = some y → s.ids[k]? = some d → IdAt H y d → Q y (upd H t (.lst ((s.tI.set m ((k : Int) + 1)).map .int))))
theorem Paired.get {α β : Type} {F : α → β → Prop} : ∀ {xs : List α} {ys : List β} {i : Nat} {x : α}, Paired F xs ys → xs[i]? = some x → ∃ y, ys[i]? = some y ∧ F x y
  | _, _, _, _, .nil, e => by simp at e
  | _, _, 0, _, .cons r _, e => by simp at e; subst e; exact ⟨_, rfl, r⟩
  | _, _, i + 1, x, .cons _ t, e => by
    obtain ⟨u, h1, h2⟩ := Paired.get (i := i) (x := x) t (by simpa using e)
    exact ⟨u, by simpa using h1, h2⟩
theorem whole_ok {i lo h : Int} (h1 : lo ≤ i) (h2 : i ≤ h) : wholeV (.int i) lo (some h) = true := by
  show (decide (lo ≤ i) && decide (i ≤ h)) = true
  rw [decide_eq_true h1, decide_eq_true h2]
  rfl
theorem thall2 {H : Hp} {a b : V} (h1 : ∃ T, Th K H a T) (h2 : ∃ T, Th K H b T) : ThAll K H [a, b] := fun x hx => by
  rcases List.mem_cons.mp hx with rfl | hx
  · exact h1
  · rw [List.mem_singleton.mp hx]; exact h2
theorem thall3 {H : Hp} {a b c : V} (h1 : ∃ T, Th K H a T) (h2 : ∃ T, Th K H b T) (h3 : ∃ T, Th K H c T) : ThAll K H [a, b, c] := fun x hx => by
  rcases List.mem_cons.mp hx with rfl | hx
  · exact h1
  · exact thall2 h2 h3 x hx
theorem ok_PlainHall_do (t : T K mg) : MetX P w K mg base 5 (He.ga K "PlainHall") "do" (sp_do K) [] := by
  obtain ⟨fd, F⟩ := t.D_PlainHall_do
  refine ⟨_, fd, ["self", "deed"], [], F.ok sc_PlainHall_do (fun vs H Q E h => spOf_len h (fun _ => rfl)) (fun cdv A outer s H vs Q E hr h => ?body), t.c_PlainHall, t.m_PlainHall_do, F.bindsN (fun _ _ _ _ _ _ us hl => match us, hl with | [_, _], _ => rfl), .nil⟩
  case body =>
    obtain ⟨⟨p, r, tt, vs, s1, x⟩, rfl, hh, hid, hI, h⟩ := h
    have hh0 := hh
    obtain ⟨⟨dx, hi⟩, h1, h2, h0⟩ := hh0
    have htl : s1.tI.length = s1.told.length := List.length_map _
    have hvl : vs.length = s1.ids.length := Paired.length hid
    have hI1 := hI.1
    have hc_PlainHall := t.c_PlainHall; have hn_PlainHall_kept_row := t.n_PlainHall_kept_row; have hn_PlainHall_kept_told := t.n_PlainHall_kept_told
    refine ⟨_, (pss_cons (ps_set (i := 2) sc_PlainHall_do.nd rfl (Or.inl rfl) (pe_callB call_len_seq (by rfl) t.f_len bt_len (pa_cons (pe_fld (pv 0) rfl) pa_nil)))
    (pss_cons (ps_if (pt_val (pc_cal (ok_is_add t) hr (by decide) (takes_of rfl rfl rfl rfl) (by rfl) (pa_cons (pv 1) (pa_cons (pv 2) pa_nil)))) (pss_cons (ps_expr (pc_met (ok_PlainHall_add_id t) hr (by decide) (takes_of rfl rfl rfl rfl) (pv 0) (pa_cons (pe_tup (pa_cons (pe_ix ix_tup (pv 1) pe_int (fun _ _ => rfl)) (pa_cons (pe_ix ix_tup (pv 1) pe_int (fun _ _ => rfl)) pa_nil))) pa_nil)))
    (pss_one (ps_ret pe_non))) pss_nil)
    (pss_cons (ps_if (pt_val (pc_cal (ok_is_tell t) hr (by decide) (takes_of rfl rfl rfl rfl) (by rfl) (pa_cons (pv 1) (pa_cons (pv 2) pa_nil)))) (pss_one (ps_ret (pc_met (ok_PlainHall_tell_next t) hr (by decide) (takes_of rfl rfl rfl rfl) (pv 0) (pa_cons (pe_ix ix_tup (pv 1) pe_int (fun _ _ => rfl)) pa_nil)))) pss_nil)
    (pss_one (ps_raise rfl (takes_of rfl rfl rfl rfl) (pmk_rai (rai_NoDeed t) hr (by decide) (by rfl) (pa_cons (pv 1) pa_nil))))))), ?_⟩
    wtm_at "cst"
    wtm_at "cgs"
    rcases h with ⟨⟨b1, b2⟩, k⟩ | ⟨d, hd, k⟩
    · refine ⟨⟨x, s1.told.length⟩, by rw [List.length_map, htl]; rfl, false, b1, ?_⟩
      wtm_at "cgs"
      refine ⟨⟨x, s1.told.length⟩, by rw [List.length_map, htl]; rfl, false, b2, ?_⟩
      wtm_at "cgs"
      exact k.of Fr.refl
    · cases d with
      | add i n =>
        obtain ⟨⟨xa, rfl, hx⟩, g1, g2, g3⟩ := hd
        refine ⟨⟨.ref xa, s1.told.length⟩, by rw [List.length_map, htl]; rfl, true, ?_, ?_⟩
        · have z : Deed K H (.ref xa) (fun xs => addB xs s1.told.length) _ := .tup rfl hx (thall3 ⟨_, th_str⟩ ⟨_, th_int⟩ ⟨_, th_int⟩)
          have e : addB [.str "add", .int i, .int n] s1.told.length = true := by
            show (decide (V.str "add" = V.str "add") && ((decide _ && decide _) && (decide _ && true))) = true
            rw [decide_eq_true rfl, decide_eq_true g1, decide_eq_true (by omega), decide_eq_true g3]
            rfl
          rw [e] at z
          exact z
        · wtm_at "cgs"
          refine ⟨le100, fun b eb => ?_⟩
          have f1 : Fr [] H (upd H b (.tup [.int i, .int n])) := Fr.refl.new eb
          have ib : IdAt (upd H b (.tup [.int i, .int n])) (.ref b) (i, n) := ⟨b, rfl, upd_same⟩
          refine ⟨⟨p, r, tt, vs, s1.tI, s1.ids, .ref b, i, n⟩, rfl, hh.fr f1, hid.kt f1.kt0, ib, by omega, fun c1 d H1 f2 e2 => ?_, fun c1 c2 c3 => ?_, fun c1 c2 H1 f2 e2 => ?_⟩
          · exact k.1 c1 _ d H1 (f1.trans f2) (ib.kt f2.kt0) e2
          · exact (k.2.1 c1 ⟨c2, c3⟩).fr f1
          · have hb : b ≠ r := Ne.symm (ne_of_none h1 eb)
            have z := k.2.2 c1 c2 (.ref b) H1 ((f1.mono (fun b hb => absurd hb (by simp))).trans f2) ⟨b, rfl, f2.use upd_same (by simp [hb])⟩ e2
            wtm_at "cgs"
            exact z
      | tell m =>
        obtain ⟨⟨xa, rfl, hx⟩, g1⟩ := hd
        obtain ⟨k0, ek, k1, k2⟩ := k
        refine ⟨⟨.ref xa, s1.told.length⟩, by rw [List.length_map, htl]; rfl, false, ?_, ?_⟩
        · have z : Deed K H (.ref xa) (fun xs => addB xs s1.told.length) _ := .tup rfl hx (thall2 ⟨_, th_str⟩ ⟨_, th_int⟩)
          exact z
        · wtm_at "cgs"
          refine ⟨⟨.ref xa, s1.told.length⟩, by rw [List.length_map, htl]; rfl, true, ?_, ?_⟩
          · have z : Deed K H (.ref xa) (fun xs => tellB xs s1.told.length) _ := .tup rfl hx (thall2 ⟨_, th_str⟩ ⟨_, th_int⟩)
            have e : tellB [.str "tell", .int m] s1.told.length = true := by
              show (decide (V.str "tell" = V.str "tell") && wholeV (.int m) 0 (some ((s1.told.length : Int) - 1))) = true
              rw [decide_eq_true rfl, whole_ok (by omega) (by omega)]
              rfl
            rw [e] at z
            exact z
          · wtm_at "cgs"
            have hk := hI.2.1 k0 (List.mem_of_getElem? ek)
            refine ⟨⟨p, r, tt, vs, s1.tI, m, k0⟩, rfl, hh, by show (s1.told.map fun k : Nat => (k : Int))[m]? = _; rw [List.getElem?_map, ek]; rfl, by omega, by omega, fun c => k1 (by omega), fun y ey => ?_⟩
            obtain ⟨d, hd1, hd2⟩ := Paired.get hid ey
            exact k2 y d ey hd1 hd2
def sp_cell (K : PySem.W.Frag) : Sp := spOf (fun (a : Addr × List Int × Nat) => [.ref a.1, .int a.2.2]) fun a H Q E => SqL K H a.1 (a.2.1.map .int) ∧ Q (.int (a.2.1.getD a.2.2 0)) H
theorem ok__law_cell_at (t : T K mg) : CalX P w K mg base 1 "_law_cell_at" (sp_cell K) [] := by
  obtain ⟨fd, F⟩ := t.D__law_cell_at
  refine ⟨_, fd, ["script", "k"], [], F.ok sc__law_cell_at (fun vs H Q E h => spOf_len h (fun _ => rfl)) (fun cdv A outer s H vs Q E hr h => ?body), t.g__law_cell_at, F.kp, F.bindsN (fun _ _ _ _ _ _ us hl => match us, hl with | [_, _], _ => rfl), .nil⟩
  case body =>
    obtain ⟨⟨l, ns, j⟩, rfl, hl, k⟩ := h
    dsimp only at hl k
    refine ⟨_, (pss_cons (ps_if (pt_cmpR op_lt (pv 1) (pe_callB call_len_seq (by rfl) t.f_len bt_len (pa_cons (pv 0) pa_nil)) (nomark _)) (pss_one (ps_ret (pe_ix ix_list (pv 0) (pv 1) (fun _ _ => rfl)))) pss_nil)
    (pss_one (ps_ret pe_int))), ?_⟩
    wtm_at "cst"
    wtm_at "cgs"
    rw [List.length_map]
    by_cases c : j < ns.length
    · refine g_T (decide_eq_true (by omega)) ?_
      wtm_at "cgs"
      refine g_ixL hl (atI_n (z := V.int (ns.getD j 0)) (by rw [List.getElem?_map, List.getElem?_eq_getElem c, List.getD_eq_getElem?_getD, List.getElem?_eq_getElem c]; rfl)) ?_
      exact k
    · refine g_F (decide_eq_false (by omega)) ?_
      wtm_at "cgs"
      rw [List.getD_eq_getElem?_getD, List.getElem?_eq_none (by omega)] at k
      exact k
def sp_take (K : PySem.W.Frag) : Sp := spOf (fun (a : Addr × Int × Int) => [.ref a.1, .int a.2.2]) fun a H Q E => H a.1 = some (.lst [.int a.2.1]) ∧ 0 < a.2.2 ∧ a.2.2.natAbs.log2 < 9000 ∧ Q (.int (a.2.1 % a.2.2)) (upd H a.1 (.lst [.int (a.2.1 / a.2.2)]))
theorem ok__law_take (t : T K mg) : CalX P w K mg base 1 "_law_take" (sp_take K) [] := by
  obtain ⟨fd, F⟩ := t.D__law_take
  refine ⟨_, fd, ["pool", "size"], [], F.ok sc__law_take (fun vs H Q E h => spOf_len h (fun _ => rfl)) (fun cdv A outer s H vs Q E hr h => ?body), t.g__law_take, F.kp, F.bindsN (fun _ _ _ _ _ _ us hl => match us, hl with | [_, _], _ => rfl), .nil⟩
  case body =>
    obtain ⟨⟨q, n, z⟩, rfl, hq, h1, h2, k⟩ := h
    dsimp only at hq h1 h2 k
    refine ⟨_, (pss_cons (ps_set (i := 2) sc__law_take.nd rfl (Or.inl rfl) (pe_op op_mod (pe_ix ix_list (pv 0) pe_int (fun _ _ => rfl)) (pv 1)))
    (pss_cons (ps_asg (pe_op op_fdivW (pe_ix ix_list (pv 0) pe_int (fun _ _ => rfl)) (pv 1)) (pg_sub (pv 0) pe_int set_list))
    (pss_one (ps_ret (pv 2))))), ?_⟩
    wtm_at "cst"
    wtm_at "cgs"
    refine g_mod h1 ?_
    wtm_at "cgs"
    refine g_fdivW h1 h2 ?_
    wtm_at "cgs"
    refine g_setL (m := 0) hq (Nat.zero_lt_succ _) ?_
    wtm_at "cgs"
    exact k
def sp_pool (K : PySem.W.Frag) : Sp := spOf (fun (a : Int) => [.int a]) fun a H Q E => ∀ q n H1, Fr [] H H1 → H q = none → 0 ≤ n → H1 q = some (.lst [.int n]) → Q (.ref q) H1
theorem ok__law_pool (t : T K mg) : CalX P w K mg base 1 "_law_pool" (sp_pool K) [] := by
  obtain ⟨fd, F⟩ := t.D__law_pool
  refine ⟨_, fd, ["cell"], [], F.ok sc__law_pool (fun vs H Q E h => spOf_len h (fun _ => rfl)) (fun cdv A outer s H vs Q E hr h => ?body), t.g__law_pool, F.kp, F.bindsN (fun _ _ _ _ _ _ us hl => match us, hl with | [_], _ => rfl), .nil⟩
  case body =>
    obtain ⟨c, rfl, k⟩ := h
    refine ⟨_, (pss_cons (ps_if (pt_cmpR op_ge (pv 0) (pe_op op_pow pe_int pe_int) (nomark _)) (pss_one (ps_ret (pe_lst (pa_cons (pv 0) pa_nil)))) pss_nil)
    (pss_cons (ps_set (i := 1) sc__law_pool.nd rfl (Or.inl rfl) pe_int)
    (pss_cons (ps_for (passes_of rfl) rfl (pi_range1 (by rfl) t.f_range (pa_cons pe_int pa_nil)) (pg_name (i := 2) sc__law_pool.nd rfl (Or.inl rfl))
    (pss_cons (ps_set (i := 3) sc__law_pool.nd rfl (Or.inl rfl) (pe_op op_mod (pe_op op_pow (pe_op op_add (pe_op op_add (pe_op op_mul (pe_op op_mod (pv 0) pe_int) pe_int) (pe_op op_mul pe_int (pv 2))) pe_int) pe_int) pe_int))
    (pss_one (ps_set (i := 1) sc__law_pool.nd rfl (Or.inl rfl) (pe_op op_add (pe_op op_mul (pv 1) pe_int) (pe_op op_mod (pe_op op_pow (pe_op op_add (pe_op op_mul (pv 3) pe_int) (pv 2)) pe_int) pe_int))))))
    (pss_one (ps_ret (pe_lst (pa_cons (pv 1) pa_nil))))))), ?_⟩
    wtm_at "cst"
    wtm_at "cgs"
    refine g_pow ⟨by decide, by decide, by decide⟩ ?_
    wtm_at "cgs"
    by_cases c1 : (10 : Int) ^ (18 : Int).toNat ≤ c
    · refine g_T (decide_eq_true c1) ?_
      wtm_at "cgs"
      refine ⟨le100, fun q hq => ?_⟩
      exact k q c _ (Fr.refl.new hq) hq (Int.le_trans (by decide) c1) upd_same
    · refine g_F (decide_eq_false c1) ?_
      wtm_at "cgs"
      refine g_rng1q (j := 9) (by decide) (by decide) ?_
      refine for_range (fun _ σ H' => H' = H ∧ ∃ (n : Int) (a b : Option V), σ = [some (.int c), some (.int n), a, b] ∧ 0 ≤ n) ⟨rfl, 0, _, _, rfl, by decide⟩ (fun i σ H' hi hP => ?_) (fun σ H' hP => ?_)
      · obtain ⟨rfl, n, a, b, rfl, hn⟩ := hP
        have hi2 : i < 9 := hi
        wtm_at "cgs"
        have b1 : 0 ≤ c % 2147483647 := Int.emod_nonneg _ (by decide)
        have b2 : c % 2147483647 < 2147483647 := Int.emod_lt_of_pos _ (by decide)
        refine g_mod (by decide) ?_
        wtm_at "cgs"
        refine g_mul (.inr ⟨by decide, by decide⟩) ?_
        wtm_at "cgs"
        refine g_mul (.inl ⟨by decide, by decide⟩) ?_
        wtm_at "cgs"
        refine g_pow (cpow5 (by omega) (by omega)) ?_
        wtm_at "cgs"
        refine g_mod (by decide) ?_
        generalize hmix : (c % 2147483647 * 69621 + 7919 * (0 + (i : Int)) + 11) ^ (5 : Int).toNat % 2147483647 = mix
        have b3 : 0 ≤ mix := by rw [← hmix]; exact Int.emod_nonneg _ (by decide)
        have b4 : mix < 2147483647 := by rw [← hmix]; exact Int.emod_lt_of_pos _ (by decide)
        wtm_at "cgs"
        refine g_mul (.inr ⟨by decide, by decide⟩) ?_
        wtm_at "cgs"
        refine g_mul (.inr ⟨by decide, by decide⟩) ?_
        wtm_at "cgs"
        refine g_pow (cpow5 (by omega) (by omega)) ?_
        wtm_at "cgs"
        refine g_mod (by decide) ?_
        wtm_at "cgs"
        have b5 : 0 ≤ (mix * 48271 + (0 + (i : Int))) ^ (5 : Int).toNat % 2147483629 := Int.emod_nonneg _ (by decide)
        exact ⟨rfl, _, _, _, rfl, by omega⟩
      · obtain ⟨rfl, n, a, b, rfl, hn⟩ := hP
        wtm_at "cgs"
        refine ⟨le100, fun q hq => ?_⟩
        exact k q n _ (Fr.refl.new hq) hq hn upd_same
end
end K78
set_option Elab.async false
set_option linter.all false
set_option maxRecDepth 100000
set_option maxHeartbeats 800000
namespace K78
open PySem PySem.Spec PyProof.Rows L2
local macro_rules | `(tactic| wtm_at "cg") => `(tactic| first
  | with_reducible refine g_seq ?_
  | with_reducible refine g_ifS ?_
  | with_reducible refine g_test ?_
  | with_reducible refine g_tB ?_
  | with_reducible refine g_or ?_
  | with_reducible refine g_and ?_
  | with_reducible refine g_not ?_
  | (focus ((with_reducible apply g_var); (case' h => exact rfl); (case' k => skip)))
  | with_reducible refine g_c ?_
  | with_reducible refine g_cb ?_
  | with_reducible refine g_cons ?_
  | with_reducible refine g_nil ?_
  | with_reducible refine g_op ?_
  | with_reducible refine g_un ?_
  | with_reducible refine g_fld ?_
  | (focus ((with_reducible apply g_fldq); (case' h => wtm_at "chp"); (case' c => wtm_at "ccls"); (case' n => wtm_at "ccls"); (case' l => exact rfl); (case' k => skip)))
  | with_reducible refine g_ret ?_
  | with_reducible refine g_asg ?_
  | with_reducible refine g_next ?_
  | with_reducible refine g_drop ?_
  | with_reducible refine g_cal ?_
  | with_reducible refine g_met ?_
  | (focus ((with_reducible apply g_metq); (case' h => wtm_at "chp"); (case' l => exact rfl); (case' k => skip)))
  | with_reducible refine g_orV ?_
  | with_reducible refine g_andV ?_
  | with_reducible refine g_notV ?_
  | with_reducible refine g_blV ?_
  | with_reducible refine g_ifE ?_
  | with_reducible refine g_tup ?_
  | with_reducible refine g_lst ?_
  | with_reducible refine g_sfld ?_
  | with_reducible refine g_mk1 ?_
  | with_reducible refine g_I0 ?_
  | (focus ((with_reducible apply g_eq); (case' h => exact rfl); (case' k => skip)))
  | (focus ((with_reducible apply g_ne); (case' h => exact rfl); (case' k => skip)))
  | with_reducible refine And.intro (Eq.refl V.non) ?_
  | (focus ((with_reducible apply g_T); (case' h => first | exact rfl | exact decide_eq_true rfl); (case' k => skip)))
  | (focus ((with_reducible apply g_F); (case' h => first | exact rfl | exact ndec | (focus ((with_reducible apply decide_eq_false); (intro z); (cases z); done))); (case' k => skip)))
  | (focus ((with_reducible apply g_lenL); (case' h => wtm_at "csql"); (case' k => skip)))
  | (focus ((with_reducible apply g_lenT); (case' h => wtm_at "csqt"); (case' k => skip)))
  | (focus ((with_reducible apply g_ixT); (case' h => wtm_at "csqt"); (case' e => exact rfl); (case' k => skip)))
  | (focus ((with_reducible apply g_ixL); (case' h => wtm_at "csql"); (case' e => exact rfl); (case' k => skip))))
local macro_rules | `(tactic| wtm_at "cgs") => `(tactic| (repeat wtm_at "cg"))
/- H a = some o -/
local macro_rules | `(tactic| wtm_at "chp") => `(tactic| first
  | with_reducible assumption
  | exact upd_same
  | (focus ((with_reducible apply upd_new); (case' n => with_reducible assumption); (case' h => wtm_at "chp")))
  | (focus ((with_reducible apply upd_off); (case' n => first | wtm_at "cne0" | wtm_at "cne"); (case' h => wtm_at "chp")))
  | (focus ((with_reducible apply Fr.use0); (case' f => with_reducible assumption); (case' e => wtm_at "chp")))
  | (focus ((with_reducible apply Fr.use); (case' f => with_reducible assumption); (case' e => wtm_at "chp"); (case' n => wtm_at "cnin")))
  | assumption)
local macro_rules | `(tactic| wtm_at "cnin") => `(tactic| first
  | assumption
  | exact List.not_mem_nil
  | (focus ((with_reducible apply not_mem_c); (case' h => wtm_at "cne"); (case' t => wtm_at "cnin"))))
local macro_rules | `(tactic| wtm_at "cne0") => `(tactic| first
  | with_reducible assumption
  | (with_reducible apply Ne.symm; with_reducible assumption))
local macro_rules | `(tactic| wtm_at "cne") => `(tactic| first
  | wtm_at "cne0"
  | (focus ((with_reducible apply ne_of_none); (case' h' => with_reducible assumption); (case' h => wtm_at "chp")))
  | (focus ((with_reducible apply Ne.symm); (with_reducible apply ne_of_none); (case' h' => with_reducible assumption); (case' h => wtm_at "chp"))))
local macro_rules | `(tactic| wtm_at "csqt") => `(tactic| first | assumption | exact SqT.of (by wtm_at "chp"))
local macro_rules | `(tactic| wtm_at "csql") => `(tactic| first | assumption | exact SqL.of (by wtm_at "chp"))
local macro_rules | `(tactic| wtm_at "cst") => `(tactic| ((try dsimp only [L2.start, List.map, List.length_cons, List.length_nil, List.replicate, Nat.reduceAdd, Nat.reduceSub]); (try simp only [List.append_nil, List.nil_append, List.cons_append])))
local macro_rules | `(tactic| wtm_at "ccls") => `(tactic| first | assumption | (rename_i t; exact t.c_PlainHall))
local macro_rules | `(tactic| wtm_at "cg") => `(tactic| first
  | (focus ((with_reducible apply g_sfldq); (case' h => wtm_at "chp"); (case' c => assumption); (case' n => assumption); (case' l => exact of_decide_eq_true rfl); (case' k => skip)))
  | (focus ((with_reducible apply g_tofL); (case' h => wtm_at "csql"); (case' k => skip)))
  | (focus ((with_reducible apply g_tofT); (case' h => wtm_at "csqt"); (case' k => skip)))
  | with_reducible refine g_bm ?_
  | with_reducible refine g_mak ?_
  | with_reducible refine g_augS ?_
  | with_reducible refine g_ipI ?_
  | with_reducible refine g_asgS ?_
  | with_reducible refine g_gName ?_
  | with_reducible refine g_for ?_
  | with_reducible refine g_disp ?_
  | with_reducible refine g_pnil ?_
  | with_reducible refine g_pcons ?_
  | with_reducible refine g_lc ?_
  | with_reducible refine g_U ?_
  | with_reducible refine g_dnew ?_
  | with_reducible refine g_xfG ?_
  | with_reducible refine g_dget ?_
  | with_reducible refine g_sl ?_
  | with_reducible refine g_part ?_
  | with_reducible refine g_partq ?_
  | with_reducible refine g_nopart ?_
  | with_reducible refine Or.inr (Exists.intro _ (And.intro (Eq.refl [V.bl _]) ?_))
  | with_reducible refine g_rng1 ?_
  | with_reducible refine g_itL ?_)
local macro_rules | `(tactic| wtm_at "cfr") => `(tactic| first
  | assumption
  | exact Fr.refl
  | (focus ((with_reducible apply Fr.new); (case' h => assumption); (case' f => wtm_at "cfr")))
  | (focus ((with_reducible apply Fr.mut); (case' h => wtm_at "cmem"); (case' f => wtm_at "cfr")))
  | (focus ((with_reducible apply Fr.mutN); (case' h => wtm_at "chn"); (case' f => wtm_at "cfr"))))
local macro_rules | `(tactic| wtm_at "cmem") => `(tactic| first
  | exact List.mem_cons_self
  | (refine List.mem_cons_of_mem _ ?_; wtm_at "cmem"))
local macro_rules | `(tactic| wtm_at "chn") => `(tactic| first
  | assumption
  | (focus ((with_reducible apply Fr.free0); (case' h => assumption); (case' f => wtm_at "cfr"))))
/- allocations and the like, names left -/
local macro_rules | `(tactic| wtm_at "cga") => `(tactic| first
  | wtm_at "cg"
  | (with_reducible refine And.intro le100 ?_; intro _ _)
  | (with_reducible refine g_all ?_; intro _ _)
  | (focus ((with_reducible apply g_dispE); (case' e => wtm_at "chp"); (case' k => skip)))
  | (focus ((with_reducible apply g_xfGq); (case' t => assumption); (case' n => assumption); (case' h => wtm_at "chp"); (case' l => exact rfl); (case' k => skip)))
  | (focus ((with_reducible apply g_isX); (case' h => wtm_at "chp"); (case' t => assumption); (case' e => assumption); (case' k => skip)))
  | (focus ((with_reducible apply g_rep); (case' h => wtm_at "chp"); (case' h1 => decide); (case' h2 => decide); (case' q => (intro _ _))))
  | (focus ((with_reducible apply g_cat); (case' h => wtm_at "chp"); (case' h2 => wtm_at "chp"); (case' l => exact le100); (case' k => (intro _ _))))
  | (focus ((with_reducible apply g_dgetK); (case' h => wtm_at "chp"); (case' e => wtm_at "cvv"); (case' k => skip))))
local macro_rules | `(tactic| wtm_at "cgas") => `(tactic| (repeat wtm_at "cga"))
local macro_rules | `(tactic| wtm_at "cvv") => `(tactic| first
  | with_reducible exact valV_hd
  | (focus ((with_reducible apply valV_tl); (case' h => decide); (case' e => wtm_at "cvv"))))
/- up to the next statement -/
local macro_rules | `(tactic| wtm_at "cgus") => `(tactic| (repeat ((fail_if_success (with_reducible refine g_seq ?_)); wtm_at "cga")))

section
variable {P : Program} {w : World} {K : PySem.W.Frag} {mg : Str → Option Value} {base : Heap}
def OutAt (K : PySem.W.Frag) (H : Hp) (w : V) (ws : List Str) (d : PyData) : Prop := ∃ q l v, w = .ref q ∧ H q = some (.tup [.ref l, v]) ∧ H l = some (.lst (ws.map .str)) ∧ Dp K H v d
/-- an outcome that changes of older things leave as it is -/
def Cond (H H1 : Hp) (M : List Addr) : Prop := ∀ b ∈ M, (∃ o, H b = some o) ∧ ∀ xs, H1 b ≠ some (.tup xs)
def OutS (K : PySem.W.Frag) (H H1 : Hp) (w : V) (ws : List Str) (d : PyData) : Prop := ∀ M H2, Cond H H1 M → Fr M H1 H2 → OutAt K H2 w ws d
def DpS (K : PySem.W.Frag) (H H1 : Hp) (v : V) (d : PyData) : Prop := ∀ M H2, Cond H H1 M → Fr M H1 H2 → Dp K H2 v d
theorem Cond.new {H H1 : Hp} {M : List Addr} (c : Cond H H1 M) {a : Addr} (h : H a = none) : a ∉ M := fun z => by
  obtain ⟨⟨o, e⟩, _⟩ := c a z
  rw [h] at e
  cases e
theorem Cond.tup {H H1 : Hp} {M : List Addr} (c : Cond H H1 M) {a : Addr} {xs : List V} (h : H1 a = some (.tup xs)) : a ∉ M := fun z => (c a z).2 xs h
theorem DpS.non {H H1 : Hp} : DpS K H H1 .non .none := fun _ _ _ _ => .non
theorem DpS.int {H H1 : Hp} {i : Int} : DpS K H H1 (.int i) (.int i) := fun _ _ _ _ => .int _
theorem DpS.id {H H1 : Hp} {v : V} {d : Int × Int} (h : IdAt H1 v d) : DpS K H H1 v (idD d) := fun M H2 c f => by
  obtain ⟨a, rfl, h⟩ := h
  exact IdAt.dp ⟨a, rfl, f.use h (c.tup h)⟩
theorem DpS.l1 {H H1 : Hp} {l : Addr} {y : V} {d : Int × Int} (hl : H l = none) (e : H1 l = some (.lst [y])) (h : IdAt H1 y d) : DpS K H H1 (.ref l) (.list [idD d]) := fun M H2 c f =>
  .lst (SqL.of (f.use e (c.new hl))) (.cons (DpS.id h M H2 c f) .nil)
theorem OutS.mk {H H1 : Hp} {q l : Addr} {v : V} {ws : List Str} {d : PyData} (hq : H q = none) (hl : H l = none) (e1 : H1 q = some (.tup [.ref l, v])) (e2 : H1 l = some (.lst (ws.map .str))) (h : DpS K H H1 v d) : OutS K H H1 (.ref q) ws d :=
  fun M H2 c f => ⟨q, l, v, rfl, f.use e1 (c.tup e1), f.use e2 (c.new hl), h M H2 c f⟩
theorem OutS.at {H H1 : Hp} {w : V} {ws : List Str} {d : PyData} (h : OutS K H H1 w ws d) : OutAt K H1 w ws d := h [] H1 (fun b hb => absurd hb (by simp)) Fr.refl
def sp_did (K : PySem.W.Frag) : Sp := spOf (fun (a : Addr × Addr × Addr × List V × S × V) => [.ref a.1, a.2.2.2.2.2]) fun a H Q E => match a with
  | ⟨p, r, t, vs, s, x⟩ => HallAt K H p r t vs s.tI ∧ Ids H vs s.ids ∧ SOk s ∧
    ((BadDeed K H x s.told.length ∧ ∀ q l H1, Fr [] H H1 → H1 q = some (.tup [.ref l, x]) → H1 l = some (.lst [.str "no deed", .str "family"]) → Q (.ref q) H1) ∨
     ∃ d, DeedAt H x d s.told.length ∧ ∀ w vs' H1, Fr [r, t] H H1 → HallAt K H1 p r t vs' (next s d).tI → Ids H1 vs' (next s d).ids → OutS K H H1 w (words s d) (found s d) → Q w H1)
theorem ok__law_did (t : T K mg) : CalX P w K mg base 6 "_law_did" (sp_did K) [] := by
  obtain ⟨fd, F⟩ := t.D__law_did
  refine ⟨_, fd, ["plain", "deed"], [], F.ok sc__law_did (fun vs H Q E h => spOf_len h (fun _ => rfl)) (fun cdv A outer s H vs Q E hr h => ?body), t.g__law_did, F.kp, F.bindsN (fun _ _ _ _ _ _ us hl => match us, hl with | [_, _], _ => rfl), .nil⟩
  case body =>
    obtain ⟨⟨p, r, tt, vs, s1, x⟩, rfl, hh, hid, hI, h⟩ := h
    have hh0 := hh
    obtain ⟨⟨dx, hi⟩, h1, h2, h0⟩ := hh0
    have xf1 := t.xf_Known; have xf2 := t.xf_Lacks; have xf3 := t.xf_AllTold; have xf4 := t.xf_NoDeed
    have n1 := t.n_Known_found; have n2 := t.n_Lacks_found; have n3 := t.n_AllTold_found; have n4 := t.n_NoDeed_found
    have e1 := t.ki_NoDeed__HallError
    refine ⟨_, (pss_cons (ps_tryG rfl rfl (takes_of rfl rfl rfl rfl) (fun W pn xe tk po => (pss_one (ps_set (i := 3) sc__law_did.nd rfl (Or.inl rfl) (pc_met (ok_PlainHall_do t) hr (by decide) tk (pv 0) (pa_cons (pv 1) pa_nil)))))
    (.named (i := 2) (test_three ⟨rfl, by decide, .inl t.g_Known⟩ ⟨rfl, by decide, .inl t.g_Lacks⟩ ⟨rfl, by decide, .inl t.g_AllTold⟩) sc__law_did.nd rfl rfl (fun a oe cls dd pn hz hf => (pss_cons (ps_set (i := 4) sc__law_did.nd rfl (Or.inl rfl) (pe_op op_cat (pe_op op_rep (pe_lst (pa_cons pe_str pa_nil)) (pe_callTy call_int1 (by rfl) t.f_int bt_int (pa_cons (pe_callB (call_isX hz hf) (by rfl) t.f_isinstance bt_isinstance (pa_cons (pv 2) (pa_cons (pe_glob (v := .ref (He.ga K "Known")) (by rfl) t.g_Known rfl) pa_nil))) pa_nil))) (pe_op op_rep (pe_lst (pa_cons pe_str pa_nil)) (pe_callTy call_int1 (by rfl) t.f_int bt_int (pa_cons (pe_callB (call_isX hz hf) (by rfl) t.f_isinstance bt_isinstance (pa_cons (pv 2) (pa_cons (pe_glob (v := .ref (He.ga K "Lacks")) (by rfl) t.g_Lacks rfl) pa_nil))) pa_nil)))))
    (pss_cons (ps_set (i := 4) sc__law_did.nd rfl (Or.inl rfl) (pe_op op_cat (pe_op op_cat (pv 4) (pe_op op_rep (pe_lst (pa_cons pe_str pa_nil)) (pe_callTy call_int1 (by rfl) t.f_int bt_int (pa_cons (pe_callB (call_isX hz hf) (by rfl) t.f_isinstance bt_isinstance (pa_cons (pv 2) (pa_cons (pe_glob (v := .ref (He.ga K "AllTold")) (by rfl) t.g_AllTold rfl) pa_nil))) pa_nil)))) (pe_op op_rep (pe_lst (pa_cons pe_str pa_nil)) (pe_callTy call_int1 (by rfl) t.f_int bt_int (pa_cons (pe_callB (call_isX hz hf) (by rfl) t.f_isinstance bt_isinstance (pa_cons (pv 2) (pa_cons (pe_glob (v := .ref (He.ga K "Barred")) (by rfl) t.g_Barred rfl) pa_nil))) pa_nil)))))
    (pss_cons (ps_if (pt_not (pt_val (pe_callB call_isi (by rfl) t.f_isinstance bt_isinstance (pa_cons (pe_xfG hz hf (pv 2)) (pa_cons (pe_bltn (v := .ty "list") (by rfl) t.f_list (by decide +kernel) rfl) pa_nil))))) (pss_one (ps_ret (pe_tup (pa_cons (pv 4) (pa_cons (pe_xfG hz hf (pv 2)) pa_nil))))) pss_nil)
    (pss_cons (ps_set (i := 5) sc__law_did.nd rfl (Or.inl rfl) (pe_callTy call_list_of (by rfl) t.f_list bt_list (pa_cons (pe_xfG hz hf (pv 2)) pa_nil)))
    (pss_cons (ps_expr (pe_bm PySem.F.plainAttrs_list PySem.F.slot_list_append PySem.F.type_list_append mt_append (pe_xfG hz hf (pv 2)) (pa_cons pe_str pa_nil)))
    (pss_one (ps_ret (pe_tup (pa_cons (pv 4) (pa_cons (pv 5) pa_nil))))))))))) (.named (i := 2) (test_one ⟨rfl, by decide, .inl t.g_NoDeed⟩) sc__law_did.nd rfl rfl (fun a oe cls dd pn hz hf => (pss_one (ps_ret (pe_tup (pa_cons (pe_op op_cat (pe_lst (pa_cons pe_str pa_nil)) (pe_op op_rep (pe_lst (pa_cons pe_str pa_nil)) (pe_callTy call_int1 (by rfl) t.f_int bt_int (pa_cons (pe_callB (call_isX hz hf) (by rfl) t.f_isinstance bt_isinstance (pa_cons (pv 2) (pa_cons (pe_glob (v := .ref (He.ga K "HallError")) (by rfl) t.g_HallError rfl) pa_nil))) pa_nil)))) (pa_cons (pe_xfG hz hf (pv 2)) pa_nil)))))) .nil)))
    (pss_one (ps_ret (pe_tup (pa_cons (pe_lst (pa_cons pe_str pa_nil)) (pa_cons (pv 3) pa_nil)))))), ?_⟩
    wtm_at "cst"
    wtm_at "cgs"
    intro pn xe
    wtm_at "cgs"
    refine ⟨⟨p, r, tt, vs, s1, x⟩, rfl, hh, hid, hI, ?_⟩
    rcases h with ⟨hb, k⟩ | ⟨d, hd, k⟩
    · refine .inl ⟨hb, fun d H1 f1 hx => ?_⟩
      refine g_wGno t.xm_NoDeed__Known_Lacks_AllTold ?_
      refine g_wG t.xm_NoDeed__NoDeed fun a ha oe pn2 => ?_
      wtm_at "cgas"
      exact k _ _ _ (by wtm_at "cfr") upd_same (by wtm_at "chp")
    · refine .inr ⟨d, hd, ?_⟩
      have k3 : ∀ (H1 : Hp), Fr [] H H1 → next s1 d = s1 → HallAt K H1 p r tt vs (next s1 d).tI ∧ Ids H1 vs (next s1 d).ids := fun H1 f1 e => by rw [e]; exact ⟨hh.fr f1, hid.kt f1.kt0⟩
      have q1 := t.ki_Known__Known; have q2 := t.ki_Known__Lacks; have q3 := t.ki_Known__AllTold; have q4 := t.ki_Known__Barred
      have q5 := t.ki_Lacks__Known; have q6 := t.ki_Lacks__Lacks; have q7 := t.ki_Lacks__AllTold; have q8 := t.ki_Lacks__Barred
      have q9 := t.ki_AllTold__Known; have qa := t.ki_AllTold__Lacks; have qb := t.ki_AllTold__AllTold; have qc := t.ki_AllTold__Barred
      cases d with
      | add i n =>
        refine ⟨fun c1 y d H1 f1 hy hx => ?_, fun c1 c2 l y d H1 f1 hl0 hl hy hx => ?_, fun c1 c2 y H1 f1 hy hr1 => ?_⟩
        · refine g_wG t.xm_Known__Known_Lacks_AllTold fun a ha oe pn2 => ?_
          wtm_at "cgas"
          obtain ⟨ya, rfl, hya⟩ := id hy
          refine g_isi (.ty _) (th_tup (K := K) (by wtm_at "chp")).ty (kit_lst tok_tup) ?_
          wtm_at "cgas"
          have e0 : next s1 (.add i n) = s1 := if_pos c1
          have e1 : words s1 (.add i n) = (["known", "family"] : List Str) := if_pos c1
          have e2 : found s1 (.add i n) = idD (i, n) := if_pos c1
          have z := fun (q : Addr) (H9 : Hp) (g : Fr [] H H9) => k (.ref q) vs H9 (g.mono fun b hb => absurd hb (by simp)) (k3 H9 g e0).1 (k3 H9 g e0).2
          rw [e1, e2] at z
          refine z _ _ (by wtm_at "cfr") (OutS.mk (by wtm_at "chn") (by wtm_at "chn") upd_same (by wtm_at "chp") (DpS.id ⟨ya, rfl, by wtm_at "chp"⟩))
        · have e0 : next s1 (.add i n) = s1 := (if_neg c1).trans (if_pos c2)
          have e1 : words s1 (.add i n) = (["lacks", "family"] : List Str) := (if_neg c1).trans (if_pos c2)
          have e2 : found s1 (.add i n) = .list [idD (i, n - 1)] := (if_neg c1).trans (if_pos c2)
          have z := fun (q : Addr) (H9 : Hp) (g : Fr [] H H9) => k (.ref q) vs H9 (g.mono fun b hb => absurd hb (by simp)) (k3 H9 g e0).1 (k3 H9 g e0).2
          rw [e1, e2] at z
          refine g_wG t.xm_Lacks__Known_Lacks_AllTold fun a ha oe pn2 => ?_
          wtm_at "cgas"
          refine g_isi (.ty _) (th_lst (K := K) (by wtm_at "chp")).ty (kit_lst tok_lst) ?_
          wtm_at "cgas"
          rename_i u hu
          refine ⟨tyV_lst (by wtm_at "chp"), ?_⟩
          wtm_at "cgas"
          refine g_app (by wtm_at "chp") (lt1000 (by exact of_decide_eq_true rfl)) ?_
          wtm_at "cgas"
          obtain ⟨ya, rfl, hya⟩ := hy
          have n5 : ya ≠ l := ne_of hya hl (fun z => nomatch z)
          exact z _ _ (by wtm_at "cfr") (OutS.mk (by wtm_at "chn") (by wtm_at "chn") upd_same (by wtm_at "chp") (DpS.l1 (by wtm_at "chn") (by wtm_at "chp") ⟨ya, rfl, by wtm_at "chp"⟩))
        · have e0 : next s1 (.add i n) = ⟨s1.ids ++ [(i, n)], s1.told⟩ := (if_neg c1).trans (if_neg c2)
          have e1 : words s1 (.add i n) = (["told"] : List Str) := (if_neg c1).trans (if_neg c2)
          have e2 : found s1 (.add i n) = .none := (if_neg c1).trans (if_neg c2)
          have m1 : ∀ b ∈ [r], ∀ xs, H b ≠ some (.tup xs) := fun b hb xs e => by
            rw [List.mem_singleton.mp hb, h1] at e
            cases e
          have z := fun (q : Addr) (H9 : Hp) (g : Fr [] H1 H9) => k (.ref q) (vs ++ [y]) H9 ((f1.mono fun b hb => by rw [List.mem_singleton.mp hb]; exact List.mem_cons_self).trans (g.mono fun b hb => absurd hb (by simp)))
          rw [e0, e1, e2] at z
          have n5 := hh.pr
          wtm_at "cgas"
          have f3 : KpT H H1 := f1.kt m1
          obtain ⟨ya, rfl, hya⟩ := hy
          refine z _ _ (by wtm_at "cfr") ⟨⟨dx, ?_⟩, ?_, ?_, h0⟩ (Paired.snoc (hid.kt (f3.trans (Fr.kt0 (by wtm_at "cfr")))) ⟨ya, rfl, by wtm_at "chp"⟩) (OutS.mk (by refine Fr.free (M := [r]) ?_ (by assumption) ?_; wtm_at "cfr"; wtm_at "cnin") (by refine Fr.free (M := [r]) ?_ (by assumption) ?_; wtm_at "cfr"; wtm_at "cnin") upd_same (by wtm_at "chp") DpS.non)
          · wtm_at "chp"
          · wtm_at "chp"
          · wtm_at "chp"
      | tell m =>
        obtain ⟨hx, hm⟩ := hd
        refine ⟨_, List.getElem?_eq_getElem hm, fun c d H1 f1 hx => ?_, fun y d hy1 hy2 hy => ?_⟩
        · have g1 : s1.told[m]? = some s1.ids.length := by rw [List.getElem?_eq_getElem hm, c]
          have e0 : next s1 (.tell m) = s1 := by simp only [next, g1, if_true]
          have e1 : words s1 (.tell m) = (["all told", "family"] : List Str) := if_pos g1
          have e2 : found s1 (.tell m) = .int m := by simp only [found, g1, List.getElem?_eq_none (Nat.le_refl _)]
          have z := fun (q : Addr) (H9 : Hp) (g : Fr [] H H9) => k (.ref q) vs H9 (g.mono fun b hb => absurd hb (by simp)) (k3 H9 g e0).1 (k3 H9 g e0).2
          rw [e1, e2] at z
          refine g_wG t.xm_AllTold__Known_Lacks_AllTold fun a ha oe pn2 => ?_
          wtm_at "cgas"
          refine g_isi (.ty _) (th_int (K := K)).ty (kit_lst tok_int) ?_
          wtm_at "cgas"
          exact z _ _ (by wtm_at "cfr") (OutS.mk (by wtm_at "chn") (by wtm_at "chn") upd_same (by wtm_at "chp") DpS.int)
        · have n5 := hh.pt
          have hk : s1.told[m] < s1.ids.length := (List.getElem?_eq_some_iff.mp hy2).1
          have g1 : s1.told[m]? = some s1.told[m] := List.getElem?_eq_getElem hm
          have e0 : next s1 (.tell m) = ⟨s1.ids, s1.told.set m (s1.told[m] + 1)⟩ := by simp only [next, g1]; exact if_neg (by omega)
          have e1 : words s1 (.tell m) = (["told"] : List Str) := if_neg (by rw [g1]; intro z; have := Option.some.inj z; omega)
          have e2 : found s1 (.tell m) = idD d := by simp only [found, g1, hy2]
          have e3 : (⟨s1.ids, s1.told.set m (s1.told[m] + 1)⟩ : S).tI = s1.tI.set m ((s1.told[m] : Int) + 1) := by
            show (List.set _ _ _).map _ = List.set (List.map _ _) _ _
            rw [List.map_set]
            rfl
          have z := fun (q : Addr) (H9 : Hp) (g : Fr [r, tt] H H9) => k (.ref q) vs H9 g
          rw [e0, e1, e2, e3] at z
          wtm_at "cgas"
          have f1 : Fr [tt] H (upd H tt (.lst ((s1.tI.set m ((s1.told[m] : Int) + 1)).map .int))) := Fr.refl.mut List.mem_cons_self
          have f3 : KpT H (upd H tt (.lst ((s1.tI.set m ((s1.told[m] : Int) + 1)).map .int))) := KpT.refl.mut h2 (fun _ z => nomatch z)
          obtain ⟨ya, rfl, hya⟩ := hy
          have n6 : ya ≠ tt := ne_of hya h2 (fun z => nomatch z)
          refine z _ _ (by wtm_at "cfr") ⟨⟨dx, ?_⟩, ?_, ?_, h0⟩ (hid.kt (f3.trans (Fr.kt0 (by wtm_at "cfr")))) (OutS.mk (by refine Fr.free (M := [tt]) ?_ (by assumption) ?_; wtm_at "cfr"; wtm_at "cnin") (by refine Fr.free (M := [tt]) ?_ (by assumption) ?_; wtm_at "cfr"; wtm_at "cnin") upd_same (by wtm_at "chp") (DpS.id ⟨ya, rfl, by wtm_at "chp"⟩))
          · wtm_at "chp"
          · wtm_at "chp"
          · wtm_at "chp"
end
end K78
set_option Elab.async false
set_option linter.all false
set_option maxRecDepth 100000
set_option maxHeartbeats 800000
namespace K78
open PySem PySem.Spec PyProof.Rows L2
local macro_rules | `(tactic| wtm_at "cg") => `(tactic| first
  | with_reducible refine g_seq ?_
  | with_reducible refine g_ifS ?_
  | with_reducible refine g_test ?_
  | with_reducible refine g_tB ?_
  | with_reducible refine g_or ?_
  | with_reducible refine g_and ?_
  | with_reducible refine g_not ?_
  | (focus ((with_reducible apply g_var); (case' h => exact rfl); (case' k => skip)))
  | with_reducible refine g_c ?_
  | with_reducible refine g_cb ?_
  | with_reducible refine g_cons ?_
  | with_reducible refine g_nil ?_
  | with_reducible refine g_op ?_
  | with_reducible refine g_un ?_
  | with_reducible refine g_fld ?_
  | (focus ((with_reducible apply g_fldq); (case' h => wtm_at "chp"); (case' c => wtm_at "ccls"); (case' n => wtm_at "ccls"); (case' l => exact rfl); (case' k => skip)))
  | with_reducible refine g_ret ?_
  | with_reducible refine g_asg ?_
  | with_reducible refine g_next ?_
  | with_reducible refine g_drop ?_
  | with_reducible refine g_cal ?_
  | with_reducible refine g_met ?_
  | (focus ((with_reducible apply g_metq); (case' h => wtm_at "chp"); (case' l => exact rfl); (case' k => skip)))
  | with_reducible refine g_orV ?_
  | with_reducible refine g_andV ?_
  | with_reducible refine g_notV ?_
  | with_reducible refine g_blV ?_
  | with_reducible refine g_ifE ?_
  | with_reducible refine g_tup ?_
  | with_reducible refine g_lst ?_
  | with_reducible refine g_sfld ?_
  | with_reducible refine g_mk1 ?_
  | with_reducible refine g_I0 ?_
  | (focus ((with_reducible apply g_eq); (case' h => exact rfl); (case' k => skip)))
  | (focus ((with_reducible apply g_ne); (case' h => exact rfl); (case' k => skip)))
  | with_reducible refine And.intro (Eq.refl V.non) ?_
  | (focus ((with_reducible apply g_T); (case' h => first | exact rfl | exact decide_eq_true rfl); (case' k => skip)))
  | (focus ((with_reducible apply g_F); (case' h => first | exact rfl | exact ndec | (focus ((with_reducible apply decide_eq_false); (intro z); (cases z); done))); (case' k => skip)))
  | (focus ((with_reducible apply g_lenL); (case' h => wtm_at "csql"); (case' k => skip)))
  | (focus ((with_reducible apply g_lenT); (case' h => wtm_at "csqt"); (case' k => skip)))
  | (focus ((with_reducible apply g_ixT); (case' h => wtm_at "csqt"); (case' e => exact rfl); (case' k => skip)))
  | (focus ((with_reducible apply g_ixL); (case' h => wtm_at "csql"); (case' e => exact rfl); (case' k => skip))))
local macro_rules | `(tactic| wtm_at "cgs") => `(tactic| (repeat wtm_at "cg"))
/- H a = some o -/
local macro_rules | `(tactic| wtm_at "chp") => `(tactic| first
  | with_reducible assumption
  | exact upd_same
  | (focus ((with_reducible apply upd_new); (case' n => with_reducible assumption); (case' h => wtm_at "chp")))
  | (focus ((with_reducible apply upd_off); (case' n => first | wtm_at "cne0" | wtm_at "cne"); (case' h => wtm_at "chp")))
  | (focus ((with_reducible apply Fr.use0); (case' f => with_reducible assumption); (case' e => wtm_at "chp")))
  | (focus ((with_reducible apply Fr.use); (case' f => with_reducible assumption); (case' e => wtm_at "chp"); (case' n => wtm_at "cnin")))
  | assumption)
local macro_rules | `(tactic| wtm_at "cnin") => `(tactic| first
  | assumption
  | exact List.not_mem_nil
  | (focus ((with_reducible apply not_mem_c); (case' h => wtm_at "cne"); (case' t => wtm_at "cnin"))))
local macro_rules | `(tactic| wtm_at "cne0") => `(tactic| first
  | with_reducible assumption
  | (with_reducible apply Ne.symm; with_reducible assumption))
local macro_rules | `(tactic| wtm_at "cne") => `(tactic| first
  | wtm_at "cne0"
  | (focus ((with_reducible apply ne_of_none); (case' h' => with_reducible assumption); (case' h => wtm_at "chp")))
  | (focus ((with_reducible apply Ne.symm); (with_reducible apply ne_of_none); (case' h' => with_reducible assumption); (case' h => wtm_at "chp"))))
local macro_rules | `(tactic| wtm_at "csqt") => `(tactic| first | assumption | exact SqT.of (by wtm_at "chp"))
local macro_rules | `(tactic| wtm_at "csql") => `(tactic| first | assumption | exact SqL.of (by wtm_at "chp"))
local macro_rules | `(tactic| wtm_at "cst") => `(tactic| ((try dsimp only [L2.start, List.map, List.length_cons, List.length_nil, List.replicate, Nat.reduceAdd, Nat.reduceSub]); (try simp only [List.append_nil, List.nil_append, List.cons_append])))
local macro_rules | `(tactic| wtm_at "ccls") => `(tactic| first | assumption | (rename_i t; exact t.c_PlainHall))
local macro_rules | `(tactic| wtm_at "cg") => `(tactic| first
  | (focus ((with_reducible apply g_sfldq); (case' h => wtm_at "chp"); (case' c => assumption); (case' n => assumption); (case' l => exact of_decide_eq_true rfl); (case' k => skip)))
  | (focus ((with_reducible apply g_tofL); (case' h => wtm_at "csql"); (case' k => skip)))
  | (focus ((with_reducible apply g_tofT); (case' h => wtm_at "csqt"); (case' k => skip)))
  | with_reducible refine g_bm ?_
  | with_reducible refine g_mak ?_
  | with_reducible refine g_augS ?_
  | with_reducible refine g_ipI ?_
  | with_reducible refine g_asgS ?_
  | with_reducible refine g_gName ?_
  | with_reducible refine g_for ?_
  | with_reducible refine g_disp ?_
  | with_reducible refine g_pnil ?_
  | with_reducible refine g_pcons ?_
  | with_reducible refine g_lc ?_
  | with_reducible refine g_U ?_
  | with_reducible refine g_dnew ?_
  | with_reducible refine g_xfG ?_
  | with_reducible refine g_dget ?_
  | with_reducible refine g_sl ?_
  | with_reducible refine g_part ?_
  | with_reducible refine g_partq ?_
  | with_reducible refine g_nopart ?_
  | with_reducible refine Or.inr (Exists.intro _ (And.intro (Eq.refl [V.bl _]) ?_))
  | with_reducible refine g_rng1 ?_
  | with_reducible refine g_itL ?_)
local macro_rules | `(tactic| wtm_at "cfr") => `(tactic| first
  | assumption
  | exact Fr.refl
  | (focus ((with_reducible apply Fr.new); (case' h => assumption); (case' f => wtm_at "cfr")))
  | (focus ((with_reducible apply Fr.mut); (case' h => wtm_at "cmem"); (case' f => wtm_at "cfr")))
  | (focus ((with_reducible apply Fr.mutN); (case' h => wtm_at "chn"); (case' f => wtm_at "cfr"))))
local macro_rules | `(tactic| wtm_at "cmem") => `(tactic| first
  | exact List.mem_cons_self
  | (refine List.mem_cons_of_mem _ ?_; wtm_at "cmem"))
local macro_rules | `(tactic| wtm_at "chn") => `(tactic| first
  | assumption
  | (focus ((with_reducible apply Fr.free0); (case' h => assumption); (case' f => wtm_at "cfr"))))
/- allocations and the like, names left -/
local macro_rules | `(tactic| wtm_at "cga") => `(tactic| first
  | wtm_at "cg"
  | (with_reducible refine And.intro le100 ?_; intro _ _)
  | (with_reducible refine g_all ?_; intro _ _)
  | (focus ((with_reducible apply g_dispE); (case' e => wtm_at "chp"); (case' k => skip)))
  | (focus ((with_reducible apply g_xfGq); (case' t => assumption); (case' n => assumption); (case' h => wtm_at "chp"); (case' l => exact rfl); (case' k => skip)))
  | (focus ((with_reducible apply g_isX); (case' h => wtm_at "chp"); (case' t => assumption); (case' e => assumption); (case' k => skip)))
  | (focus ((with_reducible apply g_rep); (case' h => wtm_at "chp"); (case' h1 => decide); (case' h2 => decide); (case' q => (intro _ _))))
  | (focus ((with_reducible apply g_cat); (case' h => wtm_at "chp"); (case' h2 => wtm_at "chp"); (case' l => exact le100); (case' k => (intro _ _))))
  | (focus ((with_reducible apply g_dgetK); (case' h => wtm_at "chp"); (case' e => wtm_at "cvv"); (case' k => skip))))
local macro_rules | `(tactic| wtm_at "cgas") => `(tactic| (repeat wtm_at "cga"))
local macro_rules | `(tactic| wtm_at "cvv") => `(tactic| first
  | with_reducible exact valV_hd
  | (focus ((with_reducible apply valV_tl); (case' h => decide); (case' e => wtm_at "cvv"))))
/- up to the next statement -/
local macro_rules | `(tactic| wtm_at "cgus") => `(tactic| (repeat ((fail_if_success (with_reducible refine g_seq ?_)); wtm_at "cga")))

section
variable {P : Program} {w : World} {K : PySem.W.Frag} {mg : Str → Option Value} {base : Heap}
structure StAt (H : Hp) (st a b : Addr) (vs : List V) (told : List Int) : Prop where
  dic : H st = some (.dK [(.inr "row", .ref a), (.inr "told", .ref b)])
  row : H a = some (.lst vs)
  tol : H b = some (.lst (told.map .int))
  ne : a ≠ b
theorem StAt.fr {H H1 : Hp} {st a b : Addr} {vs : List V} {told : List Int} (h : StAt H st a b vs told) (f : Fr [] H H1) : StAt H1 st a b vs told := ⟨f.use0 h.dic, f.use0 h.row, f.use0 h.tol, h.ne⟩
theorem StAt.sa {H : Hp} {st a b : Addr} {vs : List V} {told : List Int} (h : StAt H st a b vs told) : st ≠ a := ne_of h.dic h.row (fun z => nomatch z)
theorem StAt.sb {H : Hp} {st a b : Addr} {vs : List V} {told : List Int} (h : StAt H st a b vs told) : st ≠ b := ne_of h.dic h.tol (fun z => nomatch z)
def sp_due (K : PySem.W.Frag) : Sp := spOf (fun (a : Addr × Addr × Addr × List V × S × V) => [.ref a.1, a.2.2.2.2.2]) fun a H Q E => match a with
  | ⟨st, a, b, vs, s, x⟩ => StAt H st a b vs s.tI ∧ Ids H vs s.ids ∧ SOk s ∧
     ∃ d, DeedAt H x d s.told.length ∧ ∀ w vs' H1, Fr [a, b] H H1 → StAt H1 st a b vs' (next s d).tI → Ids H1 vs' (next s d).ids → OutS K H H1 w (words s d) (found s d) → Q w H1
theorem ok__law_due (t : T K mg) : CalX P w K mg base 6 "_law_due" (sp_due K) [] := by
  obtain ⟨fd, F⟩ := t.D__law_due
  refine ⟨_, fd, ["state", "deed"], [], F.ok sc__law_due (fun vs H Q E h => spOf_len h (fun _ => rfl)) (fun cdv A outer s H vs Q E hr h => ?body), t.g__law_due, F.kp, F.bindsN (fun _ _ _ _ _ _ us hl => match us, hl with | [_, _], _ => rfl), .nil⟩
  case body =>
    obtain ⟨⟨st, la, lb, vs, s1, x⟩, rfl, hh, hid, hI, d, hd, k⟩ := h
    have hh0 := hh
    obtain ⟨h0, h1, h2, h3⟩ := hh0
    have n1 := hh.sa
    have n2 := hh.sb
    have k3 : ∀ (H1 : Hp), Fr [] H H1 → next s1 d = s1 → StAt H1 st la lb vs (next s1 d).tI ∧ Ids H1 vs (next s1 d).ids := fun H1 f1 e => by rw [e]; exact ⟨hh.fr f1, hid.kt f1.kt0⟩
    refine ⟨_, (pss_cons (ps_if (pt_cmpR op_eq (pe_ix ix_tup (pv 1) pe_int (fun _ _ => rfl)) pe_str (nomark _)) (pss_cons (ps_set (i := 3) sc__law_due.nd rfl (Or.inl rfl) (pe_ix ix_list (pe_dget hr.u (pv 0) pe_str (fun _ _ => rfl)) (pe_ix ix_tup (pv 1) pe_int (fun _ _ => rfl)) (fun _ _ => rfl)))
    (pss_cons (ps_if (pt_cmpR op_eq (pv 3) (pe_callB call_len_seq (by rfl) t.f_len bt_len (pa_cons (pe_dget hr.u (pv 0) pe_str (fun _ _ => rfl)) pa_nil)) (nomark _)) (pss_one (ps_ret (pe_tup (pa_cons (pe_lst (pa_cons pe_str (pa_cons pe_str pa_nil))) (pa_cons (pe_ix ix_tup (pv 1) pe_int (fun _ _ => rfl)) pa_nil))))) pss_nil)
    (pss_cons (ps_asg (pe_op op_add (pv 3) pe_int) (pg_sub (pe_dget hr.u (pv 0) pe_str (fun _ _ => rfl)) (pe_ix ix_tup (pv 1) pe_int (fun _ _ => rfl)) set_list))
    (pss_one (ps_ret (pe_tup (pa_cons (pe_lst (pa_cons pe_str pa_nil)) (pa_cons (pe_ix ix_list (pe_dget hr.u (pv 0) pe_str (fun _ _ => rfl)) (pv 3) (fun _ _ => rfl)) pa_nil)))))))) pss_nil)
    (pss_cons (ps_set (i := 2) sc__law_due.nd rfl (Or.inl rfl) (pe_slice sl_tup (pv 1) (po_some pe_int) po_none))
    (pss_cons (ps_if (pt_cmpR (op_inD hr.u) (pv 2) (pe_dget hr.u (pv 0) pe_str (fun _ _ => rfl)) rfl) (pss_one (ps_ret (pe_tup (pa_cons (pe_lst (pa_cons pe_str (pa_cons pe_str pa_nil))) (pa_cons (pv 2) pa_nil))))) pss_nil)
    (pss_cons (ps_if (pw_and (pt_cmpR op_gt (pe_ix ix_tup (pv 2) pe_int (fun _ _ => rfl)) pe_int (nomark _)) (pw_and1 (pt_cmpR (op_notInD hr.u) (pe_tup (pa_cons (pe_ix ix_tup (pv 2) pe_int (fun _ _ => rfl)) (pa_cons (pe_op op_sub (pe_ix ix_tup (pv 2) pe_int (fun _ _ => rfl)) pe_int) pa_nil))) (pe_dget hr.u (pv 0) pe_str (fun _ _ => rfl)) rfl))).pt (pss_one (ps_ret (pe_tup (pa_cons (pe_lst (pa_cons pe_str (pa_cons pe_str pa_nil))) (pa_cons (pe_lst (pa_cons (pe_tup (pa_cons (pe_ix ix_tup (pv 2) pe_int (fun _ _ => rfl)) (pa_cons (pe_op op_sub (pe_ix ix_tup (pv 2) pe_int (fun _ _ => rfl)) pe_int) pa_nil))) pa_nil)) pa_nil))))) pss_nil)
    (pss_cons (ps_expr (pe_bm PySem.F.plainAttrs_list PySem.F.slot_list_append PySem.F.type_list_append mt_append (pe_dget hr.u (pv 0) pe_str (fun _ _ => rfl)) (pa_cons (pv 2) pa_nil)))
    (pss_one (ps_ret (pe_tup (pa_cons (pe_lst (pa_cons pe_str pa_nil)) (pa_cons pe_non pa_nil)))))))))), ?_⟩
    wtm_at "cst"
    cases d with
    | tell m =>
      obtain ⟨⟨xa, rfl, hx⟩, hm⟩ := hd
      wtm_at "cgas"
      have g1 : s1.told[m]? = some s1.told[m] := List.getElem?_eq_getElem hm
      have hmt : (s1.tI.map V.int)[m]? = some (V.int (s1.told[m] : Int)) := by
        show (List.map _ (List.map _ _))[m]? = _
        rw [List.getElem?_map, List.getElem?_map, g1]
        rfl
      refine g_ixL (SqL.of h2) (atI_n hmt) ?_
      wtm_at "cgas"
      have hvl : vs.length = s1.ids.length := Paired.length hid
      have hk := hI.2.1 _ (List.mem_of_getElem? g1)
      by_cases c : s1.told[m] = s1.ids.length
      · refine g_T (decide_eq_true (by rw [hvl, c])) ?_
        have g2 : s1.told[m]? = some s1.ids.length := by rw [g1, c]
        have e0 : next s1 (.tell m) = s1 := by simp only [next, g2, if_true]
        have e1 : words s1 (.tell m) = (["all told", "family"] : List Str) := if_pos g2
        have e2 : found s1 (.tell m) = .int m := by simp only [found, g2, List.getElem?_eq_none (Nat.le_refl _)]
        have z := fun (q : Addr) (H9 : Hp) (g : Fr [] H H9) => k (.ref q) vs H9 (g.mono fun b hb => absurd hb (by simp)) (k3 H9 g e0).1 (k3 H9 g e0).2
        rw [e1, e2] at z
        wtm_at "cgas"
        exact z _ _ (by wtm_at "cfr") (OutS.mk (by wtm_at "chn") (by wtm_at "chn") upd_same (by wtm_at "chp") DpS.int)
      · refine g_F (decide_eq_false fun e => c (by have := V.int.inj e; omega)) ?_
        have hlt : s1.told[m] < s1.ids.length := by omega
        have g3 : s1.ids[s1.told[m]]? = some s1.ids[s1.told[m]] := List.getElem?_eq_getElem hlt
        have e0 : next s1 (.tell m) = ⟨s1.ids, s1.told.set m (s1.told[m] + 1)⟩ := by simp only [next, g1]; exact if_neg c
        have e1 : words s1 (.tell m) = (["told"] : List Str) := if_neg (by rw [g1]; intro z; exact c (Option.some.inj z))
        have e2 : found s1 (.tell m) = idD s1.ids[s1.told[m]] := by simp only [found, g1, g3]
        have e3 : (⟨s1.ids, s1.told.set m (s1.told[m] + 1)⟩ : S).tI = s1.tI.set m ((s1.told[m] : Int) + 1) := by
          show (List.set _ _ _).map _ = List.set (List.map _ _) _ _
          rw [List.map_set]
          rfl
        have z := fun (q : Addr) (H9 : Hp) (g : Fr [la, lb] H H9) => k (.ref q) vs H9 g
        rw [e0, e1, e2, e3] at z
        wtm_at "cgas"
        refine g_setL h2 (by rw [List.length_map]; show m < (List.map _ _).length; rw [List.length_map]; exact hm) ?_
        have f3 : KpT H (upd H lb (.lst ((s1.tI.map V.int).set m (.int ((s1.told[m] : Int) + 1))))) := KpT.refl.mut h2 (fun _ z => nomatch z)
        wtm_at "cgas"
        obtain ⟨y, hy1, hy2⟩ : ∃ y, vs[s1.told[m]]? = some y ∧ IdAt H y s1.ids[s1.told[m]] := by
          have hv : s1.told[m] < vs.length := by omega
          obtain ⟨d, hd1, hd2⟩ := Paired.get hid (List.getElem?_eq_getElem hv)
          rw [g3] at hd1
          rw [Option.some.inj hd1]
          exact ⟨_, List.getElem?_eq_getElem hv, hd2⟩
        refine g_ixL (SqL.of (by wtm_at "chp")) (atI_n hy1) ?_
        wtm_at "cgas"
        obtain ⟨ya, rfl, hya⟩ := hy2
        have n6 : ya ≠ lb := ne_of hya h2 (fun z => nomatch z)
        refine z _ _ (by wtm_at "cfr") ⟨?_, ?_, ?_, h3⟩ (hid.kt (f3.trans (Fr.kt0 (by wtm_at "cfr")))) (OutS.mk (by refine Fr.free (M := [lb]) ?_ (by assumption) ?_; wtm_at "cfr"; wtm_at "cnin") (by refine Fr.free (M := [lb]) ?_ (by assumption) ?_; wtm_at "cfr"; wtm_at "cnin") upd_same (by wtm_at "chp") (DpS.id ⟨ya, rfl, by wtm_at "chp"⟩))
        · wtm_at "chp"
        · wtm_at "chp"
        · rw [List.map_set]
          wtm_at "chp"
    | add i n =>
      obtain ⟨⟨xa, rfl, hx⟩, g1, g2, g3⟩ := hd
      wtm_at "cgas"
      refine g_slT (L := 3) (ys := [.int i, .int n]) (SqT.of hx) rfl (by decide) rfl fun b eb => ?_
      wtm_at "cgas"
      have ib : IdAt (upd H b (.tup [.int i, .int n])) (.ref b) (i, n) := ⟨b, rfl, upd_same⟩
      have f1 : Fr [] H (upd H b (.tup [.int i, .int n])) := Fr.refl.new eb
      refine g_inD ib.dp (.lst (SqL.of (by wtm_at "chp")) (hid.kt f1.kt0).dp) shp_id (.lst shp_ids) (by decide) (by decide) ?_
      refine g_blV ?_
      rw [any_id]
      by_cases c1 : (i, n) ∈ s1.ids
      · refine g_T (decide_eq_true c1) ?_
        have e0 : next s1 (.add i n) = s1 := if_pos c1
        have e1 : words s1 (.add i n) = (["known", "family"] : List Str) := if_pos c1
        have e2 : found s1 (.add i n) = idD (i, n) := if_pos c1
        have z := fun (q : Addr) (H9 : Hp) (g : Fr [] H H9) => k (.ref q) vs H9 (g.mono fun b hb => absurd hb (by simp)) (k3 H9 g e0).1 (k3 H9 g e0).2
        rw [e1, e2] at z
        wtm_at "cgas"
        exact z _ _ (by wtm_at "cfr") (OutS.mk (by wtm_at "chn") (by wtm_at "chn") upd_same (by wtm_at "chp") (DpS.id ⟨b, rfl, by wtm_at "chp"⟩))
      · refine g_F (decide_eq_false c1) ?_
        have told_ : ∀ (H1 : Hp) (ya : Addr), Fr [la, lb] H H1 → H1 la = some (.lst (vs ++ [.ref ya])) → H1 ya = some (.tup [.int i, .int n]) → KpT H H1 → ¬ lackB s1 i n → ∀ q l, Fr [la] H H1 → H1 q = some (.tup [.ref l, .non]) → H1 l = some (.lst [.str "told"]) → H q = none → H l = none → Q (.ref q) H1 := fun H1 ya g e1 e2 kt c2 q l g2 e3 e4 e5 e6 => by
          have e0 : next s1 (.add i n) = ⟨s1.ids ++ [(i, n)], s1.told⟩ := (if_neg c1).trans (if_neg c2)
          have z := k (.ref q) (vs ++ [.ref ya]) H1 g
          rw [e0, show words s1 (.add i n) = (["told"] : List Str) from (if_neg c1).trans (if_neg c2), show found s1 (.add i n) = .none from (if_neg c1).trans (if_neg c2)] at z
          exact z ⟨g2.use h0 (by simp [n1]), e1, g2.use h2 (by simp [Ne.symm h3]), h3⟩ (Paired.snoc (hid.kt kt) ⟨ya, rfl, e2⟩) (OutS.mk e5 e6 e3 e4 DpS.non)
        wtm_at "cgas"
        by_cases c2 : 1 < n
        · refine g_T (decide_eq_true c2) ?_
          wtm_at "cgas"
          rename_i b2 eb2
          refine g_notInD (IdAt.dp (d := (i, n - 1)) ⟨b2, rfl, upd_same⟩) (.lst (SqL.of (by wtm_at "chp")) (hid.kt (Fr.kt0 (by wtm_at "cfr"))).dp) shp_id (.lst shp_ids) (by decide) (by decide) ?_
          refine g_blV ?_
          rw [any_id]
          by_cases c3 : (i, n - 1) ∈ s1.ids
          · refine g_F (by rw [decide_eq_true c3]; rfl) ?_
            wtm_at "cgas"
            refine ⟨tyV_lst (by wtm_at "chp"), ?_⟩
            wtm_at "cgas"
            refine g_app (by wtm_at "chp") (lt1000 (by have := hI.1; have := Paired.length hid; omega)) ?_
            have hb : b ≠ la := Ne.symm (ne_of_none h1 eb)
            wtm_at "cgas"
            refine told_ _ b (by wtm_at "cfr") (by wtm_at "chp") (by wtm_at "chp") ?_ (fun z => z.2 c3) _ _ (by wtm_at "cfr") upd_same (by wtm_at "chp") (by refine Fr.free (M := [la]) ?_ (by assumption) ?_; wtm_at "cfr"; wtm_at "cnin") (by refine Fr.free (M := [la]) ?_ (by assumption) ?_; wtm_at "cfr"; wtm_at "cnin")
            exact (((((KpT.refl.new eb).new eb2).mutL (by wtm_at "chp")).new (by assumption)).new (by assumption))
          · refine g_T (by rw [decide_eq_false c3]; rfl) ?_
            have e0 : next s1 (.add i n) = s1 := (if_neg c1).trans (if_pos ⟨c2, c3⟩)
            have e1 : words s1 (.add i n) = (["lacks", "family"] : List Str) := (if_neg c1).trans (if_pos ⟨c2, c3⟩)
            have e2 : found s1 (.add i n) = .list [idD (i, n - 1)] := (if_neg c1).trans (if_pos ⟨c2, c3⟩)
            have z := fun (q : Addr) (H9 : Hp) (g : Fr [] H H9) => k (.ref q) vs H9 (g.mono fun b hb => absurd hb (by simp)) (k3 H9 g e0).1 (k3 H9 g e0).2
            rw [e1, e2] at z
            wtm_at "cgas"
            exact z _ _ (by wtm_at "cfr") (OutS.mk (by wtm_at "chn") (by wtm_at "chn") upd_same (by wtm_at "chp") (DpS.l1 (by wtm_at "chn") (by wtm_at "chp") ⟨_, rfl, by wtm_at "chp"⟩))
        · refine g_F (decide_eq_false c2) ?_
          wtm_at "cgas"
          refine ⟨tyV_lst (by wtm_at "chp"), ?_⟩
          wtm_at "cgas"
          refine g_app (by wtm_at "chp") (lt1000 (by have := hI.1; have := Paired.length hid; omega)) ?_
          have hb : b ≠ la := Ne.symm (ne_of_none h1 eb)
          wtm_at "cgas"
          refine told_ _ b (by wtm_at "cfr") (by wtm_at "chp") (by wtm_at "chp") ?_ (fun z => c2 z.1) _ _ (by wtm_at "cfr") upd_same (by wtm_at "chp") (by refine Fr.free (M := [la]) ?_ (by assumption) ?_; wtm_at "cfr"; wtm_at "cnin") (by refine Fr.free (M := [la]) ?_ (by assumption) ?_; wtm_at "cfr"; wtm_at "cnin")
          exact ((((KpT.refl.new eb).mutL (by wtm_at "chp")).new (by assumption)).new (by assumption))
end
end K78
set_option Elab.async false
set_option linter.all false
set_option maxRecDepth 100000
set_option maxHeartbeats 800000
namespace K78
open PySem PySem.Spec PyProof.Rows L2
local macro_rules | `(tactic| wtm_at "cg") => `(tactic| first
  | with_reducible refine g_seq ?_
  | with_reducible refine g_ifS ?_
  | with_reducible refine g_test ?_
  | with_reducible refine g_tB ?_
  | with_reducible refine g_or ?_
  | with_reducible refine g_and ?_
  | with_reducible refine g_not ?_
  | (focus ((with_reducible apply g_var); (case' h => exact rfl); (case' k => skip)))
  | with_reducible refine g_c ?_
  | with_reducible refine g_cb ?_
  | with_reducible refine g_cons ?_
  | with_reducible refine g_nil ?_
  | with_reducible refine g_op ?_
  | with_reducible refine g_un ?_
  | with_reducible refine g_fld ?_
  | (focus ((with_reducible apply g_fldq); (case' h => wtm_at "chp"); (case' c => wtm_at "ccls"); (case' n => wtm_at "ccls"); (case' l => exact rfl); (case' k => skip)))
  | with_reducible refine g_ret ?_
  | with_reducible refine g_asg ?_
  | with_reducible refine g_next ?_
  | with_reducible refine g_drop ?_
  | with_reducible refine g_cal ?_
  | with_reducible refine g_met ?_
  | (focus ((with_reducible apply g_metq); (case' h => wtm_at "chp"); (case' l => exact rfl); (case' k => skip)))
  | with_reducible refine g_orV ?_
  | with_reducible refine g_andV ?_
  | with_reducible refine g_notV ?_
  | with_reducible refine g_blV ?_
  | with_reducible refine g_ifE ?_
  | with_reducible refine g_tup ?_
  | with_reducible refine g_lst ?_
  | with_reducible refine g_sfld ?_
  | with_reducible refine g_mk1 ?_
  | with_reducible refine g_I0 ?_
  | (focus ((with_reducible apply g_eq); (case' h => exact rfl); (case' k => skip)))
  | (focus ((with_reducible apply g_ne); (case' h => exact rfl); (case' k => skip)))
  | with_reducible refine And.intro (Eq.refl V.non) ?_
  | (focus ((with_reducible apply g_T); (case' h => first | exact rfl | exact decide_eq_true rfl); (case' k => skip)))
  | (focus ((with_reducible apply g_F); (case' h => first | exact rfl | exact ndec | (focus ((with_reducible apply decide_eq_false); (intro z); (cases z); done))); (case' k => skip)))
  | (focus ((with_reducible apply g_lenL); (case' h => wtm_at "csql"); (case' k => skip)))
  | (focus ((with_reducible apply g_lenT); (case' h => wtm_at "csqt"); (case' k => skip)))
  | (focus ((with_reducible apply g_ixT); (case' h => wtm_at "csqt"); (case' e => exact rfl); (case' k => skip)))
  | (focus ((with_reducible apply g_ixL); (case' h => wtm_at "csql"); (case' e => exact rfl); (case' k => skip))))
local macro_rules | `(tactic| wtm_at "cgs") => `(tactic| (repeat wtm_at "cg"))
/- H a = some o -/
local macro_rules | `(tactic| wtm_at "chp") => `(tactic| first
  | with_reducible assumption
  | exact upd_same
  | (focus ((with_reducible apply upd_new); (case' n => with_reducible assumption); (case' h => wtm_at "chp")))
  | (focus ((with_reducible apply upd_off); (case' n => first | wtm_at "cne0" | wtm_at "cne"); (case' h => wtm_at "chp")))
  | (focus ((with_reducible apply Fr.use0); (case' f => with_reducible assumption); (case' e => wtm_at "chp")))
  | (focus ((with_reducible apply Fr.use); (case' f => with_reducible assumption); (case' e => wtm_at "chp"); (case' n => wtm_at "cnin")))
  | assumption)
local macro_rules | `(tactic| wtm_at "cnin") => `(tactic| first
  | assumption
  | exact List.not_mem_nil
  | (focus ((with_reducible apply not_mem_c); (case' h => wtm_at "cne"); (case' t => wtm_at "cnin"))))
local macro_rules | `(tactic| wtm_at "cne0") => `(tactic| first
  | with_reducible assumption
  | (with_reducible apply Ne.symm; with_reducible assumption))
local macro_rules | `(tactic| wtm_at "cne") => `(tactic| first
  | wtm_at "cne0"
  | (focus ((with_reducible apply ne_of_none); (case' h' => with_reducible assumption); (case' h => wtm_at "chp")))
  | (focus ((with_reducible apply Ne.symm); (with_reducible apply ne_of_none); (case' h' => with_reducible assumption); (case' h => wtm_at "chp"))))
local macro_rules | `(tactic| wtm_at "csqt") => `(tactic| first | assumption | exact SqT.of (by wtm_at "chp"))
local macro_rules | `(tactic| wtm_at "csql") => `(tactic| first | assumption | exact SqL.of (by wtm_at "chp"))
local macro_rules | `(tactic| wtm_at "cst") => `(tactic| ((try dsimp only [L2.start, List.map, List.length_cons, List.length_nil, List.replicate, Nat.reduceAdd, Nat.reduceSub]); (try simp only [List.append_nil, List.nil_append, List.cons_append])))
local macro_rules | `(tactic| wtm_at "ccls") => `(tactic| first | assumption | (rename_i t; exact t.c_PlainHall))
local macro_rules | `(tactic| wtm_at "cg") => `(tactic| first
  | (focus ((with_reducible apply g_sfldq); (case' h => wtm_at "chp"); (case' c => assumption); (case' n => assumption); (case' l => exact of_decide_eq_true rfl); (case' k => skip)))
  | (focus ((with_reducible apply g_tofL); (case' h => wtm_at "csql"); (case' k => skip)))
  | (focus ((with_reducible apply g_tofT); (case' h => wtm_at "csqt"); (case' k => skip)))
  | with_reducible refine g_bm ?_
  | with_reducible refine g_mak ?_
  | with_reducible refine g_augS ?_
  | with_reducible refine g_ipI ?_
  | with_reducible refine g_asgS ?_
  | with_reducible refine g_gName ?_
  | with_reducible refine g_for ?_
  | with_reducible refine g_disp ?_
  | with_reducible refine g_pnil ?_
  | with_reducible refine g_pcons ?_
  | with_reducible refine g_lc ?_
  | with_reducible refine g_U ?_
  | with_reducible refine g_dnew ?_
  | with_reducible refine g_xfG ?_
  | with_reducible refine g_dget ?_
  | with_reducible refine g_sl ?_
  | with_reducible refine g_part ?_
  | with_reducible refine g_partq ?_
  | with_reducible refine g_nopart ?_
  | with_reducible refine Or.inr (Exists.intro _ (And.intro (Eq.refl [V.bl _]) ?_))
  | with_reducible refine g_rng1 ?_
  | with_reducible refine g_itL ?_)
local macro_rules | `(tactic| wtm_at "cfr") => `(tactic| first
  | assumption
  | exact Fr.refl
  | (focus ((with_reducible apply Fr.new); (case' h => assumption); (case' f => wtm_at "cfr")))
  | (focus ((with_reducible apply Fr.mut); (case' h => wtm_at "cmem"); (case' f => wtm_at "cfr")))
  | (focus ((with_reducible apply Fr.mutN); (case' h => wtm_at "chn"); (case' f => wtm_at "cfr"))))
local macro_rules | `(tactic| wtm_at "cmem") => `(tactic| first
  | exact List.mem_cons_self
  | (refine List.mem_cons_of_mem _ ?_; wtm_at "cmem"))
local macro_rules | `(tactic| wtm_at "chn") => `(tactic| first
  | assumption
  | (focus ((with_reducible apply Fr.free0); (case' h => assumption); (case' f => wtm_at "cfr"))))
/- allocations and the like, names left -/
local macro_rules | `(tactic| wtm_at "cga") => `(tactic| first
  | wtm_at "cg"
  | (with_reducible refine And.intro le100 ?_; intro _ _)
  | (with_reducible refine g_all ?_; intro _ _)
  | (focus ((with_reducible apply g_dispE); (case' e => wtm_at "chp"); (case' k => skip)))
  | (focus ((with_reducible apply g_xfGq); (case' t => assumption); (case' n => assumption); (case' h => wtm_at "chp"); (case' l => exact rfl); (case' k => skip)))
  | (focus ((with_reducible apply g_isX); (case' h => wtm_at "chp"); (case' t => assumption); (case' e => assumption); (case' k => skip)))
  | (focus ((with_reducible apply g_rep); (case' h => wtm_at "chp"); (case' h1 => decide); (case' h2 => decide); (case' q => (intro _ _))))
  | (focus ((with_reducible apply g_cat); (case' h => wtm_at "chp"); (case' h2 => wtm_at "chp"); (case' l => exact le100); (case' k => (intro _ _))))
  | (focus ((with_reducible apply g_dgetK); (case' h => wtm_at "chp"); (case' e => wtm_at "cvv"); (case' k => skip))))
local macro_rules | `(tactic| wtm_at "cgas") => `(tactic| (repeat wtm_at "cga"))
local macro_rules | `(tactic| wtm_at "cvv") => `(tactic| first
  | with_reducible exact valV_hd
  | (focus ((with_reducible apply valV_tl); (case' h => decide); (case' e => wtm_at "cvv"))))
/- up to the next statement -/
local macro_rules | `(tactic| wtm_at "cgus") => `(tactic| (repeat ((fail_if_success (with_reducible refine g_seq ?_)); wtm_at "cga")))

section
variable {P : Program} {w : World} {K : PySem.W.Frag} {mg : Str → Option Value} {base : Heap}
def sp_nomem (K : PySem.W.Frag) : Sp := spOf (fun (a : Addr × Addr × Addr × List V × S × V × PyData) => [.ref a.1, a.2.2.2.2.2.1]) fun a H Q E => match a with
  | ⟨p, r, t, vs, s, x, d⟩ => HallAt K H p r t vs s.tI ∧ (∃ T, Th K H x T) ∧ wholeV x 0 (some ((s.tI.length : Int) - 1)) = false ∧ Dp K H x d ∧ Shp 5 d ∧ ∀ H1, Fr [] H H1 → Q (.bl true) H1
theorem ok__law_no_member (t : T K mg) : CalX P w K mg base 6 "_law_no_member" (sp_nomem K) [] := by
  obtain ⟨fd, F⟩ := t.D__law_no_member
  refine ⟨_, fd, ["plain", "thing"], [], F.ok sc__law_no_member (fun vs H Q E h => spOf_len h (fun _ => rfl)) (fun cdv A outer s H vs Q E hr h => ?body), t.g__law_no_member, F.kp, F.bindsN (fun _ _ _ _ _ _ us hl => match us, hl with | [_, _], _ => rfl), .nil⟩
  case body =>
    obtain ⟨⟨p, r, tt, vs, s1, x, d⟩, rfl, hh, hT, hw, hd, hs, k⟩ := h
    have hh0 := hh
    obtain ⟨⟨dx, hi⟩, h1, h2, h0⟩ := hh0
    have xf1 := t.xf_NoMember; have n1 := t.n_NoMember_found; have e1 := t.ki_NoMember__HallError
    refine ⟨_, (pss_cons (ps_tryG rfl rfl (takes_of rfl rfl rfl rfl) (fun W pn xe tk po => (pss_one (ps_expr (pc_met (ok_PlainHall_told_by t) hr (by decide) tk (pv 0) (pa_cons (pv 1) pa_nil)))))
    (.named (i := 2) (test_one ⟨rfl, by decide, .inl t.g_NoMember⟩) sc__law_no_member.nd rfl rfl (fun a oe cls dd pn hz hf => (pss_one (ps_ret (pe_and (pe_cmpR (op_eqD hr.u) (pe_xfG hz hf (pv 2)) (pv 1) (nomark _)) (pe_one (pe_callB (call_isX hz hf) (by rfl) t.f_isinstance bt_isinstance (pa_cons (pv 2) (pa_cons (pe_glob (v := .ref (He.ga K "HallError")) (by rfl) t.g_HallError rfl) pa_nil)))))))) .nil))
    (pss_one (ps_ret pe_bl))), ?_⟩
    wtm_at "cst"
    wtm_at "cgas"
    intro pn xe
    wtm_at "cgas"
    refine ⟨⟨p, r, tt, vs, s1.tI, x⟩, rfl, hh, hT, fun _ d2 H1 f1 hx => ?_, fun m z em hz => ?_⟩
    · refine g_wG t.xm_NoMember__NoMember fun a ha oe pn2 => ?_
      wtm_at "cgas"
      refine g_eqD (hd.fr f1) (hd.fr f1) hs hs (by decide) (by decide) ?_
      rw [eqv_refl d hs]
      wtm_at "cgas"
      exact k _ f1
    · subst em
      have : m < s1.tI.length := (List.getElem?_eq_some_iff.mp hz).1
      rw [whole_ok (by omega) (by omega)] at hw
      cases hw
def sp_made (K : PySem.W.Frag) : Sp := spOf (fun (a : V × PyData) => [a.1]) fun a H Q E => (∃ T, Th K H a.1 T) ∧ wholeV a.1 2 (some 5) = false ∧ Dp K H a.1 a.2 ∧ Shp 5 a.2 ∧ ∀ H1, Fr [] H H1 → Q (.bl true) H1
theorem ok__law_made (t : T K mg) : CalX P w K mg base 6 "_law_made" (sp_made K) [] := by
  obtain ⟨fd, F⟩ := t.D__law_made
  refine ⟨_, fd, ["thing"], [], F.ok sc__law_made (fun vs H Q E h => spOf_len h (fun _ => rfl)) (fun cdv A outer s H vs Q E hr h => ?body), t.g__law_made, F.kp, F.bindsN (fun _ _ _ _ _ _ us hl => match us, hl with | [_], _ => rfl), .nil⟩
  case body =>
    obtain ⟨⟨x, d⟩, rfl, hT, hw, hd, hs, k⟩ := h
    have xf1 := t.xf_NoNumber; have n1 := t.n_NoNumber_found; have e1 := t.ki_NoNumber__HallError
    refine ⟨_, (pss_cons (ps_tryG rfl rfl (takes_of rfl rfl rfl rfl) (fun W pn xe tk po => (pss_one (ps_expr (pc_mak (ok_PlainHall_init t) hr (by decide) tk (by rfl) (pa_cons (pv 0) pa_nil)))))
    (.named (i := 1) (test_one ⟨rfl, by decide, .inl t.g_NoNumber⟩) sc__law_made.nd rfl rfl (fun a oe cls dd pn hz hf => (pss_one (ps_ret (pe_and (pe_cmpR (op_eqD hr.u) (pe_xfG hz hf (pv 1)) (pv 0) (nomark _)) (pe_one (pe_callB (call_isX hz hf) (by rfl) t.f_isinstance bt_isinstance (pa_cons (pv 1) (pa_cons (pe_glob (v := .ref (He.ga K "HallError")) (by rfl) t.g_HallError rfl) pa_nil)))))))) .nil))
    (pss_one (ps_ret pe_bl))), ?_⟩
    wtm_at "cst"
    wtm_at "cgas"
    intro pn xe
    wtm_at "cgas"
    intro y dy hy hdy hne
    have f0 : Fr [] H (upd (upd H dy (.own y)) y (.ins (PC K) dy [])) := made_fr hy hdy hne
    refine ⟨⟨y, x⟩, rfl, ⟨dy, upd_same⟩, Th.fr0 hT f0, fun _ d2 H1 f1 hx => ?_, fun m em hz => ?_⟩
    · refine g_wG t.xm_NoNumber__NoNumber fun a ha oe pn2 => ?_
      have f2 := f0.trans f1
      wtm_at "cgas"
      refine g_eqD (hd.fr f2) (hd.fr f2) hs hs (by decide) (by decide) ?_
      rw [eqv_refl d hs]
      wtm_at "cgas"
      exact k _ f2
    · dsimp only at em hz
      rw [hz] at hw
      cases hw
def sp_stands (K : PySem.W.Frag) : Sp := spOf (fun (a : Addr × Addr × Addr × List V × Addr × Addr × Addr × List V × S) => [.ref a.1, .ref a.2.2.2.2.1]) fun a H Q E => match a with
  | ⟨p, r, t, vs, st, la, lb, us, s⟩ => HallAt K H p r t vs s.tI ∧ Ids H vs s.ids ∧ StAt H st la lb us s.tI ∧ Ids H us s.ids ∧ SOk s ∧ ∀ H1, Fr [] H H1 → Q (.bl true) H1
theorem ok__law_stands (t : T K mg) : CalX P w K mg base 6 "_law_stands" (sp_stands K) [] := by
  obtain ⟨fd, F⟩ := t.D__law_stands
  refine ⟨_, fd, ["plain", "state"], [], F.ok sc__law_stands (fun vs H Q E h => spOf_len h (fun _ => rfl)) (fun cdv A outer s H vs Q E hr h => ?body), t.g__law_stands, F.kp, F.bindsN (fun _ _ _ _ _ _ us hl => match us, hl with | [_, _], _ => rfl), .nil⟩
  case body =>
    obtain ⟨⟨p, r, tt, vs, st, la, lb, us, s1⟩, rfl, hh, hid, hst, hid2, hI, k⟩ := h
    have hh0 := hh
    obtain ⟨⟨dx, hi⟩, h1, h2, h0⟩ := hh0
    have hst0 := hst
    obtain ⟨g0, g1, g2, g3⟩ := hst0
    have hvl : vs.length = s1.ids.length := Paired.length hid
    refine ⟨_, (pss_cons (ps_set (i := 2) sc__law_stands.nd rfl (Or.inl rfl) (pc_met0 (ok_PlainHall_row t) hr (by decide) (takes_of rfl rfl rfl rfl) (pv 0)))
    (pss_cons (ps_set (i := 3) sc__law_stands.nd rfl (Or.inl rfl) (pe_tup (pa_cons (pe_callTy call_tuple_of (by rfl) t.f_tuple bt_tuple (pa_cons (pe_dget hr.u (pv 1) pe_str (fun _ _ => rfl)) pa_nil)) (pa_cons (pe_callTy call_tuple_of (by rfl) t.f_tuple bt_tuple (pa_cons (pe_dget hr.u (pv 1) pe_str (fun _ _ => rfl)) pa_nil)) pa_nil))))
    (pss_cons (ps_if (pw_or (pt_not (pt_val (pe_callB call_isi (by rfl) t.f_isinstance bt_isinstance (pa_cons (pv 2) (pa_cons (pe_bltn (v := .ty "list") (by rfl) t.f_list (by decide +kernel) rfl) pa_nil))))) (pw_or (pt_cmpR (op_neD hr.u) (pv 2) (pe_dget hr.u (pv 1) pe_str (fun _ _ => rfl)) (nomark _)) (pw_or1 (pt_cmpR op_ne (pe_callB (call_lenO (ok_PlainHall_len t) hr (by decide) px0) (by rfl) t.f_len bt_len (pa_cons (pv 0) pa_nil)) (pe_callB call_len_seq (by rfl) t.f_len bt_len (pa_cons (pv 2) pa_nil)) (nomark _))))).pt (pss_one (ps_ret pe_bl)) pss_nil)
    (pss_cons (ps_if (pt_cmpR (op_neD hr.u) (pc_met0 (ok_PlainHall_state t) hr (by decide) (takes_of rfl rfl rfl rfl) (pv 0)) (pv 3) (nomark _)) (pss_one (ps_ret pe_bl)) pss_nil)
    (pss_cons (ps_expr (pe_bm PySem.F.plainAttrs_list PySem.F.slot_list_append PySem.F.type_list_append mt_append (pv 2) (pa_cons (pe_tup (pa_cons pe_int (pa_cons pe_int pa_nil))) pa_nil)))
    (pss_cons (ps_for (passes_of rfl) rfl (pi_range1 (by rfl) t.f_range (pa_cons (pe_callB call_len_seq (by rfl) t.f_len bt_len (pa_cons (pe_dget hr.u (pv 1) pe_str (fun _ _ => rfl)) pa_nil)) pa_nil)) (pg_name (i := 4) sc__law_stands.nd rfl (Or.inl rfl))
    (pss_one (ps_if (pw_or (pt_cmpR op_ne (pc_met (ok_PlainHall_told_by t) hr (by decide) (takes_of rfl rfl rfl rfl) (pv 0) (pa_cons (pv 4) pa_nil)) (pe_ix ix_list (pe_dget hr.u (pv 1) pe_str (fun _ _ => rfl)) (pv 4) (fun _ _ => rfl)) (nomark _)) (pw_or1 (pt_val (pe_callB call_isi (by rfl) t.f_isinstance bt_isinstance (pa_cons (pc_met (ok_PlainHall_told_by t) hr (by decide) (takes_of rfl rfl rfl rfl) (pv 0) (pa_cons (pv 4) pa_nil)) (pa_cons (pe_bltn (v := .ty "bool") (by rfl) t.f_bool (by decide +kernel) rfl) pa_nil)))))).pt (pss_one (ps_ret pe_bl)) pss_nil)))
    (pss_one (ps_ret (pe_and (pe_cmpR (op_eqD hr.u) (pc_met0 (ok_PlainHall_row t) hr (by decide) (takes_of rfl rfl rfl rfl) (pv 0)) (pe_dget hr.u (pv 1) pe_str (fun _ _ => rfl)) (nomark _)) (pe_one (pe_not (pe_cmpR (op_ownI (fun _ _ => rfl) rfl (ok_PlainHall_eq t) hr (by decide) px0) (pv 0) (pv 3) (nomark _))))))))))))), ?_⟩
    wtm_at "cst"
    wtm_at "cgas"
    refine ⟨⟨p, r, tt, vs, s1.tI⟩, rfl, hh, fun q eq => ?_⟩
    wtm_at "cgas"
    rename_i y ey z ez u eu
    refine g_isi (.ty _) (th_lst (K := K) (by wtm_at "chp")).ty (kit_lst tok_lst) ?_
    wtm_at "cgas"
    have fa : Fr [] H (upd (upd (upd (upd H q (.lst vs)) y (.tup us)) z (.tup (s1.tI.map .int))) u (.tup [.ref y, .ref z])) := by wtm_at "cfr"
    refine g_neD (.lst (SqL.of (by wtm_at "chp")) (hid.kt fa.kt0).dp) (.lst (SqL.of (by wtm_at "chp")) (hid2.kt fa.kt0).dp) (.lst shp_ids) (.lst shp_ids) (by decide) (by decide) ?_
    rw [eqv_refl (m := 2) _ (.lst shp_ids)]
    wtm_at "cgas"
    refine g_lenO (by wtm_at "chp") ⟨⟨p, r, tt, vs, s1.tI⟩, rfl, hh.fr fa, vs.length, rfl, by have := hI.1; rw [sizeLine_eq]; omega, ?_⟩
    wtm_at "cgas"
    refine ⟨⟨p, r, tt, vs, s1.tI, s1.ids⟩, rfl, hh.fr fa, hid.kt fa.kt0, fun v H1 f1 d1 => ?_⟩
    have b1 : H1 u = some (.tup [.ref y, .ref z]) := by wtm_at "chp"
    have b2 : H1 y = some (.tup us) := by wtm_at "chp"
    have b3 : H1 z = some (.tup (s1.tI.map .int)) := by wtm_at "chp"
    have b4 : H1 q = some (.lst vs) := by wtm_at "chp"
    have d2 : Dp K H1 (.ref u) (stD s1.tI s1.ids) := .tup (SqT.of b1) (.cons (.tup (xs := us) (SqT.of b2) (hid2.kt (fa.trans f1).kt0).dp) (.cons (.tup (xs := s1.tI.map .int) (SqT.of b3) (DpAll.ints _)) .nil))
    have b5 : H p = some _ := hi
    have fb := fa.trans f1
    clear f1
    wtm_at "cgas"
    refine g_neD d1 d2 shp_st shp_st (by decide) (by decide) ?_
    rw [eqv_refl _ shp_st]
    wtm_at "cgas"
    refine ⟨tyV_lst (by wtm_at "chp"), ?_⟩
    wtm_at "cgas"
    rename_i z9 ez9
    refine g_app (by wtm_at "chp") (lt1000 (by have := hI.1; omega)) ?_
    generalize hHL : upd (upd H1 z9 (.tup [.int 0, .int 99])) q (.lst (vs ++ [.ref z9])) = HL
    have fc : Fr [] H HL := by
      rw [← hHL]
      wtm_at "cfr"
    have eu2 : HL u = some (.tup [.ref y, .ref z]) := by
      rw [← hHL]
      have : u ≠ q := ne_of b1 b4 (fun z => nomatch z)
      wtm_at "chp"
    clear hHL ez9 b1 b2 b3 b4 b5 fb d2 d1 fa eu ez ey
    have hlen : (s1.tI.map V.int).length = s1.told.length := by rw [List.length_map]; exact List.length_map _
    have hlen2 : s1.tI.length = s1.told.length := List.length_map _
    have hI4 := hI.2.2.2
    wtm_at "cgas"
    refine g_rng1q (j := ((s1.tI.map V.int).length : Nat)) (by omega) (by omega) ?_
    rw [hlen]
    refine for_range (fun _ σ H' => Fr [] HL H' ∧ ∃ o, σ = [some (.ref p), some (.ref st), some (.ref q), some (.ref u), o]) ⟨Fr.refl, _, rfl⟩ (fun i σ H' hi2 hP => ?_) (fun σ H' hP => ?_)
    · obtain ⟨f1, o, rfl⟩ := hP
      have hi3 : i < s1.told.length := hi2
      have f2 := fc.trans f1
      have hm : s1.tI[i]? = some s1.tI[i] := List.getElem?_eq_getElem (by omega)
      have hmt : (s1.tI.map V.int)[i]? = some (V.int s1.tI[i]) := by rw [List.getElem?_map, hm]; rfl
      have wk : wholeV (.int (0 + (i : Int))) 0 (some ((s1.tI.length : Int) - 1)) = true := whole_ok (by omega) (by omega)
      have call : ∀ (Q' : VK), Q' (.int s1.tI[i]) H' → ∀ E', sp_told K [.ref p, .int (0 + (i : Int))] H' Q' E' := fun Q' k E' => by
        refine ⟨⟨p, r, tt, vs, s1.tI, .int (0 + (i : Int))⟩, rfl, hh.fr f2, ⟨_, th_int⟩, fun z => ?_, fun m z em hz => ?_⟩
        · dsimp only at z
          rw [wk] at z
          cases z
        · have e : m = i := by have := V.int.inj em; omega
          rw [e] at hz
          dsimp only at hz
          rw [hm] at hz
          rw [← Option.some.inj hz]
          exact k
      wtm_at "cgas"
      refine call _ ?_ _
      wtm_at "cgas"
      refine g_ixL (SqL.of (by wtm_at "chp")) (by rw [Int.zero_add]; exact atI_n hmt) ?_
      wtm_at "cgas"
      refine call _ ?_ _
      wtm_at "cgas"
      refine g_isi (.ty _) (th_int (K := K)).ty (kit_bool tok_int) ?_
      wtm_at "cgas"
      exact ⟨f1, _, rfl⟩
    · obtain ⟨f1, o, rfl⟩ := hP
      have f2 := fc.trans f1
      wtm_at "cgas"
      refine ⟨⟨p, r, tt, vs, s1.tI⟩, rfl, hh.fr f2, fun a ea => ?_⟩
      wtm_at "cgas"
      have f3 : Fr [] H (upd H' a (.lst vs)) := f2.new ea
      refine g_eqD (.lst (SqL.of upd_same) (hid.kt f3.kt0).dp) (.lst (SqL.of (f3.use0 g1)) (hid2.kt f3.kt0).dp) (.lst shp_ids) (.lst shp_ids) (by decide) (by decide) ?_
      rw [eqv_refl (m := 2) _ (.lst shp_ids)]
      wtm_at "cgas"
      have e3 : (upd H' a (.lst vs)) u = some (.tup [.ref y, .ref z]) := upd_new ea (f1.use0 eu2)
      refine g_ownI (f3.use0 hi) (.tup e3) t.nf_tup ?_
      refine ⟨⟨p, r, tt, vs, s1.tI, s1.ids, .ref u⟩, rfl, hh.fr f3, hid.kt f3.kt0, .inl ⟨u, _, rfl, e3, ?_⟩⟩
      wtm_at "cgas"
      exact k _ f3
end
end K78
set_option Elab.async false
set_option linter.all false
set_option maxRecDepth 100000
set_option maxHeartbeats 1600000
namespace K78
open PySem PySem.Spec PyProof.Rows L2
local macro_rules | `(tactic| wtm_at "cg") => `(tactic| first
  | with_reducible refine g_seq ?_
  | with_reducible refine g_ifS ?_
  | with_reducible refine g_test ?_
  | with_reducible refine g_tB ?_
  | with_reducible refine g_or ?_
  | with_reducible refine g_and ?_
  | with_reducible refine g_not ?_
  | (focus ((with_reducible apply g_var); (case' h => exact rfl); (case' k => skip)))
  | with_reducible refine g_c ?_
  | with_reducible refine g_cb ?_
  | with_reducible refine g_cons ?_
  | with_reducible refine g_nil ?_
  | with_reducible refine g_op ?_
  | with_reducible refine g_un ?_
  | with_reducible refine g_fld ?_
  | (focus ((with_reducible apply g_fldq); (case' h => wtm_at "chp"); (case' c => wtm_at "ccls"); (case' n => wtm_at "ccls"); (case' l => exact rfl); (case' k => skip)))
  | with_reducible refine g_ret ?_
  | with_reducible refine g_asg ?_
  | with_reducible refine g_next ?_
  | with_reducible refine g_drop ?_
  | with_reducible refine g_cal ?_
  | with_reducible refine g_met ?_
  | (focus ((with_reducible apply g_metq); (case' h => wtm_at "chp"); (case' l => exact rfl); (case' k => skip)))
  | with_reducible refine g_orV ?_
  | with_reducible refine g_andV ?_
  | with_reducible refine g_notV ?_
  | with_reducible refine g_blV ?_
  | with_reducible refine g_ifE ?_
  | with_reducible refine g_tup ?_
  | with_reducible refine g_lst ?_
  | with_reducible refine g_sfld ?_
  | with_reducible refine g_mk1 ?_
  | with_reducible refine g_I0 ?_
  | (focus ((with_reducible apply g_eq); (case' h => exact rfl); (case' k => skip)))
  | (focus ((with_reducible apply g_ne); (case' h => exact rfl); (case' k => skip)))
  | with_reducible refine And.intro (Eq.refl V.non) ?_
  | (focus ((with_reducible apply g_T); (case' h => first | exact rfl | exact decide_eq_true rfl); (case' k => skip)))
  | (focus ((with_reducible apply g_F); (case' h => first | exact rfl | exact ndec | (focus ((with_reducible apply decide_eq_false); (intro z); (cases z); done))); (case' k => skip)))
  | (focus ((with_reducible apply g_lenL); (case' h => wtm_at "csql"); (case' k => skip)))
  | (focus ((with_reducible apply g_lenT); (case' h => wtm_at "csqt"); (case' k => skip)))
  | (focus ((with_reducible apply g_ixT); (case' h => wtm_at "csqt"); (case' e => exact rfl); (case' k => skip)))
  | (focus ((with_reducible apply g_ixL); (case' h => wtm_at "csql"); (case' e => exact rfl); (case' k => skip))))
local macro_rules | `(tactic| wtm_at "cgs") => `(tactic| (repeat wtm_at "cg"))
/- H a = some o -/
local macro_rules | `(tactic| wtm_at "chp") => `(tactic| first
  | with_reducible assumption
  | exact upd_same
  | (focus ((with_reducible apply upd_new); (case' n => with_reducible assumption); (case' h => wtm_at "chp")))
  | (focus ((with_reducible apply upd_off); (case' n => first | wtm_at "cne0" | wtm_at "cne"); (case' h => wtm_at "chp")))
  | (focus ((with_reducible apply Fr.use0); (case' f => with_reducible assumption); (case' e => wtm_at "chp")))
  | (focus ((with_reducible apply Fr.use); (case' f => with_reducible assumption); (case' e => wtm_at "chp"); (case' n => wtm_at "cnin")))
  | assumption)
local macro_rules | `(tactic| wtm_at "cnin") => `(tactic| first
  | assumption
  | exact List.not_mem_nil
  | (focus ((with_reducible apply not_mem_c); (case' h => wtm_at "cne"); (case' t => wtm_at "cnin"))))
local macro_rules | `(tactic| wtm_at "cne0") => `(tactic| first
  | with_reducible assumption
  | (with_reducible apply Ne.symm; with_reducible assumption))
local macro_rules | `(tactic| wtm_at "cne") => `(tactic| first
  | wtm_at "cne0"
  | (focus ((with_reducible apply ne_of_none); (case' h' => with_reducible assumption); (case' h => wtm_at "chp")))
  | (focus ((with_reducible apply Ne.symm); (with_reducible apply ne_of_none); (case' h' => with_reducible assumption); (case' h => wtm_at "chp"))))
local macro_rules | `(tactic| wtm_at "csqt") => `(tactic| first | assumption | exact SqT.of (by wtm_at "chp"))
local macro_rules | `(tactic| wtm_at "csql") => `(tactic| first | assumption | exact SqL.of (by wtm_at "chp"))
local macro_rules | `(tactic| wtm_at "cst") => `(tactic| ((try dsimp only [L2.start, List.map, List.length_cons, List.length_nil, List.replicate, Nat.reduceAdd, Nat.reduceSub]); (try simp only [List.append_nil, List.nil_append, List.cons_append])))
local macro_rules | `(tactic| wtm_at "ccls") => `(tactic| first | assumption | (rename_i t; exact t.c_PlainHall))
local macro_rules | `(tactic| wtm_at "cg") => `(tactic| first
  | (focus ((with_reducible apply g_sfldq); (case' h => wtm_at "chp"); (case' c => assumption); (case' n => assumption); (case' l => exact of_decide_eq_true rfl); (case' k => skip)))
  | (focus ((with_reducible apply g_tofL); (case' h => wtm_at "csql"); (case' k => skip)))
  | (focus ((with_reducible apply g_tofT); (case' h => wtm_at "csqt"); (case' k => skip)))
  | with_reducible refine g_bm ?_
  | with_reducible refine g_mak ?_
  | with_reducible refine g_augS ?_
  | with_reducible refine g_ipI ?_
  | with_reducible refine g_asgS ?_
  | with_reducible refine g_gName ?_
  | with_reducible refine g_for ?_
  | with_reducible refine g_disp ?_
  | with_reducible refine g_pnil ?_
  | with_reducible refine g_pcons ?_
  | with_reducible refine g_lc ?_
  | with_reducible refine g_U ?_
  | with_reducible refine g_dnew ?_
  | with_reducible refine g_xfG ?_
  | with_reducible refine g_dget ?_
  | with_reducible refine g_sl ?_
  | with_reducible refine g_part ?_
  | with_reducible refine g_partq ?_
  | with_reducible refine g_nopart ?_
  | with_reducible refine Or.inr (Exists.intro _ (And.intro (Eq.refl [V.bl _]) ?_))
  | with_reducible refine g_rng1 ?_
  | with_reducible refine g_itL ?_)
local macro_rules | `(tactic| wtm_at "cfr") => `(tactic| first
  | assumption
  | exact Fr.refl
  | (focus ((with_reducible apply Fr.new); (case' h => assumption); (case' f => wtm_at "cfr")))
  | (focus ((with_reducible apply Fr.mut); (case' h => wtm_at "cmem"); (case' f => wtm_at "cfr")))
  | (focus ((with_reducible apply Fr.mutN); (case' h => wtm_at "chn"); (case' f => wtm_at "cfr"))))
local macro_rules | `(tactic| wtm_at "cmem") => `(tactic| first
  | exact List.mem_cons_self
  | (refine List.mem_cons_of_mem _ ?_; wtm_at "cmem"))
local macro_rules | `(tactic| wtm_at "chn") => `(tactic| first
  | assumption
  | (focus ((with_reducible apply Fr.free0); (case' h => assumption); (case' f => wtm_at "cfr"))))
/- allocations and the like, names left -/
local macro_rules | `(tactic| wtm_at "cga") => `(tactic| first
  | wtm_at "cg"
  | (with_reducible refine And.intro le100 ?_; intro _ _)
  | (with_reducible refine g_all ?_; intro _ _)
  | (focus ((with_reducible apply g_dispE); (case' e => wtm_at "chp"); (case' k => skip)))
  | (focus ((with_reducible apply g_xfGq); (case' t => assumption); (case' n => assumption); (case' h => wtm_at "chp"); (case' l => exact rfl); (case' k => skip)))
  | (focus ((with_reducible apply g_isX); (case' h => wtm_at "chp"); (case' t => assumption); (case' e => assumption); (case' k => skip)))
  | (focus ((with_reducible apply g_rep); (case' h => wtm_at "chp"); (case' h1 => decide); (case' h2 => decide); (case' q => (intro _ _))))
  | (focus ((with_reducible apply g_cat); (case' h => wtm_at "chp"); (case' h2 => wtm_at "chp"); (case' l => exact le100); (case' k => (intro _ _))))
  | (focus ((with_reducible apply g_dgetK); (case' h => wtm_at "chp"); (case' e => wtm_at "cvv"); (case' k => skip))))
local macro_rules | `(tactic| wtm_at "cgas") => `(tactic| (repeat wtm_at "cga"))
local macro_rules | `(tactic| wtm_at "cvv") => `(tactic| first
  | with_reducible exact valV_hd
  | (focus ((with_reducible apply valV_tl); (case' h => decide); (case' e => wtm_at "cvv"))))
/- up to the next statement -/
local macro_rules | `(tactic| wtm_at "cgus") => `(tactic| (repeat ((fail_if_success (with_reducible refine g_seq ?_)); wtm_at "cga")))

section
variable {P : Program} {w : World} {K : PySem.W.Frag} {mg : Str → Option Value} {base : Heap}
def outD (ws : List Str) (d : PyData) : PyData := .tuple [.list (ws.map .str), d]
theorem OutAt.dp {H : Hp} {v : V} {ws : List Str} {d : PyData} (h : OutAt K H v ws d) : Dp K H v (outD ws d) := by
  obtain ⟨q, l, x, rfl, h1, h2, h3⟩ := h
  exact .tup (SqT.of h1) (.cons (.lst (SqL.of h2) (DpAll.strs _)) (.cons h3 .nil))
theorem OutAt.fr {H H1 : Hp} {v : V} {ws : List Str} {d : PyData} (h : OutAt K H v ws d) (f : Fr [] H H1) : OutAt K H1 v ws d := by
  obtain ⟨q, l, x, rfl, h1, h2, h3⟩ := h
  exact ⟨q, l, x, rfl, f.use0 h1, f.use0 h2, h3.fr f⟩
theorem shp_found {s : S} {d : DD} : Shp 3 (found s d) := by
  cases d with
  | add i n =>
    simp only [found]
    split
    · exact .tup (.cons .int (.cons .int .nil))
    · split
      · exact .lst (.cons (.tup (.cons .int (.cons .int .nil))) .nil)
      · exact .none
  | tell m =>
    simp only [found]
    split
    · exact .none
    · split
      · exact .int
      · exact .tup (.cons .int (.cons .int .nil))
theorem words_all {s : S} {d : DD} : (words s d = (["told"] : List Str)) ∨ (next s d = s ∧ (words s d = (["known", "family"] : List Str) ∨ words s d = (["lacks", "family"] : List Str) ∨ words s d = (["all told", "family"] : List Str))) := by
  cases d with
  | add i n =>
    by_cases c1 : (i, n) ∈ s.ids
    · exact .inr ⟨if_pos c1, .inl (if_pos c1)⟩
    · by_cases c2 : lackB s i n
      · exact .inr ⟨(if_neg c1).trans (if_pos c2), .inr (.inl ((if_neg c1).trans (if_pos c2)))⟩
      · exact .inl ((if_neg c1).trans (if_neg c2))
  | tell m =>
    by_cases c1 : s.told[m]? = some s.ids.length
    · exact .inr ⟨by simp only [next, c1, if_true], .inr (.inr (if_pos c1))⟩
    · exact .inl (if_neg c1)
theorem shp_words {s : S} {d : DD} : ShpAll 0 ((words s d).map .str) := by
  rcases words_all (s := s) (d := d) with h | ⟨_, h | h | h⟩ <;> rw [h]
  · exact .cons (.str (by decide +kernel)) .nil
  · exact .cons (.str (by decide +kernel)) (.cons (.str (by decide +kernel)) .nil)
  · exact .cons (.str (by decide +kernel)) (.cons (.str (by decide +kernel)) .nil)
  · exact .cons (.str (by decide +kernel)) (.cons (.str (by decide +kernel)) .nil)
theorem shp_out {s : S} {d : DD} : Shp 4 (outD (words s d) (found s d)) := .tup (.cons ⟨(Shp.lst shp_words).1, Nat.le_trans (Shp.lst shp_words).2 (by decide)⟩ (.cons shp_found .nil))
def told1 : PyData := .list [.str "told"]
theorem shp_told1 : Shp 1 told1 := .lst (.cons (.str (by decide +kernel)) .nil)
theorem eq_told {s : S} {d : DD} : PyData.eqv (.list ((words s d).map .str)) told1 = true ∨ (PyData.eqv (.list ((words s d).map .str)) told1 = false ∧ next s d = s) := by
  rcases words_all (s := s) (d := d) with h | ⟨e, h⟩
  · rw [h]
    exact .inl (eqv_refl (m := 1) told1 shp_told1)
  · refine .inr ⟨?_, e⟩
    rcases h with h | h | h <;> rw [h] <;> simp only [told1, List.map_cons, List.map_nil, PyData.eqv, PyData.eqvAll, Bool.and_false]
theorem DeedAt.kt {H H1 : Hp} {x : V} {d : DD} {k : Nat} (h : DeedAt H x d k) (f : KpT H H1) : DeedAt H1 x d k := by
  cases d with
  | add i n =>
    obtain ⟨⟨a, e, h1⟩, h2⟩ := h
    exact ⟨⟨a, e, f a _ h1⟩, h2⟩
  | tell m =>
    obtain ⟨⟨a, e, h1⟩, h2⟩ := h
    exact ⟨⟨a, e, f a _ h1⟩, h2⟩
theorem next_len {s : S} {d : DD} : (next s d).told.length = s.told.length := by
  cases d with
  | add i n =>
    simp only [next]
    split
    · rfl
    · split <;> rfl
  | tell m =>
    simp only [next]
    split
    · rfl
    · split
      · rfl
      · exact List.length_set ..
/-- the two sides' things stand apart -/
structure Apart (r t la lb : Addr) : Prop where
  ra : r ≠ la
  rb : r ≠ lb
  ta : t ≠ la
  tb : t ≠ lb
theorem HallAt.frA {H H1 : Hp} {p r t : Addr} {vs : List V} {told : List Int} {M : List Addr} (h : HallAt K H p r t vs told) (f : Fr M H H1) (h1 : p ∉ M) (h2 : r ∉ M) (h3 : t ∉ M) : HallAt K H1 p r t vs told :=
  ⟨h.ins.elim fun dx e => ⟨dx, f.use e h1⟩, f.use h.row h2, f.use h.tol h3, h.ne⟩
theorem StAt.frA {H H1 : Hp} {st a b : Addr} {vs : List V} {told : List Int} {M : List Addr} (h : StAt H st a b vs told) (f : Fr M H H1) (h1 : st ∉ M) (h2 : a ∉ M) (h3 : b ∉ M) : StAt H1 st a b vs told := ⟨f.use h.dic h1, f.use h.row h2, f.use h.tol h3, h.ne⟩
def sp_done (K : PySem.W.Frag) : Sp := spOf (fun (a : Addr × Addr × Addr × List V × Addr × Addr × Addr × List V × S × V × DD) => [.ref a.1, .ref a.2.2.2.2.1, a.2.2.2.2.2.2.2.2.2.1]) fun a H Q E => match a with
  | ⟨p, r, t, vs, st, la, lb, us, s, x, d⟩ => HallAt K H p r t vs s.tI ∧ Ids H vs s.ids ∧ StAt H st la lb us s.tI ∧ Ids H us s.ids ∧ SOk s ∧ SOk (next s d) ∧ Apart r t la lb ∧ DeedAt H x d s.told.length ∧
    ∀ vs' us' H1, Fr [r, t, la, lb] H H1 → HallAt K H1 p r t vs' (next s d).tI → Ids H1 vs' (next s d).ids → StAt H1 st la lb us' (next s d).tI → Ids H1 us' (next s d).ids → Q (.bl true) H1
theorem ok__law_done (t : T K mg) : CalX P w K mg base 7 "_law_done" (sp_done K) [] := by
  obtain ⟨fd, F⟩ := t.D__law_done
  refine ⟨_, fd, ["plain", "state", "deed"], [], F.ok sc__law_done (fun vs H Q E h => spOf_len h (fun _ => rfl)) (fun cdv A outer s H vs Q E hr h => ?body), t.g__law_done, F.kp, F.bindsN (fun _ _ _ _ _ _ us hl => match us, hl with | [_, _, _], _ => rfl), .nil⟩
  case body =>
    obtain ⟨⟨p, r, tt, vs, st, la, lb, us, s1, x, d⟩, rfl, hh, hid, hst, hid2, hI, hI2, hap, hd, k⟩ := h
    have hh0 := hh
    obtain ⟨⟨dx, hi⟩, h1, h2, h0⟩ := hh0
    have hst0 := hst
    obtain ⟨g0, g1, g2, g3⟩ := hst0
    have np1 : p ≠ la := ne_of hi g1 (fun z => nomatch z)
    have np2 : p ≠ lb := ne_of hi g2 (fun z => nomatch z)
    have ns1 : st ≠ r := ne_of g0 h1 (fun z => nomatch z)
    have ns2 : st ≠ tt := ne_of g0 h2 (fun z => nomatch z)
    refine ⟨_, (pss_cons (ps_set (i := 3) sc__law_done.nd rfl (Or.inl rfl) (pc_cal (ok__law_due t) hr (by decide) (takes_of rfl rfl rfl rfl) (by rfl) (pa_cons (pv 1) (pa_cons (pv 2) pa_nil))))
    (pss_cons (ps_if (pw_or (pt_cmpR (op_neD hr.u) (pc_cal (ok__law_did t) hr (by decide) (takes_of rfl rfl rfl rfl) (by rfl) (pa_cons (pv 0) (pa_cons (pv 2) pa_nil))) (pv 3) (nomark _)) (pw_or1 (pt_not (pt_val (pc_cal (ok__law_stands t) hr (by decide) (takes_of rfl rfl rfl rfl) (by rfl) (pa_cons (pv 0) (pa_cons (pv 1) pa_nil))))))).pt (pss_one (ps_ret pe_bl)) pss_nil)
    (pss_one (ps_ret (pe_or (pe_cmpR (op_eqD hr.u) (pe_ix ix_tup (pv 3) pe_int (fun _ _ => rfl)) (pe_lst (pa_cons pe_str pa_nil)) (nomark _)) (pe_one (pe_cmpR (op_eqD hr.u) (pc_cal (ok__law_did t) hr (by decide) (takes_of rfl rfl rfl rfl) (by rfl) (pa_cons (pv 0) (pa_cons (pv 2) pa_nil))) (pv 3) (nomark _)))))))), ?_⟩
    wtm_at "cst"
    wtm_at "cgas"
    refine ⟨⟨st, la, lb, us, s1, x⟩, rfl, hst, hid2, hI, d, hd, fun w1 us1 H1 f1 hst1 hid3 o1 => ?_⟩
    have kt1 : KpT H H1 := f1.kt fun b hb xs e => by
      rcases List.mem_cons.mp hb with rfl | hb
      · rw [g1] at e; cases e
      · rw [List.mem_singleton.mp hb, g2] at e; cases e
    have hhA := hh.frA f1 (by simp [np1, np2]) (by simp [hap.ra, hap.rb]) (by simp [hap.ta, hap.tb])
    wtm_at "cgas"
    refine ⟨⟨p, r, tt, vs, s1, x⟩, rfl, hhA, hid.kt kt1, hI, .inr ⟨d, hd.kt kt1, fun w2 vs2 H2 f2 hh2 hid4 o2 => ?_⟩⟩
    have hr1 := hhA.row
    have ht1 := hhA.tol
    have kt2 : KpT H1 H2 := f2.kt fun b hb xs e => by
      rcases List.mem_cons.mp hb with rfl | hb
      · rw [hr1] at e; cases e
      · rw [List.mem_singleton.mp hb, ht1] at e; cases e
    have cond1 : Cond H H1 [r, tt] := fun b hb => by
      rcases List.mem_cons.mp hb with rfl | hb
      · exact ⟨⟨_, h1⟩, fun xs e => by rw [hr1] at e; cases e⟩
      · rw [List.mem_singleton.mp hb]
        exact ⟨⟨_, h2⟩, fun xs e => by rw [ht1] at e; cases e⟩
    have o3 := o1 _ _ cond1 f2
    have hst2 := hst1.frA f2 (by simp [ns1, ns2]) (by simp [Ne.symm hap.ra, Ne.symm hap.ta]) (by simp [Ne.symm hap.rb, Ne.symm hap.tb])
    have fAll : Fr [r, tt, la, lb] H H2 := (f1.mono fun b hb => by simp at hb ⊢; rcases hb with rfl | rfl <;> simp).trans (f2.mono fun b hb => by simp at hb ⊢; rcases hb with rfl | rfl <;> simp)
    wtm_at "cgas"
    refine g_neD o2.at.dp o3.dp shp_out shp_out (by decide) (by decide) ?_
    rw [eqv_refl _ shp_out]
    wtm_at "cgas"
    refine ⟨⟨p, r, tt, vs2, st, la, lb, us1, next s1 d⟩, rfl, hh2, hid4, hst2, hid3.kt kt2, hI2, fun H3 f3 => ?_⟩
    have hh3 := hh2.fr f3
    have hid5 := hid4.kt f3.kt0
    have hst3 := hst2.fr f3
    have hid6 := (hid3.kt kt2).kt f3.kt0
    have o4 := o3.fr f3
    obtain ⟨q1, l1, v1, rfl, b1, b2, b3⟩ := id o4
    wtm_at "cgas"
    rename_i z ez
    have dl : Dp K (upd H3 z (.lst [.str "told"])) (.ref l1) (.list ((words s1 d).map .str)) := .lst (SqL.of (upd_new ez b2)) (DpAll.strs _)
    have f4 : Fr [] H2 (upd H3 z (.lst [.str "told"])) := f3.new ez
    refine g_eqD (e := told1) dl (.lst (SqL.of upd_same) (.cons (.str _) .nil)) (Shp.lst shp_words) shp_told1 (by decide) (by decide) ?_
    have hh4 := hh2.fr f4
    have hid7 := hid4.kt f4.kt0
    have hst4 := hst2.fr f4
    have hid8 := (hid3.kt kt2).kt f4.kt0
    have fB : Fr [r, tt, la, lb] H (upd H3 z (.lst [.str "told"])) := fAll.trans (f4.mono fun b hb => absurd hb (by simp))
    rcases eq_told (s := s1) (d := d) with et | ⟨et, en⟩
    · rw [et]
      wtm_at "cgas"
      exact k _ _ _ fB hh4 hid7 hst4 hid8
    · rw [et]
      have o5 := o3.fr f4
      generalize upd H3 z (.lst [.str "told"]) = H4 at *
      rw [en] at hh4 hid7
      have kt4 : KpT H H4 := (kt1.trans kt2).trans f4.kt0
      have hr4 := hh4.row
      have ht4 := hh4.tol
      wtm_at "cgas"
      refine ⟨⟨p, r, tt, vs2, s1, x⟩, rfl, hh4, hid7, hI, .inr ⟨d, hd.kt kt4, fun w5 vs5 H5 f5 hh5 hid9 o6 => ?_⟩⟩
      have o7 : OutAt K H5 (.ref q1) (words s1 d) (found s1 d) := o1 _ _ cond1 ((f2.trans (f4.mono fun b hb => absurd hb (by simp))).trans f5)
      have kt5 : KpT H4 H5 := f5.kt fun b hb xs e => by
        rcases List.mem_cons.mp hb with rfl | hb
        · rw [hr4] at e; cases e
        · rw [List.mem_singleton.mp hb, ht4] at e; cases e
      wtm_at "cgas"
      refine g_eqD o6.at.dp o7.dp shp_out shp_out (by decide) (by decide) ?_
      rw [eqv_refl _ shp_out]
      exact k _ _ _ (fB.trans (f5.mono fun b hb => by simp at hb ⊢; rcases hb with rfl | rfl <;> simp)) hh5 hid9 (hst4.frA f5 (by simp [ns1, ns2]) (by simp [Ne.symm hap.ra, Ne.symm hap.ta]) (by simp [Ne.symm hap.rb, Ne.symm hap.tb])) (hid8.kt kt5)
end
end K78
set_option Elab.async false
set_option linter.all false
set_option maxRecDepth 100000
set_option maxHeartbeats 1000000
namespace K78
open PySem PySem.Spec PyProof.Rows L2
local macro_rules | `(tactic| wtm_at "cg") => `(tactic| first
  | with_reducible refine g_seq ?_
  | with_reducible refine g_ifS ?_
  | with_reducible refine g_test ?_
  | with_reducible refine g_tB ?_
  | with_reducible refine g_or ?_
  | with_reducible refine g_and ?_
  | with_reducible refine g_not ?_
  | (focus ((with_reducible apply g_var); (case' h => exact rfl); (case' k => skip)))
  | with_reducible refine g_c ?_
  | with_reducible refine g_cb ?_
  | with_reducible refine g_cons ?_
  | with_reducible refine g_nil ?_
  | with_reducible refine g_op ?_
  | with_reducible refine g_un ?_
  | with_reducible refine g_fld ?_
  | (focus ((with_reducible apply g_fldq); (case' h => wtm_at "chp"); (case' c => wtm_at "ccls"); (case' n => wtm_at "ccls"); (case' l => exact rfl); (case' k => skip)))
  | with_reducible refine g_ret ?_
  | with_reducible refine g_asg ?_
  | with_reducible refine g_next ?_
  | with_reducible refine g_drop ?_
  | with_reducible refine g_cal ?_
  | with_reducible refine g_met ?_
  | (focus ((with_reducible apply g_metq); (case' h => wtm_at "chp"); (case' l => exact rfl); (case' k => skip)))
  | with_reducible refine g_orV ?_
  | with_reducible refine g_andV ?_
  | with_reducible refine g_notV ?_
  | with_reducible refine g_blV ?_
  | with_reducible refine g_ifE ?_
  | with_reducible refine g_tup ?_
  | with_reducible refine g_lst ?_
  | with_reducible refine g_sfld ?_
  | with_reducible refine g_mk1 ?_
  | with_reducible refine g_I0 ?_
  | (focus ((with_reducible apply g_eq); (case' h => exact rfl); (case' k => skip)))
  | (focus ((with_reducible apply g_ne); (case' h => exact rfl); (case' k => skip)))
  | with_reducible refine And.intro (Eq.refl V.non) ?_
  | (focus ((with_reducible apply g_T); (case' h => first | exact rfl | exact decide_eq_true rfl); (case' k => skip)))
  | (focus ((with_reducible apply g_F); (case' h => first | exact rfl | exact ndec | (focus ((with_reducible apply decide_eq_false); (intro z); (cases z); done))); (case' k => skip)))
  | (focus ((with_reducible apply g_lenL); (case' h => wtm_at "csql"); (case' k => skip)))
  | (focus ((with_reducible apply g_lenT); (case' h => wtm_at "csqt"); (case' k => skip)))
  | (focus ((with_reducible apply g_ixT); (case' h => wtm_at "csqt"); (case' e => exact rfl); (case' k => skip)))
  | (focus ((with_reducible apply g_ixL); (case' h => wtm_at "csql"); (case' e => exact rfl); (case' k => skip))))
local macro_rules | `(tactic| wtm_at "cgs") => `(tactic| (repeat wtm_at "cg"))
/- H a = some o -/
local macro_rules | `(tactic| wtm_at "chp") => `(tactic| first
  | with_reducible assumption
  | exact upd_same
  | (focus ((with_reducible apply upd_new); (case' n => with_reducible assumption); (case' h => wtm_at "chp")))
  | (focus ((with_reducible apply upd_off); (case' n => first | wtm_at "cne0" | wtm_at "cne"); (case' h => wtm_at "chp")))
  | (focus ((with_reducible apply Fr.use0); (case' f => with_reducible assumption); (case' e => wtm_at "chp")))
  | (focus ((with_reducible apply Fr.use); (case' f => with_reducible assumption); (case' e => wtm_at "chp"); (case' n => wtm_at "cnin")))
  | assumption)
local macro_rules | `(tactic| wtm_at "cnin") => `(tactic| first
  | assumption
  | exact List.not_mem_nil
  | (focus ((with_reducible apply not_mem_c); (case' h => wtm_at "cne"); (case' t => wtm_at "cnin"))))
local macro_rules | `(tactic| wtm_at "cne0") => `(tactic| first
  | with_reducible assumption
  | (with_reducible apply Ne.symm; with_reducible assumption))
local macro_rules | `(tactic| wtm_at "cne") => `(tactic| first
  | wtm_at "cne0"
  | (focus ((with_reducible apply ne_of_none); (case' h' => with_reducible assumption); (case' h => wtm_at "chp")))
  | (focus ((with_reducible apply Ne.symm); (with_reducible apply ne_of_none); (case' h' => with_reducible assumption); (case' h => wtm_at "chp"))))
local macro_rules | `(tactic| wtm_at "csqt") => `(tactic| first | assumption | exact SqT.of (by wtm_at "chp"))
local macro_rules | `(tactic| wtm_at "csql") => `(tactic| first | assumption | exact SqL.of (by wtm_at "chp"))
local macro_rules | `(tactic| wtm_at "cst") => `(tactic| ((try dsimp only [L2.start, List.map, List.length_cons, List.length_nil, List.replicate, Nat.reduceAdd, Nat.reduceSub]); (try simp only [List.append_nil, List.nil_append, List.cons_append])))
local macro_rules | `(tactic| wtm_at "ccls") => `(tactic| first | assumption | (rename_i t; exact t.c_PlainHall))
local macro_rules | `(tactic| wtm_at "cg") => `(tactic| first
  | (focus ((with_reducible apply g_sfldq); (case' h => wtm_at "chp"); (case' c => assumption); (case' n => assumption); (case' l => exact of_decide_eq_true rfl); (case' k => skip)))
  | (focus ((with_reducible apply g_tofL); (case' h => wtm_at "csql"); (case' k => skip)))
  | (focus ((with_reducible apply g_tofT); (case' h => wtm_at "csqt"); (case' k => skip)))
  | with_reducible refine g_bm ?_
  | with_reducible refine g_mak ?_
  | with_reducible refine g_augS ?_
  | with_reducible refine g_ipI ?_
  | with_reducible refine g_asgS ?_
  | with_reducible refine g_gName ?_
  | with_reducible refine g_for ?_
  | with_reducible refine g_disp ?_
  | with_reducible refine g_pnil ?_
  | with_reducible refine g_pcons ?_
  | with_reducible refine g_lc ?_
  | with_reducible refine g_U ?_
  | with_reducible refine g_dnew ?_
  | with_reducible refine g_xfG ?_
  | with_reducible refine g_dget ?_
  | with_reducible refine g_sl ?_
  | with_reducible refine g_part ?_
  | with_reducible refine g_partq ?_
  | with_reducible refine g_nopart ?_
  | with_reducible refine Or.inr (Exists.intro _ (And.intro (Eq.refl [V.bl _]) ?_))
  | with_reducible refine g_rng1 ?_
  | with_reducible refine g_itL ?_)
local macro_rules | `(tactic| wtm_at "cfr") => `(tactic| first
  | assumption
  | exact Fr.refl
  | (focus ((with_reducible apply Fr.new); (case' h => assumption); (case' f => wtm_at "cfr")))
  | (focus ((with_reducible apply Fr.mut); (case' h => wtm_at "cmem"); (case' f => wtm_at "cfr")))
  | (focus ((with_reducible apply Fr.mutN); (case' h => wtm_at "chn"); (case' f => wtm_at "cfr"))))
local macro_rules | `(tactic| wtm_at "cmem") => `(tactic| first
  | exact List.mem_cons_self
  | (refine List.mem_cons_of_mem _ ?_; wtm_at "cmem"))
local macro_rules | `(tactic| wtm_at "chn") => `(tactic| first
  | assumption
  | (focus ((with_reducible apply Fr.free0); (case' h => assumption); (case' f => wtm_at "cfr"))))
/- allocations and the like, names left -/
local macro_rules | `(tactic| wtm_at "cga") => `(tactic| first
  | wtm_at "cg"
  | (with_reducible refine And.intro le100 ?_; intro _ _)
  | (with_reducible refine g_all ?_; intro _ _)
  | (focus ((with_reducible apply g_dispE); (case' e => wtm_at "chp"); (case' k => skip)))
  | (focus ((with_reducible apply g_xfGq); (case' t => assumption); (case' n => assumption); (case' h => wtm_at "chp"); (case' l => exact rfl); (case' k => skip)))
  | (focus ((with_reducible apply g_isX); (case' h => wtm_at "chp"); (case' t => assumption); (case' e => assumption); (case' k => skip)))
  | (focus ((with_reducible apply g_rep); (case' h => wtm_at "chp"); (case' h1 => decide); (case' h2 => decide); (case' q => (intro _ _))))
  | (focus ((with_reducible apply g_cat); (case' h => wtm_at "chp"); (case' h2 => wtm_at "chp"); (case' l => exact le100); (case' k => (intro _ _))))
  | (focus ((with_reducible apply g_dgetK); (case' h => wtm_at "chp"); (case' e => wtm_at "cvv"); (case' k => skip))))
local macro_rules | `(tactic| wtm_at "cgas") => `(tactic| (repeat wtm_at "cga"))
local macro_rules | `(tactic| wtm_at "cvv") => `(tactic| first
  | with_reducible exact valV_hd
  | (focus ((with_reducible apply valV_tl); (case' h => decide); (case' e => wtm_at "cvv"))))
/- up to the next statement -/
local macro_rules | `(tactic| wtm_at "cgus") => `(tactic| (repeat ((fail_if_success (with_reducible refine g_seq ?_)); wtm_at "cga")))

section
variable {P : Program} {w : World} {K : PySem.W.Frag} {mg : Str → Option Value} {base : Heap}
theorem Deed.fr {H H1 : Hp} {v : V} {g : List V → Bool} {b : Bool} (h : Deed K H v g b) (f : Fr [] H H1) : Deed K H1 v g b := by
  cases h with
  | no h n => exact .no (h.fr f) n
  | tup e h t => exact .tup e (f.use0 h) fun x hx => Th.fr0 (t x hx) f
theorem BadDeed.fr {H H1 : Hp} {v : V} {m : Nat} (h : BadDeed K H v m) (f : Fr [] H H1) : BadDeed K H1 v m := ⟨h.1.fr f, h.2.fr f⟩
theorem bad_no {H : Hp} {v : V} {T : String} {m : Nat} (h : Th K H v T) (n : T ≠ "tuple") : BadDeed K H v m := ⟨.no h n, .no h n⟩
theorem bad_tup {H : Hp} {a : Addr} {xs : List V} {m : Nat} (h : H a = some (.tup xs)) (t : ThAll K H xs) (e1 : addB xs m = false) (e2 : tellB xs m = false) : BadDeed K H (.ref a) m :=
  ⟨e1 ▸ Deed.tup (f := fun xs => addB xs m) rfl h t, e2 ▸ Deed.tup (f := fun xs => tellB xs m) rfl h t⟩
theorem tha_nil {H : Hp} : ThAll K H [] := fun x hx => absurd hx (by simp)
theorem tha_cons {H : Hp} {v : V} {xs : List V} {T : String} (h : Th K H v T) (t : ThAll K H xs) : ThAll K H (v :: xs) := fun x hx => by
  rcases List.mem_cons.mp hx with rfl | hx
  · exact ⟨T, h⟩
  · exact t x hx
/-- a term whose answers are no deeds -/
def BadE (K : PySem.W.Frag) (σ : L2.St) (m : Nat) (te : TE) : Prop := ∀ (H : Hp) (Q : VK), (∀ v H1, Fr [] H H1 → BadDeed K H1 v m → Q v H1) → te σ H Q
def BadA (K : PySem.W.Frag) (σ : L2.St) (m n : Nat) (t : TA) : Prop := ∀ (H : Hp) (Q : List V → Hp → Prop), (∀ xs H1, Fr [] H H1 → xs.length = n → (∀ x ∈ xs, BadDeed K H1 x m) → Q xs H1) → t σ H Q
theorem bad_nil {σ : L2.St} {m : Nat} : BadA K σ m 0 tNil := fun H Q k => k [] H Fr.refl rfl (fun x hx => absurd hx (by simp))
theorem bad_cons {σ : L2.St} {m n : Nat} {te : TE} {t : TA} (h1 : BadE K σ m te) (h2 : BadA K σ m n t) : BadA K σ m (n + 1) (tCons te t) := fun H Q k => h1 H _ fun v H1 f1 b1 => h2 H1 _ fun xs H2 f2 e b2 =>
  k (v :: xs) H2 (f1.trans f2) (by rw [List.length_cons, e]) fun x hx => by
    rcases List.mem_cons.mp hx with rfl | hx
    · exact b1.fr f2
    · exact b2 x hx
local macro_rules | `(tactic| wtm_at "cth") => `(tactic| first
  | exact th_non | exact th_bl | exact th_int | exact th_str
  | (focus ((with_reducible apply th_lst); (case' h => wtm_at "chp")))
  | (focus ((with_reducible apply th_dK); (case' h => wtm_at "chp"))))
local macro_rules | `(tactic| wtm_at "ctha") => `(tactic| first
  | exact tha_nil
  | (focus ((with_reducible apply tha_cons); (case' h => wtm_at "cth"); (case' t => wtm_at "ctha"))))
local macro_rules | `(tactic| wtm_at "cbad") => `(tactic| first
  | (focus ((with_reducible apply bad_no); (case' h => wtm_at "cth"); (case' n => decide)))
  | (focus ((with_reducible apply bad_tup); (case' h => wtm_at "chp"); (case' t => wtm_at "ctha"); (case' e1 => first | exact rfl | (simp [addB, wholeV] <;> omega)); (case' e2 => first | exact rfl | (simp [tellB, wholeV] <;> omega)))))
local macro_rules | `(tactic| wtm_at "cbe") => `(tactic| (intro H Q k; wtm_at "cgas"; refine k _ _ ?_ ?_; (wtm_at "cfr"); (wtm_at "cbad")))
local macro_rules | `(tactic| wtm_at "cba") => `(tactic| first
  | exact bad_nil
  | (refine bad_cons ?_ ?_; (wtm_at "cbe"); (wtm_at "cba")))
theorem bad_more {σ : L2.St} {H : Hp} {a : Addr} {xs : List V} {m n k i : Nat} {t : TA} {D : Ends} (h : H a = some (.lst xs)) (hb : ∀ x ∈ xs, BadDeed K H x m) (hn : xs.length = n) (hi : σ[i]? = some (some (.ref a))) (ht : BadA K σ m k t) (hk : n + k ≤ 100)
    (c : ∀ b ys H1, Fr [] H H1 → H1 b = some (.lst ys) → ys.length = n + k → (∀ x ∈ ys, BadDeed K H1 x m) → D.nx (σ.set i (some (.ref b))) H1) : tAsg (tOp rCat (tVar i) (tLst t)) (gName i) D σ H := by
  refine g_asg (g_op (g_var hi (g_lst (ht _ _ fun xs2 H2 f2 l2 b2 => ⟨le100 (by omega), fun a2 ea2 => ?_⟩))))
  have e1 : H2 a = some (.lst xs) := f2.use0 h
  refine g_cat (upd_new ea2 e1) upd_same (le100 (by omega)) fun a3 ea3 => ?_
  have g : Fr [] H2 (upd (upd H2 a2 (.lst xs2)) a3 (.lst (xs ++ xs2))) := (Fr.refl.new ea2).new ea3
  refine c a3 (xs ++ xs2) _ (f2.trans g) upd_same (by rw [List.length_append]; omega) fun x hx => ?_
  rcases List.mem_append.mp hx with hx | hx
  · exact ((hb x hx).fr f2).fr g
  · exact (b2 x hx).fr g
theorem BadDeed.flat {H : Hp} {v : V} {m : Nat} (h : BadDeed K H v m) : flatB v = true ∨ ∃ a, v = .ref a := by
  have h1 := h.1
  generalize hb : false = b at h1
  cases h1 with
  | no h n => exact flat_of h
  | tup e h t => exact .inr ⟨_, e⟩
def sp_bad (K : PySem.W.Frag) : Sp := spOf (fun (a : Addr × Addr × Addr × List V × Addr × Addr × Addr × List V × S) => [.ref a.1, .ref a.2.2.2.2.1]) fun a H Q E => match a with
  | ⟨p, r, t, vs, st, la, lb, us, s⟩ => HallAt K H p r t vs s.tI ∧ Ids H vs s.ids ∧ StAt H st la lb us s.tI ∧ Ids H us s.ids ∧ SOk s ∧ ∀ H1, Fr [] H H1 → Q (.bl true) H1
theorem ok__law_bad (t : T K mg) : CalX P w K mg base 7 "_law_bad" (sp_bad K) [] := by
  obtain ⟨fd, F⟩ := t.D__law_bad
  refine ⟨_, fd, ["plain", "state"], [], F.ok sc__law_bad (fun vs H Q E h => spOf_len h (fun _ => rfl)) (fun cdv A outer s H vs Q E hr h => ?body), t.g__law_bad, F.kp, F.bindsN (fun _ _ _ _ _ _ us hl => match us, hl with | [_, _], _ => rfl), .nil⟩
  case body =>
    obtain ⟨⟨p, r, tt, vs, st, la, lb, us, s1⟩, rfl, hh, hid, hst, hid2, hI, k⟩ := h
    have hh0 := hh
    obtain ⟨⟨dx, hi⟩, h1, h2, h0⟩ := hh0
    have hst0 := hst
    obtain ⟨g0, g1, g2, g3⟩ := hst0
    have hlen : (s1.tI.map V.int).length = s1.told.length := by rw [List.length_map]; exact List.length_map _
    refine ⟨_, (pss_cons (ps_set (i := 2) sc__law_bad.nd rfl (Or.inl rfl) (pe_callB call_len_seq (by rfl) t.f_len bt_len (pa_cons (pe_dget hr.u (pv 1) pe_str (fun _ _ => rfl)) pa_nil)))
    (pss_cons (ps_set (i := 3) sc__law_bad.nd rfl (Or.inl rfl) (pe_lst (pa_cons pe_non (pa_cons pe_int (pa_cons pe_str (pa_cons (pe_lst (pa_cons pe_str (pa_cons pe_int pa_nil))) (pa_cons (pe_tup pa_nil) (pa_cons (pe_tup (pa_cons pe_str pa_nil)) (pa_cons (pe_tup (pa_cons pe_str (pa_cons (pv 2) pa_nil))) (pa_cons (pe_tup (pa_cons pe_str (pa_cons (pe_un un_neg pe_int) pa_nil))) pa_nil))))))))))
    (pss_cons (ps_set (i := 3) sc__law_bad.nd rfl (Or.inl rfl) (pe_op op_cat (pv 3) (pe_lst (pa_cons (pe_tup (pa_cons pe_str (pa_cons pe_bl pa_nil))) (pa_cons (pe_tup (pa_cons pe_str (pa_cons pe_int (pa_cons pe_int pa_nil)))) (pa_cons pe_dnewK (pa_cons (pe_tup (pa_cons pe_str (pa_cons pe_non pa_nil))) (pa_cons (pe_tup (pa_cons pe_str (pa_cons pe_str pa_nil))) (pa_cons (pe_tup (pa_cons pe_str (pa_cons (pe_lst (pa_cons pe_int pa_nil)) pa_nil))) pa_nil)))))))))
    (pss_cons (ps_set (i := 3) sc__law_bad.nd rfl (Or.inl rfl) (pe_op op_cat (pv 3) (pe_lst (pa_cons (pe_tup (pa_cons pe_str (pa_cons pe_int (pa_cons pe_int pa_nil)))) (pa_cons (pe_tup (pa_cons pe_str (pa_cons (pv 2) (pa_cons pe_int pa_nil)))) (pa_cons (pe_tup (pa_cons pe_str (pa_cons pe_int pa_nil))) (pa_cons (pe_tup (pa_cons pe_str (pa_cons pe_int (pa_cons pe_bl pa_nil)))) pa_nil)))))))
    (pss_cons (ps_set (i := 3) sc__law_bad.nd rfl (Or.inl rfl) (pe_op op_cat (pv 3) (pe_lst (pa_cons (pe_tup (pa_cons pe_str (pa_cons pe_int (pa_cons pe_str pa_nil)))) (pa_cons (pe_tup (pa_cons pe_str (pa_cons pe_non (pa_cons pe_int pa_nil)))) (pa_cons (pe_tup (pa_cons pe_str (pa_cons pe_bl (pa_cons pe_int pa_nil)))) (pa_cons (pe_tup (pa_cons pe_str (pa_cons pe_bl (pa_cons pe_int pa_nil)))) (pa_cons (pe_tup (pa_cons pe_str (pa_cons (pe_un un_neg pe_int) (pa_cons pe_int pa_nil)))) pa_nil))))))))
    (pss_cons (ps_set (i := 3) sc__law_bad.nd rfl (Or.inl rfl) (pe_op op_cat (pv 3) (pe_lst (pa_cons (pe_tup (pa_cons pe_str (pa_cons pe_int pa_nil))) (pa_cons (pe_tup (pa_cons pe_str (pa_cons pe_int (pa_cons pe_int (pa_cons pe_int pa_nil))))) (pa_cons (pe_tup (pa_cons (pe_lst (pa_cons pe_str pa_nil)) (pa_cons pe_int (pa_cons pe_int pa_nil)))) (pa_cons (pe_tup (pa_cons pe_str (pa_cons pe_int (pa_cons (pe_un un_neg pe_int) pa_nil)))) (pa_cons (pe_tup (pa_cons pe_str (pa_cons pe_int (pa_cons pe_non pa_nil)))) (pa_cons (pe_tup (pa_cons pe_str (pa_cons pe_str (pa_cons pe_int pa_nil)))) pa_nil)))))))))
    (pss_cons (ps_if (pt_not (pt_val (pe_callB (cr_all rfl) (by rfl) t.f_all bt_all (pa_cons (pe_lc (own := [("thing", 4)]) rfl sc__law_bad.nd (pi_list (pv 3)) (blkOk_by (own := [("thing", 4)]) (N := ["plain", "state", "members", "some", "thing"]) (sc := defScope s__law_bad) (by decide +kernel)) (fun _ _ _ _ _ => (pg_name (i := 4) sc__law_bad.nd rfl (Or.inl rfl))) (fun _ _ _ _ _ => pts_nil) (fun _ _ _ _ _ => (pe_cmpR (opK (r := rEqS) (K := K) rfl (op_eqS hr.u)) (pc_cal (ok__law_did t) hr (by decide) takes0 (by rfl) (pa_cons (pv 0) (pa_cons (pv 4) pa_nil))) (pe_tup (pa_cons (pe_lst (pa_cons pe_str (pa_cons pe_str pa_nil))) (pa_cons (pv 4) pa_nil))) (nomark _)))) pa_nil)))) (pss_one (ps_ret pe_bl)) pss_nil)
    (pss_one (ps_ret (pe_callB (cr_all rfl) (by rfl) t.f_all bt_all (pa_cons (pe_lc (own := [("thing", 4)]) rfl sc__law_bad.nd (pi_list (pe_lst (pa_cons (pv 2) (pa_cons (pe_un un_neg pe_int) (pa_cons pe_non (pa_cons pe_bl (pa_cons pe_str (pa_cons (pe_lst (pa_cons pe_int pa_nil)) (pa_cons (pe_tup (pa_cons pe_int pa_nil)) pa_nil))))))))) (blkOk_by (own := [("thing", 4)]) (N := ["plain", "state", "members", "some", "thing"]) (sc := defScope s__law_bad) (by decide +kernel)) (fun _ _ _ _ _ => (pg_name (i := 4) sc__law_bad.nd rfl (Or.inl rfl))) (fun _ _ _ _ _ => pts_nil) (fun _ _ _ _ _ => (pc_cal (ok__law_no_member t) hr (by decide) takes0 (by rfl) (pa_cons (pv 0) (pa_cons (pv 4) pa_nil))))) pa_nil))))))))))), ?_⟩
    wtm_at "cst"
    refine g_seq ?_
    wtm_at "cgus"
    rw [hlen]
    with_reducible refine g_seq ?_
    with_reducible refine g_asg ?_
    refine g_lst ?_
    refine (show BadA K _ s1.told.length 8 _ by wtm_at "cba") _ _ fun xs1 H1 f1 l1 b1 => ⟨le100 (by omega), fun a1 ea1 => ?_⟩
    wtm_at "cgus"
    with_reducible refine g_seq ?_
    refine bad_more (n := 8) (k := 6) upd_same (fun x hx => (b1 x hx).fr (Fr.refl.new ea1)) l1 rfl (by wtm_at "cba") (by decide) fun a2 xs2 H2 f2 e2 l2 b2 => ?_
    have f3 : Fr [] H H2 := (f1.new ea1).trans f2
    clear b1 l1 ea1 f1 f2
    wtm_at "cgus"
    with_reducible refine g_seq ?_
    refine bad_more (n := 14) (k := 4) e2 b2 l2 rfl (by wtm_at "cba") (by decide) fun a3 xs3 H3 f4 e3 l3 b3 => ?_
    have f5 : Fr [] H H3 := f3.trans f4
    clear b2 l2 e2 f3 f4
    wtm_at "cgus"
    with_reducible refine g_seq ?_
    refine bad_more (n := 18) (k := 5) e3 b3 l3 rfl (by wtm_at "cba") (by decide) fun a4 xs4 H4 f6 e4 l4 b4 => ?_
    have f7 : Fr [] H H4 := f5.trans f6
    clear b3 l3 e3 f5 f6
    wtm_at "cgus"
    with_reducible refine g_seq ?_
    refine bad_more (n := 23) (k := 6) e4 b4 l4 rfl (by wtm_at "cba") (by decide) fun a5 xs5 H5 f8 e5 l5 b5 => ?_
    have f9 : Fr [] H H5 := f7.trans f8
    clear b4 l4 e4 f7 f8
    wtm_at "cgus"
    with_reducible refine g_seq ?_
    wtm_at "cgas"
    refine g_itLq (SqL.of e5) fun D hD => ?_
    refine lc_all e5 hD (by omega) (fun x => rfl) (fun x hx H6 f10 Qe kQ => ?_) (fun H6 f10 eD => ?_)
    · have fA := f9.trans f10
      have bx := (b5 x hx).fr f10
      wtm_at "cgas"
      refine ⟨⟨p, r, tt, vs, s1, x⟩, rfl, hh.fr fA, hid.kt fA.kt0, hI, .inl ⟨bx, fun q l H7 f11 e7 e8 => ?_⟩⟩
      wtm_at "cgas"
      rename_i l2 el2 q2 eq2
      have d1 : Dp K (upd (upd H7 l2 (.lst [.str "no deed", .str "family"])) q2 (.tup [.ref l2, x])) (.ref l) (.list [.str "no deed", .str "family"]) := .lst (SqL.of (by wtm_at "chp")) (.cons (.str _) (.cons (.str _) .nil))
      have d2 : Dp K (upd (upd H7 l2 (.lst [.str "no deed", .str "family"])) q2 (.tup [.ref l2, x])) (.ref l2) (.list [.str "no deed", .str "family"]) := .lst (SqL.of (by wtm_at "chp")) (.cons (.str _) (.cons (.str _) .nil))
      have sd : Shp 1 (.list [.str "no deed", .str "family"]) := .lst (.cons (.str (by decide +kernel)) (.cons (.str (by decide +kernel)) .nil))
      refine g_eqS2 (by wtm_at "chp") upd_same (.inr ⟨_, _, d1, d2, sd.ok, sd.ok, eqv_refl _ sd⟩) (.inl ⟨rfl, bx.flat⟩) ?_
      exact kQ _ (by wtm_at "cfr")
    · have fA := f9.trans f10
      clear e5 b5 l5 f9 f10
      wtm_at "cgas"
      refine g_allT eD ?_
      wtm_at "cgas"
      rename_i z1 ez1 z2 ez2 z3 ez3
      have hlen2 : s1.tI.length = s1.told.length := List.length_map _
      have y1 : (upd (upd (upd H6 z1 (.lst [.int 0])) z2 (.tup [.int 0])) z3 (.lst [.int s1.told.length, .int (-1), .non, .bl true, .str "0", .ref z1, .ref z2])) z1 = some (.lst [.int 0]) := by wtm_at "chp"
      have y2 : (upd (upd (upd H6 z1 (.lst [.int 0])) z2 (.tup [.int 0])) z3 (.lst [.int s1.told.length, .int (-1), .non, .bl true, .str "0", .ref z1, .ref z2])) z2 = some (.tup [.int 0]) := by wtm_at "chp"
      have fB : Fr [] H (upd (upd (upd H6 z1 (.lst [.int 0])) z2 (.tup [.int 0])) z3 (.lst [.int s1.told.length, .int (-1), .non, .bl true, .str "0", .ref z1, .ref z2])) := by wtm_at "cfr"
      refine g_itLq (SqL.of upd_same) fun D2 hD2 => ?_
      refine lc_all upd_same hD2 (show (7 : Nat) < 1000 by decide) (fun x => rfl) (fun x hx H7 f11 Qe kQ => ?_) (fun H7 f11 eD7 => ?_)
      · have go : ∀ d, (∃ T, Th K H7 x T) → wholeV x 0 (some ((s1.tI.length : Int) - 1)) = false → Dp K H7 x d → Shp 5 d → sp_nomem K [.ref p, x] H7 Qe (fun _ _ _ => False) := fun d g1 g2 g3 g4 =>
          ⟨⟨p, r, tt, vs, s1, x, d⟩, rfl, hh.fr (fB.trans f11), g1, g2, g3, g4, kQ⟩
        wtm_at "cgas"
        simp only [List.mem_cons, List.not_mem_nil, or_false] at hx
        rcases hx with rfl | rfl | rfl | rfl | rfl | rfl | rfl
        · exact go _ ⟨_, th_int⟩ (by show (decide ((0 : Int) ≤ s1.told.length) && decide ((s1.told.length : Int) ≤ (s1.tI.length : Int) - 1)) = false; rw [decide_eq_false (show ¬ ((s1.told.length : Int) ≤ (s1.tI.length : Int) - 1) by omega), Bool.and_false]) (.int _) .int
        · exact go _ ⟨_, th_int⟩ rfl (.int _) .int
        · exact go _ ⟨_, th_non⟩ rfl .non .none
        · exact go _ ⟨_, th_bl⟩ rfl (.bl _) .bool
        · exact go _ ⟨_, th_str⟩ rfl (.str _) (.str (by decide +kernel))
        · exact go _ ⟨_, th_lst (f11.use0 y1)⟩ rfl (.lst (SqL.of (f11.use0 y1)) (.cons (.int _) .nil)) (.lst (.cons .int .nil))
        · exact go _ ⟨_, th_tup (f11.use0 y2)⟩ rfl (.tup (SqT.of (f11.use0 y2)) (.cons (.int _) .nil)) (.tup (.cons .int .nil))
      · wtm_at "cgas"
        refine g_allT eD7 ?_
        exact k _ (fB.trans f11)
end
end K78
set_option Elab.async false
set_option linter.all false
set_option maxRecDepth 100000
set_option maxHeartbeats 1000000
set_option pp.deepTerms false
set_option pp.deepTerms.threshold 8
set_option pp.maxSteps 20000
namespace K78
open PySem PySem.Spec PyProof.Rows L2
local macro_rules | `(tactic| wtm_at "cg") => `(tactic| first
  | with_reducible refine g_seq ?_
  | with_reducible refine g_ifS ?_
  | with_reducible refine g_test ?_
  | with_reducible refine g_tB ?_
  | with_reducible refine g_or ?_
  | with_reducible refine g_and ?_
  | with_reducible refine g_not ?_
  | (focus ((with_reducible apply g_var); (case' h => exact rfl); (case' k => skip)))
  | with_reducible refine g_c ?_
  | with_reducible refine g_cb ?_
  | with_reducible refine g_cons ?_
  | with_reducible refine g_nil ?_
  | with_reducible refine g_op ?_
  | with_reducible refine g_un ?_
  | with_reducible refine g_fld ?_
  | (focus ((with_reducible apply g_fldq); (case' h => wtm_at "chp"); (case' c => wtm_at "ccls"); (case' n => wtm_at "ccls"); (case' l => exact rfl); (case' k => skip)))
  | with_reducible refine g_ret ?_
  | with_reducible refine g_asg ?_
  | with_reducible refine g_next ?_
  | with_reducible refine g_drop ?_
  | with_reducible refine g_cal ?_
  | with_reducible refine g_met ?_
  | (focus ((with_reducible apply g_metq); (case' h => wtm_at "chp"); (case' l => exact rfl); (case' k => skip)))
  | with_reducible refine g_orV ?_
  | with_reducible refine g_andV ?_
  | with_reducible refine g_notV ?_
  | with_reducible refine g_blV ?_
  | with_reducible refine g_ifE ?_
  | with_reducible refine g_tup ?_
  | with_reducible refine g_lst ?_
  | with_reducible refine g_sfld ?_
  | with_reducible refine g_mk1 ?_
  | with_reducible refine g_I0 ?_
  | (focus ((with_reducible apply g_eq); (case' h => exact rfl); (case' k => skip)))
  | (focus ((with_reducible apply g_ne); (case' h => exact rfl); (case' k => skip)))
  | with_reducible refine And.intro (Eq.refl V.non) ?_
  | (focus ((with_reducible apply g_T); (case' h => first | exact rfl | exact decide_eq_true rfl); (case' k => skip)))
  | (focus ((with_reducible apply g_F); (case' h => first | exact rfl | exact ndec | (focus ((with_reducible apply decide_eq_false); (intro z); (cases z); done))); (case' k => skip)))
  | (focus ((with_reducible apply g_lenL); (case' h => wtm_at "csql"); (case' k => skip)))
  | (focus ((with_reducible apply g_lenT); (case' h => wtm_at "csqt"); (case' k => skip)))
  | (focus ((with_reducible apply g_ixT); (case' h => wtm_at "csqt"); (case' e => exact rfl); (case' k => skip)))
  | (focus ((with_reducible apply g_ixL); (case' h => wtm_at "csql"); (case' e => exact rfl); (case' k => skip))))
local macro_rules | `(tactic| wtm_at "cgs") => `(tactic| (repeat wtm_at "cg"))
/- H a = some o -/
local macro_rules | `(tactic| wtm_at "chp") => `(tactic| first
  | with_reducible assumption
  | exact upd_same
  | (focus ((with_reducible apply upd_new); (case' n => with_reducible assumption); (case' h => wtm_at "chp")))
  | (focus ((with_reducible apply upd_off); (case' n => first | wtm_at "cne0" | wtm_at "cne"); (case' h => wtm_at "chp")))
  | (focus ((with_reducible apply Fr.use0); (case' f => with_reducible assumption); (case' e => wtm_at "chp")))
  | (focus ((with_reducible apply Fr.use); (case' f => with_reducible assumption); (case' e => wtm_at "chp"); (case' n => wtm_at "cnin")))
  | assumption)
local macro_rules | `(tactic| wtm_at "cnin") => `(tactic| first
  | assumption
  | exact List.not_mem_nil
  | (focus ((with_reducible apply not_mem_c); (case' h => wtm_at "cne"); (case' t => wtm_at "cnin"))))
local macro_rules | `(tactic| wtm_at "cne0") => `(tactic| first
  | with_reducible assumption
  | (with_reducible apply Ne.symm; with_reducible assumption))
local macro_rules | `(tactic| wtm_at "cne") => `(tactic| first
  | wtm_at "cne0"
  | (focus ((with_reducible apply ne_of_none); (case' h' => with_reducible assumption); (case' h => wtm_at "chp")))
  | (focus ((with_reducible apply Ne.symm); (with_reducible apply ne_of_none); (case' h' => with_reducible assumption); (case' h => wtm_at "chp"))))
local macro_rules | `(tactic| wtm_at "csqt") => `(tactic| first | assumption | exact SqT.of (by wtm_at "chp"))
local macro_rules | `(tactic| wtm_at "csql") => `(tactic| first | assumption | exact SqL.of (by wtm_at "chp"))
local macro_rules | `(tactic| wtm_at "cst") => `(tactic| ((try dsimp only [L2.start, List.map, List.length_cons, List.length_nil, List.replicate, Nat.reduceAdd, Nat.reduceSub]); (try simp only [List.append_nil, List.nil_append, List.cons_append])))
local macro_rules | `(tactic| wtm_at "ccls") => `(tactic| first | assumption | (rename_i t; exact t.c_PlainHall))
local macro_rules | `(tactic| wtm_at "cg") => `(tactic| first
  | (focus ((with_reducible apply g_sfldq); (case' h => wtm_at "chp"); (case' c => assumption); (case' n => assumption); (case' l => exact of_decide_eq_true rfl); (case' k => skip)))
  | (focus ((with_reducible apply g_tofL); (case' h => wtm_at "csql"); (case' k => skip)))
  | (focus ((with_reducible apply g_tofT); (case' h => wtm_at "csqt"); (case' k => skip)))
  | with_reducible refine g_bm ?_
  | with_reducible refine g_mak ?_
  | with_reducible refine g_augS ?_
  | with_reducible refine g_ipI ?_
  | with_reducible refine g_asgS ?_
  | with_reducible refine g_gName ?_
  | with_reducible refine g_for ?_
  | with_reducible refine g_disp ?_
  | with_reducible refine g_pnil ?_
  | with_reducible refine g_pcons ?_
  | with_reducible refine g_lc ?_
  | with_reducible refine g_U ?_
  | with_reducible refine g_dnew ?_
  | with_reducible refine g_xfG ?_
  | with_reducible refine g_dget ?_
  | with_reducible refine g_sl ?_
  | with_reducible refine g_part ?_
  | with_reducible refine g_partq ?_
  | with_reducible refine g_nopart ?_
  | with_reducible refine Or.inr (Exists.intro _ (And.intro (Eq.refl [V.bl _]) ?_))
  | with_reducible refine g_rng1 ?_
  | with_reducible refine g_itL ?_)
local macro_rules | `(tactic| wtm_at "cfr") => `(tactic| first
  | assumption
  | exact Fr.refl
  | (focus ((with_reducible apply Fr.new); (case' h => assumption); (case' f => wtm_at "cfr")))
  | (focus ((with_reducible apply Fr.mut); (case' h => wtm_at "cmem"); (case' f => wtm_at "cfr")))
  | (focus ((with_reducible apply Fr.mutN); (case' h => wtm_at "chn"); (case' f => wtm_at "cfr"))))
local macro_rules | `(tactic| wtm_at "cmem") => `(tactic| first
  | exact List.mem_cons_self
  | (refine List.mem_cons_of_mem _ ?_; wtm_at "cmem"))
local macro_rules | `(tactic| wtm_at "chn") => `(tactic| first
  | assumption
  | (focus ((with_reducible apply Fr.free0); (case' h => assumption); (case' f => wtm_at "cfr"))))
/- allocations and the like, names left -/
local macro_rules | `(tactic| wtm_at "cga") => `(tactic| first
  | wtm_at "cg"
  | (with_reducible refine And.intro le100 ?_; intro _ _)
  | (with_reducible refine g_all ?_; intro _ _)
  | (focus ((with_reducible apply g_dispE); (case' e => wtm_at "chp"); (case' k => skip)))
  | (focus ((with_reducible apply g_xfGq); (case' t => assumption); (case' n => assumption); (case' h => wtm_at "chp"); (case' l => exact rfl); (case' k => skip)))
  | (focus ((with_reducible apply g_isX); (case' h => wtm_at "chp"); (case' t => assumption); (case' e => assumption); (case' k => skip)))
  | (focus ((with_reducible apply g_rep); (case' h => wtm_at "chp"); (case' h1 => decide); (case' h2 => decide); (case' q => (intro _ _))))
  | (focus ((with_reducible apply g_cat); (case' h => wtm_at "chp"); (case' h2 => wtm_at "chp"); (case' l => exact le100); (case' k => (intro _ _))))
  | (focus ((with_reducible apply g_dgetK); (case' h => wtm_at "chp"); (case' e => wtm_at "cvv"); (case' k => skip))))
local macro_rules | `(tactic| wtm_at "cgas") => `(tactic| (repeat wtm_at "cga"))
local macro_rules | `(tactic| wtm_at "cvv") => `(tactic| first
  | with_reducible exact valV_hd
  | (focus ((with_reducible apply valV_tl); (case' h => decide); (case' e => wtm_at "cvv"))))
/- up to the next statement -/
local macro_rules | `(tactic| wtm_at "cgus") => `(tactic| (repeat ((fail_if_success (with_reducible refine g_seq ?_)); wtm_at "cga")))

section
variable {P : Program} {w : World} {K : PySem.W.Frag} {mg : Str → Option Value} {base : Heap}
/-- one side: a hall and its law's state -/
structure SR where
  p : Addr
  r : Addr
  t : Addr
  st : Addr
  la : Addr
  lb : Addr
  vs : List V
  us : List V
  s : S
def SR.M (x : SR) : List Addr := [x.r, x.t, x.la, x.lb]
structure SideAt (K : PySem.W.Frag) (H : Hp) (x : SR) : Prop where
  hall : HallAt K H x.p x.r x.t x.vs x.s.tI
  ids : Ids H x.vs x.s.ids
  stat : StAt H x.st x.la x.lb x.us x.s.tI
  ids2 : Ids H x.us x.s.ids
  ok : SOk x.s
  few : x.s.ids.length ≤ 30
  ap : Apart x.r x.t x.la x.lb
theorem SideAt.fr {H H1 : Hp} {x : SR} (h : SideAt K H x) (f : Fr [] H H1) : SideAt K H1 x := ⟨h.hall.fr f, h.ids.kt f.kt0, h.stat.fr f, h.ids2.kt f.kt0, h.ok, h.few, h.ap⟩
theorem SideAt.lists {H : Hp} {x : SR} (h : SideAt K H x) : ∀ b ∈ x.M, ∃ xs, H b = some (.lst xs) := fun b hb => by
  simp only [SR.M, List.mem_cons, List.not_mem_nil, or_false] at hb
  rcases hb with rfl | rfl | rfl | rfl
  · exact ⟨_, h.hall.row⟩
  · exact ⟨_, h.hall.tol⟩
  · exact ⟨_, h.stat.row⟩
  · exact ⟨_, h.stat.tol⟩
theorem kt_of_lists {H H1 : Hp} {M : List Addr} (f : Fr M H H1) (h : ∀ b ∈ M, ∃ xs, H b = some (.lst xs)) : KpT H H1 := f.kt fun b hb xs e => by
  obtain ⟨ys, e2⟩ := h b hb
  rw [e] at e2
  cases e2
theorem SideAt.frM {H H1 : Hp} {x : SR} {M : List Addr} (h : SideAt K H x) (f : Fr M H H1) (hm : ∀ b ∈ M, ∃ xs, H b = some (.lst xs)) (d : ∀ b ∈ x.M, b ∉ M) : SideAt K H1 x := by
  have kt := kt_of_lists f hm
  have hp : x.p ∉ M := fun z => by
    obtain ⟨ys, e2⟩ := hm _ z
    obtain ⟨dx, e⟩ := h.hall.ins
    rw [e] at e2
    cases e2
  have hs : x.st ∉ M := fun z => by
    obtain ⟨ys, e2⟩ := hm _ z
    rw [h.stat.dic] at e2
    cases e2
  exact ⟨h.hall.frA f hp (d _ (by simp [SR.M])) (d _ (by simp [SR.M])), h.ids.kt kt, h.stat.frA f hs (d _ (by simp [SR.M])) (d _ (by simp [SR.M])), h.ids2.kt kt, h.ok, h.few, h.ap⟩
theorem mk_state {σ : L2.St} {H : Hp} {m : Nat} {Q : VK} (h : σ[15]? = some (some (.int m))) (hm : m ≤ 5) (k : ∀ st la lb H4, Fr [] H H4 → H st = none → H la = none → H lb = none → StAt H4 st la lb [] (List.replicate m 0) → Q (.ref st) H4) :
    tDisp [(tC (.str "row"), tLst tNil), (tC (.str "told"), tOp rRep (tLst (tCons (tC (.int 0)) tNil)) (tVar 15))] σ H Q := by
  wtm_at "cgas"
  refine g_var h ?_
  rename_i p hp a ha b hb
  refine g_rep (by wtm_at "chp") (by omega) (by omega) fun t ht => ?_
  have n1 : p ≠ a := by wtm_at "cne"
  have n2 : p ≠ b := by wtm_at "cne"
  have n3 : p ≠ t := by wtm_at "cne"
  have n4 : a ≠ t := by wtm_at "cne"
  wtm_at "cgas"
  have na : H a = none := by rw [upd_ne (Ne.symm n1)] at ha; exact ha
  have nt : H t = none := (Fr.refl.new hp).free0 (((Fr.refl.new ha).new hb).free0 ht)
  refine k p a t _ (((((Fr.refl.new hp).new ha).new hb).new ht).mutN hp) hp na nt ⟨upd_same, by wtm_at "chp", ?_, n4⟩
  rw [show List.map V.int (List.replicate m 0) = List.replicate m (V.int 0) from List.map_replicate]
  exact upd_off (Ne.symm n3) upd_same
def start (m : Nat) : S := ⟨[], List.replicate m 0⟩
theorem start_tI {m : Nat} : (start m).tI = List.replicate m 0 := List.map_replicate
theorem start_ok {m : Nat} (a : 2 ≤ m) (b : m ≤ 5) : SOk (start m) := ⟨(by decide : 0 < 1000), fun k hk => by rw [List.eq_of_mem_replicate hk]; exact Nat.zero_le _, by simpa [start] using a, by simpa [start] using b⟩
/-- what stands between two turns -/
structure LI (K : PySem.W.Frag) (So Sa : Addr) (H : Hp) (z : Nat → SR) : Prop where
  som : H So = some (.lst [.ref (z 0).p, .ref (z 1).p])
  sts : H Sa = some (.lst [.ref (z 0).st, .ref (z 1).st])
  side : ∀ i, i < 2 → SideAt K H (z i)
  dis : ∀ i, i < 2 → ∀ b ∈ (z i).M, b ∉ (z (1 - i)).M
  nS : ∀ i, i < 2 → So ∉ (z i).M
  nT : ∀ i, i < 2 → Sa ∉ (z i).M
  ne : So ≠ Sa
/-- a list of the call's own, apart from the sides -/
structure LC (H : Hp) (L So Sa : Addr) (xs : List V) (z : Nat → SR) : Prop where
  cut : H L = some (.lst xs)
  nL : ∀ i, i < 2 → L ∉ (z i).M
  nS : L ≠ So
  nT : L ≠ Sa
theorem ne_of_none_l {H : Hp} {a b : Addr} {o : HO} (h : H b = some o) (h' : H a = none) : a ≠ b := Ne.symm (ne_of_none h h')
section
variable {So Sa L q : Addr} {H H1 : Hp} {z : Nat → SR} {s : Nat} {vs us xs : List V} {s' : S}
theorem LI.fr (h : LI K So Sa H z) (f : Fr [] H H1) : LI K So Sa H1 z :=
  ⟨f.use0 h.som, f.use0 h.sts, fun i hi => (h.side i hi).fr f, h.dis, h.nS, h.nT, h.ne⟩
theorem LI.frM {M : List Addr} (h : LI K So Sa H z) (f : Fr M H H1) (hm : ∀ b ∈ M, ∃ xs, H b = some (.lst xs)) (d : ∀ i, i < 2 → ∀ b ∈ (z i).M, b ∉ M) (n1 : So ∉ M) (n2 : Sa ∉ M) : LI K So Sa H1 z :=
  ⟨f.use h.som n1, f.use h.sts n2, fun i hi => (h.side i hi).frM f hm (d i hi), h.dis, h.nS, h.nT, h.ne⟩
theorem LC.fr (h : LC H L So Sa xs z) (f : Fr [] H H1) : LC H1 L So Sa xs z := ⟨f.use0 h.cut, h.nL, h.nS, h.nT⟩
theorem LC.frM {M : List Addr} (h : LC H L So Sa xs z) (f : Fr M H H1) (n : L ∉ M) : LC H1 L So Sa xs z := ⟨f.use h.cut n, h.nL, h.nS, h.nT⟩
theorem LC.mk' (h : LI K So Sa H z) (f : Fr [] H H1) (n : H q = none) (e : H1 q = some (.lst xs)) : LC H1 q So Sa xs z :=
  ⟨e, fun i hi hm => (by
    obtain ⟨ys, e2⟩ := (h.side i hi).lists q hm
    rw [n] at e2
    cases e2), ne_of_none_l h.som n, ne_of_none_l h.sts n⟩
def upS (z : Nat → SR) (s : Nat) (vs us : List V) (s' : S) : Nat → SR := fun i => if i = s then { z i with vs := vs, us := us, s := s' } else z i
theorem upS_M {i : Nat} : (upS z s vs us s' i).M = (z i).M := by unfold upS; split <;> rfl
theorem upS_p {i : Nat} : (upS z s vs us s' i).p = (z i).p := by unfold upS; split <;> rfl
theorem upS_st {i : Nat} : (upS z s vs us s' i).st = (z i).st := by unfold upS; split <;> rfl
theorem upS_same : upS z s vs us s' s = { z s with vs := vs, us := us, s := s' } := if_pos rfl
theorem upS_ne {i : Nat} (h : i ≠ s) : upS z s vs us s' i = z i := if_neg h
theorem LI.done (h : LI K So Sa H z) (hs : s < 2) (f : Fr (z s).M H H1) (a : HallAt K H1 (z s).p (z s).r (z s).t vs s'.tI) (b : Ids H1 vs s'.ids) (c : StAt H1 (z s).st (z s).la (z s).lb us s'.tI) (d : Ids H1 us s'.ids) (ok : SOk s') (few : s'.ids.length ≤ 30) : LI K So Sa H1 (upS z s vs us s') where
  som := by rw [upS_p, upS_p]; exact f.use h.som (h.nS s hs)
  sts := by rw [upS_st, upS_st]; exact f.use h.sts (h.nT s hs)
  side i hi := by
    by_cases e : i = s
    · subst e
      rw [upS_same]
      exact ⟨a, b, c, d, ok, few, (h.side i hi).ap⟩
    · rw [upS_ne e]
      refine (h.side i hi).frM f ((h.side s hs).lists) (fun b hb => ?_)
      have := h.dis i hi b hb
      rwa [show 1 - i = s by omega] at this
  dis i hi := by rw [upS_M, upS_M]; exact h.dis i hi
  nS i hi := by rw [upS_M]; exact h.nS i hi
  nT i hi := by rw [upS_M]; exact h.nT i hi
  ne := h.ne
theorem LC.up (h : LC H L So Sa xs z) : LC H L So Sa xs (upS z s vs us s') := ⟨h.cut, fun i hi => by rw [upS_M]; exact h.nL i hi, h.nS, h.nT⟩
def twS (z : Nat → SR) (s : Nat) (nw : SR) : Nat → SR := fun i => if i = s then z s else nw
theorem twS_cases {nw : SR} (i : Nat) : (twS z s nw i = z s ∧ i = s) ∨ (twS z s nw i = nw ∧ i ≠ s) := by
  unfold twS
  split
  · exact .inl ⟨rfl, by assumption⟩
  · exact .inr ⟨rfl, by assumption⟩
theorem twS_same {nw : SR} : twS z s nw s = z s := if_pos rfl
theorem twS_other {nw : SR} (h : s < 2) : twS z s nw (1 - s) = nw := if_neg (by omega)
theorem LI.off {nw : SR} (h : LI K So Sa H z) (hs : s < 2) (fr : ∀ b ∈ nw.M, H b = none) : ∀ b ∈ (z s).M, b ∉ nw.M := fun b hb hn => by
  obtain ⟨ys, e2⟩ := (h.side s hs).lists b hb
  rw [fr b hn] at e2
  cases e2
theorem LI.twin {nw : SR} (h : LI K So Sa H z) (hs : s < 2) (f : Fr [So, Sa] H H1) (e1 : H1 So = some (.lst ([V.ref (z 0).p, .ref (z 1).p].set (1 - s) (.ref nw.p)))) (e2 : H1 Sa = some (.lst ([V.ref (z 0).st, .ref (z 1).st].set (1 - s) (.ref nw.st))))
    (n : SideAt K H1 nw) (fr : ∀ b ∈ nw.M, H b = none) : LI K So Sa H1 (twS z s nw) where
  som := by
    rcases (show s = 0 ∨ s = 1 by omega) with rfl | rfl
    · exact e1
    · exact e1
  sts := by
    rcases (show s = 0 ∨ s = 1 by omega) with rfl | rfl
    · exact e2
    · exact e2
  side i hi := by
    rcases twS_cases (z := z) (s := s) (nw := nw) i with ⟨e, _⟩ | ⟨e, _⟩ <;> rw [e]
    · refine (h.side s hs).frM f (fun b hb => ?_) (fun b hb hm => ?_)
      · rcases List.mem_cons.mp hb with rfl | hb
        · exact ⟨_, h.som⟩
        · rw [List.mem_singleton.mp hb]
          exact ⟨_, h.sts⟩
      · rcases List.mem_cons.mp hm with rfl | hm
        · exact h.nS s hs hb
        · rw [List.mem_singleton.mp hm] at hb
          exact h.nT s hs hb
    · exact n
  dis i hi := by
    rcases twS_cases (z := z) (s := s) (nw := nw) i with ⟨e, e3⟩ | ⟨e, e3⟩ <;> rw [e]
    · rw [e3, twS_other hs]
      exact h.off hs fr
    · rw [show 1 - i = s by omega, twS_same]
      exact fun b hb hn => h.off hs fr b hn hb
  nS i hi := by
    rcases twS_cases (z := z) (s := s) (nw := nw) i with ⟨e, e3⟩ | ⟨e, e3⟩ <;> rw [e]
    · exact h.nS s hs
    · exact fun hn => by
        have := fr _ hn
        rw [h.som] at this
        cases this
  nT i hi := by
    rcases twS_cases (z := z) (s := s) (nw := nw) i with ⟨e, e3⟩ | ⟨e, e3⟩ <;> rw [e]
    · exact h.nT s hs
    · exact fun hn => by
        have := fr _ hn
        rw [h.sts] at this
        cases this
  ne := h.ne
theorem LC.tw {nw : SR} (h : LC H L So Sa xs z) (hs : s < 2) (fr : ∀ b ∈ nw.M, H b = none) (f : Fr [So, Sa] H H1) : LC H1 L So Sa xs (twS z s nw) :=
  ⟨f.use h.cut (by simp [h.nS, h.nT]), fun i hi => (by
    rcases twS_cases (z := z) (s := s) (nw := nw) i with ⟨e, e3⟩ | ⟨e, e3⟩ <;> rw [e]
    · exact h.nL s hs
    · exact fun hn => by
        have := fr _ hn
        rw [h.cut] at this
        cases this), h.nS, h.nT⟩
/-- all that stands in a turn -/
structure B (K : PySem.W.Frag) (So Sa L q : Addr) (xs : List V) (H : Hp) (z : Nat → SR) : Prop where
  li : LI K So Sa H z
  lc : LC H L So Sa xs z
  pq : ∃ n : Int, LC H q So Sa [.int n] z
  ne : q ≠ L
theorem B.fr (b : B K So Sa L q xs H z) (f : Fr [] H H1) : B K So Sa L q xs H1 z := ⟨b.li.fr f, b.lc.fr f, b.pq.elim fun n h => ⟨n, h.fr f⟩, b.ne⟩
theorem B.start {n : Int} (h : LI K So Sa H z) (l : LC H L So Sa xs z) (f : Fr [] H H1) (hn : H q = none) (e : H1 q = some (.lst [.int n])) : B K So Sa L q xs H1 z :=
  ⟨h.fr f, l.fr f, ⟨n, LC.mk' h f hn e⟩, ne_of_none_l l.cut hn⟩
theorem B.take {k : Int} {Q : VK} {E : XK} (b : B K So Sa L q xs H z) (h0 : 0 < k) (h1 : k.natAbs.log2 < 9000) (c : ∀ (x : Int) H', 0 ≤ x → x < k → B K So Sa L q xs H' z → Fr [q] H H' → Q (.int x) H') : sp_take K [.ref q, .int k] H Q E := by
  obtain ⟨n, hq⟩ := b.pq
  refine ⟨⟨q, n, k⟩, rfl, hq.cut, h0, h1, ?_⟩
  have f : Fr [q] H (upd H q (.lst [.int (n / k)])) := Fr.refl.mut List.mem_cons_self
  have hm : ∀ b ∈ [q], ∃ xs, H b = some (.lst xs) := fun b hb => by
    rw [List.mem_singleton.mp hb]
    exact ⟨_, hq.cut⟩
  refine c _ _ (Int.emod_nonneg _ (Int.ne_of_gt h0)) (Int.emod_lt_of_pos _ h0) ⟨b.li.frM f hm (fun i hi b hb hm => ?_) (by simp [Ne.symm hq.nS]) (by simp [Ne.symm hq.nT]), b.lc.frM f (by simp [Ne.symm b.ne]), ⟨_, upd_same, hq.nL, hq.nS, hq.nT⟩, b.ne⟩ f
  rw [List.mem_singleton.mp hm] at hb
  exact hq.nL i hi hb
theorem B.tw {nw : SR} (b : B K So Sa L q xs H z) (hs : s < 2) (f : Fr [So, Sa] H H1) (e1 : H1 So = some (.lst ([V.ref (z 0).p, .ref (z 1).p].set (1 - s) (.ref nw.p)))) (e2 : H1 Sa = some (.lst ([V.ref (z 0).st, .ref (z 1).st].set (1 - s) (.ref nw.st))))
    (n : SideAt K H1 nw) (fr : ∀ b ∈ nw.M, H b = none) : B K So Sa L q xs H1 (twS z s nw) :=
  ⟨b.li.twin hs f e1 e2 n fr, b.lc.tw hs fr f, b.pq.elim fun n h => ⟨n, h.tw hs fr f⟩, b.ne⟩
theorem B.done (b : B K So Sa L q xs H z) (hs : s < 2) (f : Fr (z s).M H H1) (a : HallAt K H1 (z s).p (z s).r (z s).t vs s'.tI) (b2 : Ids H1 vs s'.ids) (c : StAt H1 (z s).st (z s).la (z s).lb us s'.tI) (d : Ids H1 us s'.ids) (ok : SOk s') (few : s'.ids.length ≤ 30) : B K So Sa L q xs H1 (upS z s vs us s') :=
  ⟨b.li.done hs f a b2 c d ok few, (b.lc.frM f (b.lc.nL s hs)).up, b.pq.elim fun n h => ⟨n, (h.frM f (h.nL s hs)).up⟩, b.ne⟩
theorem getp (hs : s < 2) : [V.ref (z 0).p, .ref (z 1).p][s]? = some (.ref (z s).p) := by
  rcases (show s = 0 ∨ s = 1 by omega) with rfl | rfl <;> rfl
theorem getst (hs : s < 2) : [V.ref (z 0).st, .ref (z 1).st][s]? = some (.ref (z s).st) := by
  rcases (show s = 0 ∨ s = 1 by omega) with rfl | rfl <;> rfl
end
theorem g_cut {t u : TS} {D : Ends} {σ : L2.St} {H : Hp} (I : L2.St → Hp → Prop) (h : ∀ N : L2.St → Hp → Prop, (∀ σ' H', I σ' H' → N σ' H') → t { D with nx := N } σ H) (k : ∀ σ' H', I σ' H' → u D σ' H') : tSeq t u D σ H := h _ k
theorem next_ok {s : S} {d : DD} (h : SOk s) (l : s.ids.length ≤ 30) : SOk (next s d) := by
  cases d with
  | add i n =>
    simp only [next]
    split
    · exact h
    · split
      · exact h
      · exact ⟨by simp; omega, fun k hk => by have := h.2.1 k hk; simp; omega, h.2.2⟩
  | tell m =>
    simp only [next]
    split
    · exact h
    · rename_i k e
      split
      · exact h
      · have hk := h.2.1 k (List.mem_of_getElem? e)
        refine ⟨h.1, fun k' hk' => ?_, by rw [List.length_set]; exact h.2.2.1, by rw [List.length_set]; exact h.2.2.2⟩
        rcases List.mem_or_eq_of_mem_set hk' with a | a
        · exact h.2.1 _ a
        · rw [a]
          show k + 1 ≤ s.ids.length
          omega
theorem next_few {s : S} {d : DD} (l : s.ids.length ≤ 30) (h : s.ids.length ≤ 29 ∨ ∃ m, d = .tell m) : (next s d).ids.length ≤ 30 := by
  cases d with
  | add i n =>
    rcases h with h | ⟨m, e⟩
    · simp only [next]
      split
      · exact l
      · split
        · exact l
        · simp; omega
    · cases e
  | tell m =>
    simp only [next]
    split
    · exact l
    · split <;> exact l
end
end K78
set_option Elab.async false
set_option linter.all false
set_option maxRecDepth 100000
set_option maxHeartbeats 1000000
set_option pp.deepTerms false
set_option pp.deepTerms.threshold 8
set_option pp.maxSteps 20000
namespace K78
open PySem PySem.Spec PyProof.Rows L2
local macro_rules | `(tactic| wtm_at "cg") => `(tactic| first
  | with_reducible refine g_seq ?_
  | with_reducible refine g_ifS ?_
  | with_reducible refine g_test ?_
  | with_reducible refine g_tB ?_
  | with_reducible refine g_or ?_
  | with_reducible refine g_and ?_
  | with_reducible refine g_not ?_
  | (focus ((with_reducible apply g_var); (case' h => exact rfl); (case' k => skip)))
  | with_reducible refine g_c ?_
  | with_reducible refine g_cb ?_
  | with_reducible refine g_cons ?_
  | with_reducible refine g_nil ?_
  | with_reducible refine g_op ?_
  | with_reducible refine g_un ?_
  | with_reducible refine g_fld ?_
  | (focus ((with_reducible apply g_fldq); (case' h => wtm_at "chp"); (case' c => wtm_at "ccls"); (case' n => wtm_at "ccls"); (case' l => exact rfl); (case' k => skip)))
  | with_reducible refine g_ret ?_
  | with_reducible refine g_asg ?_
  | with_reducible refine g_next ?_
  | with_reducible refine g_drop ?_
  | with_reducible refine g_cal ?_
  | with_reducible refine g_met ?_
  | (focus ((with_reducible apply g_metq); (case' h => wtm_at "chp"); (case' l => exact rfl); (case' k => skip)))
  | with_reducible refine g_orV ?_
  | with_reducible refine g_andV ?_
  | with_reducible refine g_notV ?_
  | with_reducible refine g_blV ?_
  | with_reducible refine g_ifE ?_
  | with_reducible refine g_tup ?_
  | with_reducible refine g_lst ?_
  | with_reducible refine g_sfld ?_
  | with_reducible refine g_mk1 ?_
  | with_reducible refine g_I0 ?_
  | (focus ((with_reducible apply g_eq); (case' h => exact rfl); (case' k => skip)))
  | (focus ((with_reducible apply g_ne); (case' h => exact rfl); (case' k => skip)))
  | with_reducible refine And.intro (Eq.refl V.non) ?_
  | (focus ((with_reducible apply g_T); (case' h => first | exact rfl | exact decide_eq_true rfl); (case' k => skip)))
  | (focus ((with_reducible apply g_F); (case' h => first | exact rfl | exact ndec | (focus ((with_reducible apply decide_eq_false); (intro z); (cases z); done))); (case' k => skip)))
  | (focus ((with_reducible apply g_lenL); (case' h => wtm_at "csql"); (case' k => skip)))
  | (focus ((with_reducible apply g_lenT); (case' h => wtm_at "csqt"); (case' k => skip)))
  | (focus ((with_reducible apply g_ixT); (case' h => wtm_at "csqt"); (case' e => exact rfl); (case' k => skip)))
  | (focus ((with_reducible apply g_ixL); (case' h => wtm_at "csql"); (case' e => exact rfl); (case' k => skip))))
local macro_rules | `(tactic| wtm_at "cgs") => `(tactic| (repeat wtm_at "cg"))
/- H a = some o -/
local macro_rules | `(tactic| wtm_at "chp") => `(tactic| first
  | with_reducible assumption
  | exact upd_same
  | (focus ((with_reducible apply upd_new); (case' n => with_reducible assumption); (case' h => wtm_at "chp")))
  | (focus ((with_reducible apply upd_off); (case' n => first | wtm_at "cne0" | wtm_at "cne"); (case' h => wtm_at "chp")))
  | (focus ((with_reducible apply Fr.use0); (case' f => with_reducible assumption); (case' e => wtm_at "chp")))
  | (focus ((with_reducible apply Fr.use); (case' f => with_reducible assumption); (case' e => wtm_at "chp"); (case' n => wtm_at "cnin")))
  | assumption)
local macro_rules | `(tactic| wtm_at "cnin") => `(tactic| first
  | assumption
  | exact List.not_mem_nil
  | (focus ((with_reducible apply not_mem_c); (case' h => wtm_at "cne"); (case' t => wtm_at "cnin"))))
local macro_rules | `(tactic| wtm_at "cne0") => `(tactic| first
  | with_reducible assumption
  | (with_reducible apply Ne.symm; with_reducible assumption))
local macro_rules | `(tactic| wtm_at "cne") => `(tactic| first
  | wtm_at "cne0"
  | (focus ((with_reducible apply ne_of_none); (case' h' => with_reducible assumption); (case' h => wtm_at "chp")))
  | (focus ((with_reducible apply Ne.symm); (with_reducible apply ne_of_none); (case' h' => with_reducible assumption); (case' h => wtm_at "chp"))))
local macro_rules | `(tactic| wtm_at "csqt") => `(tactic| first | assumption | exact SqT.of (by wtm_at "chp"))
local macro_rules | `(tactic| wtm_at "csql") => `(tactic| first | assumption | exact SqL.of (by wtm_at "chp"))
local macro_rules | `(tactic| wtm_at "cst") => `(tactic| ((try dsimp only [L2.start, List.map, List.length_cons, List.length_nil, List.replicate, Nat.reduceAdd, Nat.reduceSub]); (try simp only [List.append_nil, List.nil_append, List.cons_append])))
local macro_rules | `(tactic| wtm_at "ccls") => `(tactic| first | assumption | (rename_i t; exact t.c_PlainHall))
local macro_rules | `(tactic| wtm_at "cg") => `(tactic| first
  | (focus ((with_reducible apply g_sfldq); (case' h => wtm_at "chp"); (case' c => assumption); (case' n => assumption); (case' l => exact of_decide_eq_true rfl); (case' k => skip)))
  | (focus ((with_reducible apply g_tofL); (case' h => wtm_at "csql"); (case' k => skip)))
  | (focus ((with_reducible apply g_tofT); (case' h => wtm_at "csqt"); (case' k => skip)))
  | with_reducible refine g_bm ?_
  | with_reducible refine g_mak ?_
  | with_reducible refine g_augS ?_
  | with_reducible refine g_ipI ?_
  | with_reducible refine g_asgS ?_
  | with_reducible refine g_gName ?_
  | with_reducible refine g_for ?_
  | with_reducible refine g_disp ?_
  | with_reducible refine g_pnil ?_
  | with_reducible refine g_pcons ?_
  | with_reducible refine g_lc ?_
  | with_reducible refine g_U ?_
  | with_reducible refine g_dnew ?_
  | with_reducible refine g_xfG ?_
  | with_reducible refine g_dget ?_
  | with_reducible refine g_sl ?_
  | with_reducible refine g_part ?_
  | with_reducible refine g_partq ?_
  | with_reducible refine g_nopart ?_
  | with_reducible refine Or.inr (Exists.intro _ (And.intro (Eq.refl [V.bl _]) ?_))
  | with_reducible refine g_rng1 ?_
  | with_reducible refine g_itL ?_)
local macro_rules | `(tactic| wtm_at "cfr") => `(tactic| first
  | assumption
  | exact Fr.refl
  | (focus ((with_reducible apply Fr.new); (case' h => assumption); (case' f => wtm_at "cfr")))
  | (focus ((with_reducible apply Fr.mut); (case' h => wtm_at "cmem"); (case' f => wtm_at "cfr")))
  | (focus ((with_reducible apply Fr.mutN); (case' h => wtm_at "chn"); (case' f => wtm_at "cfr"))))
local macro_rules | `(tactic| wtm_at "cmem") => `(tactic| first
  | exact List.mem_cons_self
  | (refine List.mem_cons_of_mem _ ?_; wtm_at "cmem"))
local macro_rules | `(tactic| wtm_at "chn") => `(tactic| first
  | assumption
  | (focus ((with_reducible apply Fr.free0); (case' h => assumption); (case' f => wtm_at "cfr"))))
/- allocations and the like, names left -/
local macro_rules | `(tactic| wtm_at "cga") => `(tactic| first
  | wtm_at "cg"
  | (with_reducible refine And.intro le100 ?_; intro _ _)
  | (with_reducible refine g_all ?_; intro _ _)
  | (focus ((with_reducible apply g_dispE); (case' e => wtm_at "chp"); (case' k => skip)))
  | (focus ((with_reducible apply g_xfGq); (case' t => assumption); (case' n => assumption); (case' h => wtm_at "chp"); (case' l => exact rfl); (case' k => skip)))
  | (focus ((with_reducible apply g_isX); (case' h => wtm_at "chp"); (case' t => assumption); (case' e => assumption); (case' k => skip)))
  | (focus ((with_reducible apply g_rep); (case' h => wtm_at "chp"); (case' h1 => decide); (case' h2 => decide); (case' q => (intro _ _))))
  | (focus ((with_reducible apply g_cat); (case' h => wtm_at "chp"); (case' h2 => wtm_at "chp"); (case' l => exact le100); (case' k => (intro _ _))))
  | (focus ((with_reducible apply g_dgetK); (case' h => wtm_at "chp"); (case' e => wtm_at "cvv"); (case' k => skip))))
local macro_rules | `(tactic| wtm_at "cgas") => `(tactic| (repeat wtm_at "cga"))
local macro_rules | `(tactic| wtm_at "cvv") => `(tactic| first
  | with_reducible exact valV_hd
  | (focus ((with_reducible apply valV_tl); (case' h => decide); (case' e => wtm_at "cvv"))))
/- up to the next statement -/
local macro_rules | `(tactic| wtm_at "cgus") => `(tactic| (repeat ((fail_if_success (with_reducible refine g_seq ?_)); wtm_at "cga")))

section
variable {P : Program} {w : World} {K : PySem.W.Frag} {mg : Str → Option Value} {base : Heap}
def sp_law (K : PySem.W.Frag) : Sp := spOf (fun (a : Addr × List Int) => [.ref a.1]) fun a H Q E => SqL K H a.1 (a.2.map .int) ∧ ∀ H1, Q (.bl true) H1
theorem fon_law (t : T K mg) {fd : FuncData} (F : FunD K "law" "law" (defArgs s_law) (defBody s_law) (defScope s_law) [] [] (He.fAd K d_law.at_) fd) : FnOk P w K mg base (L2.CX P w) 9 (He.fAd K d_law.at_) fd ["script"] (sp_law K) := by
  refine F.ok sc_law (fun vs H Q E h => spOf_len h (fun _ => rfl)) (fun cdv A outer s H vs Q E hr h => ?body)
  case body =>
    obtain ⟨⟨sc, ns⟩, rfl, hsc, k⟩ := h
    dsimp only at hsc k
    refine ⟨_, (pss_cons (ps_set (i := 1) sc_law.nd rfl (Or.inl rfl) (pe_lst (pa_cons (pe_op op_add pe_int (pe_op op_mod (pc_cal (ok__law_cell_at t) hr (by decide) (takes_of rfl rfl rfl rfl) (by rfl) (pa_cons (pv 0) (pa_cons pe_int pa_nil))) pe_int)) (pa_cons (pe_op op_add pe_int (pe_op op_mod (pe_op op_fdiv (pc_cal (ok__law_cell_at t) hr (by decide) (takes_of rfl rfl rfl rfl) (by rfl) (pa_cons (pv 0) (pa_cons pe_int pa_nil))) pe_int) pe_int)) pa_nil))))
    (pss_cons (ps_set (i := 2) sc_law.nd rfl (Or.inl rfl) (pe_lst (pa_cons (pc_mak (ok_PlainHall_init t) hr (by decide) (takes_of rfl rfl rfl rfl) (by rfl) (pa_cons (pe_ix ix_list (pv 1) pe_int (fun _ _ => rfl)) pa_nil)) (pa_cons (pc_mak (ok_PlainHall_init t) hr (by decide) (takes_of rfl rfl rfl rfl) (by rfl) (pa_cons (pe_ix ix_list (pv 1) pe_int (fun _ _ => rfl)) pa_nil)) pa_nil))))
    (pss_cons (ps_setLc (i := 3) (own := [("size", 15)]) rfl sc_law.nd rfl rfl (sw_true rfl rfl rfl (by decide +kernel)) (pi_list (pv 1)) (blkOk_by (own := [("size", 15)]) (N := ["script", "sizes", "some", "states", "cell", "pool", "side", "way", "twin", "far", "state", "member", "number", "deed", "kept", "size", "thing", "ident"]) (sc := defScope s_law) (by decide +kernel)) (fun _ _ _ _ _ => (pg_name (i := 15) sc_law.nd rfl (Or.inl rfl))) (fun _ _ _ _ _ => pts_nil) (fun _ _ _ _ _ => (pe_disp (pps_cons pe_str (pe_lst pa_nil) (pps_cons pe_str (pe_op op_rep (pe_lst (pa_cons pe_int pa_nil)) (pv 15)) pps_nil)) (by rfl) (by rfl) (fun z => by cases z) (by decide))))
    (pss_cons (ps_for (passes_of rfl) rfl (pi_list (pe_slice sl_list (pv 0) (po_some pe_int) (po_some pe_int))) (pg_name (i := 4) sc_law.nd rfl (Or.inl rfl))
    (pss_cons (ps_set (i := 5) sc_law.nd rfl (Or.inl rfl) (pc_cal (ok__law_pool t) hr (by decide) (takes_of rfl rfl rfl rfl) (by rfl) (pa_cons (pv 4) pa_nil)))
    (pss_cons (ps_set (i := 6) sc_law.nd rfl (Or.inl rfl) (pc_cal (ok__law_take t) hr (by decide) (takes_of rfl rfl rfl rfl) (by rfl) (pa_cons (pv 5) (pa_cons pe_int pa_nil))))
    (pss_cons (ps_set (i := 7) sc_law.nd rfl (Or.inl rfl) (pc_cal (ok__law_take t) hr (by decide) (takes_of rfl rfl rfl rfl) (by rfl) (pa_cons (pv 5) (pa_cons pe_int pa_nil))))
    (pss_cons (ps_set (i := 8) sc_law.nd rfl (Or.inl rfl) (pc_cal (ok__law_take t) hr (by decide) (takes_of rfl rfl rfl rfl) (by rfl) (pa_cons (pv 5) (pa_cons pe_int pa_nil))))
    (pss_cons (ps_set (i := 9) sc_law.nd rfl (Or.inl rfl) (pc_cal (ok__law_take t) hr (by decide) (takes_of rfl rfl rfl rfl) (by rfl) (pa_cons (pv 5) (pa_cons (pe_ix ix_list (pe_lst (pa_cons pe_int (pa_cons pe_int (pa_cons (pe_op op_pow pe_int pe_int) pa_nil)))) (pc_cal (ok__law_take t) hr (by decide) (takes_of rfl rfl rfl rfl) (by rfl) (pa_cons (pv 5) (pa_cons pe_int pa_nil))) (fun _ _ => rfl)) pa_nil))))
    (pss_cons (ps_if (pt_cmpR op_eq (pv 8) pe_int (nomark _)) (pss_cons (ps_asg (pc_met0 (ok_PlainHall_twin t) hr (by decide) (takes_of rfl rfl rfl rfl) (pe_ix ix_list (pv 2) (pv 6) (fun _ _ => rfl))) (pg_sub (pv 2) (pe_op op_sub pe_int (pv 6)) set_list))
    (pss_cons (ps_set (i := 14) sc_law.nd rfl (Or.inl rfl) (pe_ix ix_list (pv 3) (pv 6) (fun _ _ => rfl)))
    (pss_one (ps_asg (pe_disp (pps_cons pe_str (pe_callTy call_list_of (by rfl) t.f_list bt_list (pa_cons (pe_dget hr.u (pv 14) pe_str (fun _ _ => rfl)) pa_nil)) (pps_cons pe_str (pe_callTy call_list_of (by rfl) t.f_list bt_list (pa_cons (pe_dget hr.u (pv 14) pe_str (fun _ _ => rfl)) pa_nil)) pps_nil)) (by rfl) (by rfl) (fun z => by cases z) (by decide)) (pg_sub (pv 3) (pe_op op_sub pe_int (pv 6)) set_list))))) pss_nil)
    (pss_cons (ps_set (i := 10) sc_law.nd rfl (Or.inl rfl) (pe_ix ix_list (pv 3) (pv 6) (fun _ _ => rfl)))
    (pss_cons (ps_set (i := 11) sc_law.nd rfl (Or.inr rfl) (pc_cal (ok__law_take t) hr (by decide) (takes_of rfl rfl rfl rfl) (by rfl) (pa_cons (pv 5) (pa_cons (pe_callB call_len_seq (by rfl) t.f_len bt_len (pa_cons (pe_dget hr.u (pv 10) pe_str (fun _ _ => rfl)) pa_nil)) pa_nil))))
    (pss_cons (ps_set (i := 12) sc_law.nd rfl (Or.inl rfl) (pe_callB call_len_seq (by rfl) t.f_len bt_len (pa_cons (pe_lc (own := [("ident", 17)]) rfl sc_law.nd (pi_list (pe_dget hr.u (pv 10) pe_str (fun _ _ => rfl))) (blkOk_by (own := [("ident", 17)]) (N := ["script", "sizes", "some", "states", "cell", "pool", "side", "way", "twin", "far", "state", "member", "number", "deed", "kept", "size", "thing", "ident"]) (sc := defScope s_law) (by decide +kernel)) (fun _ _ _ _ _ => (pg_name (i := 17) sc_law.nd rfl (Or.inl rfl))) (fun _ _ _ _ _ => pts_one (pt_cmpR op_eq (pe_ix (ixK (r := rIxT) (K := K) rfl ix_tup) (pv 17) pe_int (fun _ _ => rfl)) (pv 11) (nomark _))) (fun _ _ _ _ _ => (pv 17))) pa_nil)))
    (pss_cons (ps_set (i := 13) sc_law.nd rfl (Or.inl rfl) (pe_tup (pa_cons pe_str (pa_cons (pv 11) pa_nil))))
    (pss_cons (ps_if (pt_cmpR op_lt (pv 7) pe_int (nomark _)) (pss_one (ps_set (i := 13) sc_law.nd rfl (Or.inl rfl) (pe_tup (pa_cons pe_str (pa_cons (pv 11) (pa_cons (pe_op op_add (pv 12) pe_int) pa_nil)))))) pss_nil)
    (pss_cons (ps_if (pt_cmpR op_eq (pv 7) pe_int (nomark _)) (pss_one (ps_set (i := 13) sc_law.nd rfl (Or.inl rfl) (pe_tup (pa_cons pe_str (pa_cons (pv 11) (pa_cons (pe_callB (call_max2 rfl) (by rfl) t.f_max bt_max (pa_cons pe_int (pa_cons (pe_op op_sub (pe_op op_add (pv 12) pe_int) (pv 9)) pa_nil))) pa_nil)))))) pss_nil)
    (pss_cons (ps_if (pt_cmpR op_eq (pv 7) pe_int (nomark _)) (pss_one (ps_set (i := 13) sc_law.nd rfl (Or.inl rfl) (pe_tup (pa_cons pe_str (pa_cons (pv 11) (pa_cons (pe_op op_add (pe_op op_add (pv 12) pe_int) (pv 9)) pa_nil)))))) pss_nil)
    (pss_cons (ps_if (pt_cmpR op_gt (pe_callB call_len_seq (by rfl) t.f_len bt_len (pa_cons (pe_dget hr.u (pv 10) pe_str (fun _ _ => rfl)) pa_nil)) pe_int (nomark _)) (pss_one (ps_set (i := 13) sc_law.nd rfl (Or.inl rfl) (pe_tup (pa_cons pe_str (pa_cons (pv 11) pa_nil))))) pss_nil)
    (pss_cons (ps_if (pt_not (pt_val (pc_cal (ok__law_done t) hr (by decide) (takes_of rfl rfl rfl rfl) (by rfl) (pa_cons (pe_ix ix_list (pv 2) (pv 6) (fun _ _ => rfl)) (pa_cons (pv 10) (pa_cons (pv 13) pa_nil)))))) (pss_one (ps_ret pe_bl)) pss_nil)
    (pss_cons (ps_if (pt_not (pt_val (pc_cal (ok__law_stands t) hr (by decide) (takes_of rfl rfl rfl rfl) (by rfl) (pa_cons (pe_ix ix_list (pv 2) (pe_op op_sub pe_int (pv 6)) (fun _ _ => rfl)) (pa_cons (pe_ix ix_list (pv 3) (pe_op op_sub pe_int (pv 6)) (fun _ _ => rfl)) pa_nil))))) (pss_one (ps_ret pe_bl)) pss_nil)
    (pss_cons (ps_if (pt_cmpR op_ne (pe_cmpR (op_ownI (fun _ _ => rfl) rfl (ok_PlainHall_eq t) hr (by decide) px0) (pe_ix ix_list (pv 2) pe_int (fun _ _ => rfl)) (pe_ix ix_list (pv 2) pe_int (fun _ _ => rfl)) (nomark _)) (pe_cmpR (op_eqDi hr.u) (pe_ix ix_list (pv 3) pe_int (fun _ _ => rfl)) (pe_ix ix_list (pv 3) pe_int (fun _ _ => rfl)) (nomark _)) (nomark _)) (pss_one (ps_ret pe_bl)) pss_nil)
    (pss_cons (ps_if (pw_and (pt_cmpR op_eq (pv 8) pe_int (nomark _)) (pw_and1 (pt_not (pt_val (pc_cal (ok__law_bad t) hr (by decide) (takes_of rfl rfl rfl rfl) (by rfl) (pa_cons (pe_ix ix_list (pv 2) (pv 6) (fun _ _ => rfl)) (pa_cons (pv 10) pa_nil))))))).pt (pss_one (ps_ret pe_bl)) pss_nil)
    (pss_one (ps_if (pt_not (pt_val (pc_cal (ok__law_stands t) hr (by decide) (takes_of rfl rfl rfl rfl) (by rfl) (pa_cons (pe_ix ix_list (pv 2) (pv 6) (fun _ _ => rfl)) (pa_cons (pv 10) pa_nil))))) (pss_one (ps_ret pe_bl)) pss_nil)))))))))))))))))))))
    (pss_cons (ps_if (pw_or (pt_not (pt_val (pc_cal (ok__law_bad t) hr (by decide) (takes_of rfl rfl rfl rfl) (by rfl) (pa_cons (pe_ix ix_list (pv 2) pe_int (fun _ _ => rfl)) (pa_cons (pe_ix ix_list (pv 3) pe_int (fun _ _ => rfl)) pa_nil))))) (pw_or1 (pt_not (pt_val (pc_cal (ok__law_stands t) hr (by decide) (takes_of rfl rfl rfl rfl) (by rfl) (pa_cons (pe_ix ix_list (pv 2) pe_int (fun _ _ => rfl)) (pa_cons (pe_ix ix_list (pv 3) pe_int (fun _ _ => rfl)) pa_nil))))))).pt (pss_one (ps_ret pe_bl)) pss_nil)
    (pss_one (ps_ret (pe_callB (cr_all rfl) (by rfl) t.f_all bt_all (pa_cons (pe_lc (own := [("thing", 16)]) rfl sc_law.nd (pi_list (pe_lst (pa_cons pe_int (pa_cons pe_int (pa_cons pe_int (pa_cons (pe_un un_neg pe_int) (pa_cons pe_non (pa_cons pe_bl (pa_cons pe_str (pa_cons (pe_lst (pa_cons pe_int pa_nil)) (pa_cons (pe_op op_pow pe_int pe_int) pa_nil))))))))))) (blkOk_by (own := [("thing", 16)]) (N := ["script", "sizes", "some", "states", "cell", "pool", "side", "way", "twin", "far", "state", "member", "number", "deed", "kept", "size", "thing", "ident"]) (sc := defScope s_law) (by decide +kernel)) (fun _ _ _ _ _ => (pg_name (i := 16) sc_law.nd rfl (Or.inl rfl))) (fun _ _ _ _ _ => pts_nil) (fun _ _ _ _ _ => (pc_cal (ok__law_made t) hr (by decide) takes0 (by rfl) (pa_cons (pv 16) pa_nil)))) pa_nil))))))))), ?_⟩
    wtm_at "cst"
    wtm_at "cgas"
    refine ⟨⟨sc, ns, 0⟩, rfl, hsc, ?_⟩
    wtm_at "cgas"
    refine g_mod (by decide) ?_
    wtm_at "cgas"
    refine ⟨⟨sc, ns, 0⟩, rfl, hsc, ?_⟩
    wtm_at "cgas"
    refine g_fdiv ⟨by decide, by decide⟩ ?_
    wtm_at "cgas"
    refine g_mod (by decide) ?_
    have hc0 : ∃ c0, ns.getD 0 0 = c0 := ⟨_, rfl⟩
    obtain ⟨c0, hc0⟩ := hc0
    obtain ⟨m0, hm0, q0, q1⟩ : ∃ m0 : Nat, 2 + c0 % 4 = m0 ∧ 2 ≤ m0 ∧ m0 ≤ 5 := ⟨(2 + c0 % 4).toNat, by omega, by omega, by omega⟩
    obtain ⟨m1, hm1, q2, q3⟩ : ∃ m1 : Nat, 2 + c0 / 4 % 4 = m1 ∧ 2 ≤ m1 ∧ m1 ≤ 5 := ⟨(2 + c0 / 4 % 4).toNat, by omega, by omega, by omega⟩
    wtm_at "cgus"
    rename_i z ez
    have wk : ∀ m : Nat, 2 ≤ m → m ≤ 5 → wholeV (.int m) 2 (some 5) = true := fun m a b => whole_ok (by omega) (by omega)
    generalize hH0 : upd H z _ = H0
    have sc0 : SqL K H0 sc (ns.map .int) := by rw [← hH0]; exact (Fr.refl.new ez).sqL hsc
    have ez1 : H0 z = some (.lst [.int m0, .int m1]) := by
      rw [← hH0, upd_same, ← hm0, ← hm1, ← hc0]
      try rfl
    clear hH0
    with_reducible refine g_seq ?_
    wtm_at "cgas"
    intro p0 d0 hp0 hd0 hn0
    refine ⟨⟨p0, .int m0⟩, rfl, ⟨d0, upd_same⟩, ⟨_, th_int⟩, fun z => ?_, fun m em _ r0 t0 H1 f1 er0 et0 hne0 hh0 => ⟨rfl, ?_⟩⟩
    · dsimp only at z
      rw [wk m0 q0 q1] at z
      cases z
    have em0 : m0 = m := by have := V.int.inj em; omega
    subst em0
    have g1 : Fr [] H0 H1 := (((made_fr hp0 hd0 hn0).mono fun b hb => absurd hb (by simp)).trans f1).cut fun b hb _ => by
      rw [List.mem_singleton.mp hb]
      exact hp0
    have g1' : Fr [] H0 (upd (upd H0 d0 (.own p0)) p0 (.ins (PC K) d0 [])) := made_fr hp0 hd0 hn0
    have er0 := g1'.free0 er0
    have et0 := g1'.free0 et0
    clear f1 em g1'
    dsimp only at hh0
    wtm_at "cgas"
    intro p1 d1 hp1 hd1 hn1
    refine ⟨⟨p1, .int m1⟩, rfl, ⟨d1, upd_same⟩, ⟨_, th_int⟩, fun z => ?_, fun m em _ r1 t1 H2 f2 er1 et1 hne1 hh1 => ⟨rfl, ?_⟩⟩
    · dsimp only at z
      rw [wk m1 q2 q3] at z
      cases z
    have em1 : m1 = m := by have := V.int.inj em; omega
    subst em1
    have g2 : Fr [] H1 H2 := (((made_fr hp1 hd1 hn1).mono fun b hb => absurd hb (by simp)).trans f2).cut fun b hb _ => by
      rw [List.mem_singleton.mp hb]
      exact hp1
    have g2' : Fr [] H1 (upd (upd H1 d1 (.own p1)) p1 (.ins (PC K) d1 [])) := made_fr hp1 hd1 hn1
    have er1 := g2'.free0 er1
    have et1 := g2'.free0 et1
    clear f2 em g2'
    dsimp only at hh1
    wtm_at "cgus"
    rename_i S eS
    have ez3 : (upd H2 S (.lst [.ref p0, .ref p1])) z = some (.lst [.int m0, .int m1]) := upd_new eS (g2.use0 (g1.use0 ez1))
    have g3 : Fr [] H0 (upd H2 S (.lst [.ref p0, .ref p1])) := (g1.trans g2).new eS
    have ha0 := (hh0.fr g2).fr (Fr.refl.new (o := .lst [.ref p0, .ref p1]) eS)
    have ha1 := hh1.fr (Fr.refl.new (o := .lst [.ref p0, .ref p1]) eS)
    have hS : (upd H2 S (.lst [.ref p0, .ref p1])) S = some (.lst [.ref p0, .ref p1]) := upd_same
    have nr0 : r0 ≠ S := ne_of_none (g2.use0 hh0.row) eS
    have nt0 : t0 ≠ S := ne_of_none (g2.use0 hh0.tol) eS
    have nr1 : r1 ≠ S := ne_of_none hh1.row eS
    have nt1 : t1 ≠ S := ne_of_none hh1.tol eS
    have n01 : r0 ≠ r1 := ne_of_none hh0.row er1
    have n02 : r0 ≠ t1 := ne_of_none hh0.row et1
    have n03 : t0 ≠ r1 := ne_of_none hh0.tol er1
    have n04 : t0 ≠ t1 := ne_of_none hh0.tol et1
    generalize upd H2 S (.lst [.ref p0, .ref p1]) = H3 at *
    with_reducible refine g_seq ?_
    wtm_at "cgus"
    refine g_itLq (SqL.of ez3) fun T eT => ?_
    refine lc_gen (xs := [.int m0, .int m1]) (fun j H' => Fr [] H3 H' ∧ match j with
      | 0 => H' T = some (.lst [])
      | 1 => ∃ s0 a0 b0, H' T = some (.lst [.ref s0]) ∧ StAt H' s0 a0 b0 [] (List.replicate m0 0) ∧ H3 a0 = none ∧ H3 b0 = none ∧ a0 ≠ T ∧ b0 ≠ T
      | _ => ∃ s0 a0 b0 s1 a1 b1, H' T = some (.lst [.ref s0, .ref s1]) ∧ StAt H' s0 a0 b0 [] (List.replicate m0 0) ∧ StAt H' s1 a1 b1 [] (List.replicate m1 0) ∧ H3 a0 = none ∧ H3 b0 = none ∧ H3 a1 = none ∧ H3 b1 = none ∧ a0 ≠ T ∧ b0 ≠ T ∧ a1 ≠ T ∧ b1 ≠ T ∧ a0 ≠ a1 ∧ a0 ≠ b1 ∧ b0 ≠ a1 ∧ b0 ≠ b1)
      ⟨Fr.refl.new eT, upd_same⟩ (fun j H' _ p => SqL.of (p.1.use0 ez3)) (fun x => rfl) (fun j x H' ex hP => ?_) (fun H' hP => ?_)
    · obtain ⟨f4, hP⟩ := hP
      match j, ex, hP with
      | 0, ex, hP =>
        cases ex
        have hP : H' T = some (.lst []) := hP
        refine mk_state (m := m0) rfl q1 fun s0 a0 b0 H4 f5 e2 e3 e4 e1 => ⟨[], f5.use0 hP, by rw [sizeLine_eq]; decide, (f4.trans f5).mutN eT, s0, a0, b0, upd_same, ?_, f4.free0 e3, f4.free0 e4, ?_, ?_⟩
        · have na : a0 ≠ T := ne_of_none_l hP e3
          have nb : b0 ≠ T := ne_of_none_l hP e4
          exact e1.frA (Fr.refl.mut (M := [T]) List.mem_cons_self) (by simp [ne_of_none_l hP e2]) (by simp [na]) (by simp [nb])
        · exact ne_of_none_l hP e3
        · exact ne_of_none_l hP e4
      | 1, ex, hP =>
        cases ex
        obtain ⟨s0, a0, b0, hT, hs0, x1, x2, x3, x4⟩ : ∃ s0 a0 b0, H' T = some (.lst [.ref s0]) ∧ StAt H' s0 a0 b0 [] (List.replicate m0 0) ∧ H3 a0 = none ∧ H3 b0 = none ∧ a0 ≠ T ∧ b0 ≠ T := hP
        refine mk_state (m := m1) rfl q3 fun s1 a1 b1 H4 f5 e2 e3 e4 e1 => ⟨[.ref s0], f5.use0 hT, by rw [sizeLine_eq]; show 1 < 16777216; decide, (f4.trans f5).mutN eT, s0, a0, b0, s1, a1, b1, upd_same, ?_, ?_, x1, x2, f4.free0 e3, f4.free0 e4, x3, x4, ne_of_none_l hT e3, ne_of_none_l hT e4, ne_of_none hs0.row e3, ne_of_none hs0.row e4, ne_of_none hs0.tol e3, ne_of_none hs0.tol e4⟩
        · exact (hs0.fr f5).frA (Fr.refl.mut (M := [T]) List.mem_cons_self) (by simp; exact ne_of hs0.dic hT (fun z => nomatch z)) (by simp [x3]) (by simp [x4])
        · exact e1.frA (Fr.refl.mut (M := [T]) List.mem_cons_self) (by simp [ne_of_none_l hT e2]) (by simp [ne_of_none_l hT e3]) (by simp [ne_of_none_l hT e4])
      | j + 2, ex, hP => cases ex
    · obtain ⟨f4, s0, a0, b0, s1, a1, b1, hT, hs0, hs1, x1, x2, x3, x4, y1, y2, y3, y4, y5, y6, y7, y8⟩ : Fr [] H3 H' ∧ ∃ s0 a0 b0 s1 a1 b1, H' T = some (.lst [.ref s0, .ref s1]) ∧ StAt H' s0 a0 b0 [] (List.replicate m0 0) ∧ StAt H' s1 a1 b1 [] (List.replicate m1 0) ∧ H3 a0 = none ∧ H3 b0 = none ∧ H3 a1 = none ∧ H3 b1 = none ∧ a0 ≠ T ∧ b0 ≠ T ∧ a1 ≠ T ∧ b1 ≠ T ∧ a0 ≠ a1 ∧ a0 ≠ b1 ∧ b0 ≠ a1 ∧ b0 ≠ b1 := hP
      have hS2 := f4.use0 hS
      have hsc2 := f4.sqL (g3.sqL sc0)
      have li : LI K S T H' (fun i => if i = 0 then ⟨p0, r0, t0, s0, a0, b0, [], [], start m0⟩ else ⟨p1, r1, t1, s1, a1, b1, [], [], start m1⟩) := by
        refine ⟨hS2, hT, fun i hi => ?_, fun i hi => ?_, fun i hi => ?_, fun i hi => ?_, ne_of_none hS eT⟩
        · have c : i = 0 ∨ i = 1 := by omega
          rcases c with rfl | rfl
          · exact ⟨by show HallAt K H' p0 r0 t0 [] (start m0).tI; rw [start_tI]; exact ha0.fr f4, .nil, by show StAt H' s0 a0 b0 [] (start m0).tI; rw [start_tI]; exact hs0, .nil, start_ok q0 q1, Nat.zero_le _, ⟨ne_of_none ha0.row x1, ne_of_none ha0.row x2, ne_of_none ha0.tol x1, ne_of_none ha0.tol x2⟩⟩
          · exact ⟨by show HallAt K H' p1 r1 t1 [] (start m1).tI; rw [start_tI]; exact ha1.fr f4, .nil, by show StAt H' s1 a1 b1 [] (start m1).tI; rw [start_tI]; exact hs1, .nil, start_ok q2 q3, Nat.zero_le _, ⟨ne_of_none ha1.row x3, ne_of_none ha1.row x4, ne_of_none ha1.tol x3, ne_of_none ha1.tol x4⟩⟩
        · have k1 := ne_of_none ha0.row x3; have k2 := ne_of_none ha0.row x4; have k3 := ne_of_none ha0.tol x3; have k4 := ne_of_none ha0.tol x4
          have k5 := ne_of_none ha1.row x1; have k6 := ne_of_none ha1.row x2; have k7 := ne_of_none ha1.tol x1; have k8 := ne_of_none ha1.tol x2
          have c : i = 0 ∨ i = 1 := by omega
          intro b hb
          rcases c with rfl | rfl
          · simp [SR.M] at hb ⊢
            rcases hb with rfl | rfl | rfl | rfl
            · exact ⟨n01, n02, k1, k2⟩
            · exact ⟨n03, n04, k3, k4⟩
            · exact ⟨Ne.symm k5, Ne.symm k7, y5, y6⟩
            · exact ⟨Ne.symm k6, Ne.symm k8, y7, y8⟩
          · simp [SR.M] at hb ⊢
            rcases hb with rfl | rfl | rfl | rfl
            · exact ⟨Ne.symm n01, Ne.symm n03, k5, k6⟩
            · exact ⟨Ne.symm n02, Ne.symm n04, k7, k8⟩
            · exact ⟨Ne.symm k1, Ne.symm k3, Ne.symm y5, Ne.symm y7⟩
            · exact ⟨Ne.symm k2, Ne.symm k4, Ne.symm y6, Ne.symm y8⟩
        · have c : i = 0 ∨ i = 1 := by omega
          rcases c with rfl | rfl
          · simp [SR.M, Ne.symm nr0, Ne.symm nt0, ne_of_none hS x1, ne_of_none hS x2]
          · simp [SR.M, Ne.symm nr1, Ne.symm nt1, ne_of_none hS x3, ne_of_none hS x4]
        · have c : i = 0 ∨ i = 1 := by omega
          rcases c with rfl | rfl
          · simp [SR.M, ne_of_none_l ha0.row eT, ne_of_none_l ha0.tol eT, Ne.symm y1, Ne.symm y2]
          · simp [SR.M, ne_of_none_l ha1.row eT, ne_of_none_l ha1.tol eT, Ne.symm y3, Ne.symm y4]
      clear hS2 hT hs0 hs1 x1 x2 x3 x4 y1 y2 y3 y4 y5 y6 y7 y8 ha0 ha1
      generalize (fun i : Nat => if i = 0 then (⟨p0, r0, t0, s0, a0, b0, [], [], start m0⟩ : SR) else ⟨p1, r1, t1, s1, a1, b1, [], [], start m1⟩) = z0 at li
      with_reducible refine g_seq ?_
      wtm_at "cgas"
      refine g_slL hsc2 fun L eL => ?_
      generalize hcut : cutV (ns.map V.int) (some 1) (some 61) = xs
      have hints : ∀ x ∈ xs, ∃ c, x = V.int c := fun x hx => by
        rw [← hcut] at hx
        obtain ⟨c, _, e⟩ := List.mem_map.mp (cutV_mem hx)
        exact ⟨c, e.symm⟩
      have hlc : LC (upd H' L (.lst xs)) L S T xs z0 := LC.mk' li (Fr.refl.new eL) eL upd_same
      have li2 : LI K S T (upd H' L (.lst xs)) z0 := li.fr (Fr.refl.new eL)
      generalize upd H' L (.lst xs) = HL at *
      clear li eL hcut hsc2 f4 g1 g2 g3 ez1 ez3
      wtm_at "cgas"
      refine g_itLq (SqL.of hlc.cut) ?_
      clear hc0 hm0 hm1 hp0 hd0 hn0 hh0 hp1 hd1 hn1 hh1 wk sc0 eS nr0 nt0 nr1 nt1 n01 n02 n03 n04 hS eT er0 et0 er1 et1 hne0 hne1 hsc ez
      refine for_list (xs := xs) (fun j σ H => ∃ z : Nat → SR, LI K S T H z ∧ LC H L S T xs z ∧ ∃ a1 a4 a5 a6 a7 a8 a9 a10 a11 a12 a13 a14 a15 a16 a17, σ = [some (.ref sc), a1, some (.ref S), some (.ref T), a4, a5, a6, a7, a8, a9, a10, a11, a12, a13, a14, a15, a16, a17]) ⟨z0, li2, hlc, _, _, _, _, _, _, _, _, _, _, _, _, _, _, _, rfl⟩ (fun i σ H _ hP => SqL.of (hP.elim fun z h => h.2.1.cut)) ?_ ?_
      · intro j x σ1 H5 ex hP
        obtain ⟨z1, li, lc, a1, a4, a5, a6, a7, a8, a9, a10, a11, a12, a13, a14, a15, a16, a17, rfl⟩ := hP
        obtain ⟨c, rfl⟩ := hints x (List.mem_of_getElem? ex)
        clear hlc li2 hints ex
        wtm_at "cgas"
        refine ⟨c, rfl, fun q n H6 f6 hq0 hn0 eq => ?_⟩
        have b := B.start li lc f6 hq0 eq
        clear li lc f6 hq0 eq
        wtm_at "cgas"
        refine b.take (by decide) (by decide) fun side H7 hs0 hs1 b f7 => ?_
        wtm_at "cgas"
        refine b.take (by decide) (by decide) fun way H8 hw0 hw1 b f8 => ?_
        wtm_at "cgas"
        refine b.take (by decide) (by decide) fun twin H9 ht0 ht1 b f9 => ?_
        clear f7 f8 f9
        obtain ⟨s, rfl⟩ : ∃ s : Nat, side = s := ⟨side.toNat, by omega⟩
        have hs : s < 2 := by omega
        have es : (1 : Int) - (s : Int) = ((1 - s : Nat) : Int) := by omega
        wtm_at "cgas"
        refine g_pow ⟨by decide, by decide, by decide⟩ ?_
        obtain ⟨big, hbig, hb1, hb2⟩ : ∃ big : Int, (10 : Int) ^ (29 : Int).toNat = big ∧ 0 < big ∧ big.natAbs.log2 < 9000 := ⟨_, rfl, by decide, by decide +kernel⟩
        rw [hbig]
        wtm_at "cgas"
        rename_i l el
        have nl : l ≠ q := b.pq.elim fun n h => ne_of_none_l h.cut el
        have b2 := b.fr (Fr.refl.new (o := .lst [.int 1, .int 4, .int big]) el)
        refine b2.take (by decide) (by decide) fun fi H10 hf0 hf1 b f10 => ?_
        have hl2 := f10.use (upd_same (H := H9) (a := l) (o := .lst [.int 1, .int 4, .int big])) (by simp [nl])
        obtain ⟨v, hv1, hv2, hv3⟩ : ∃ v : Int, atI [V.int 1, .int 4, .int big] fi = some (.int v) ∧ 0 < v ∧ v.natAbs.log2 < 9000 := by
          rcases (show fi = 0 ∨ fi = 1 ∨ fi = 2 by omega) with rfl | rfl | rfl
          · exact ⟨1, rfl, by decide, by decide⟩
          · exact ⟨4, rfl, by decide, by decide⟩
          · exact ⟨big, rfl, hb1, hb2⟩
        refine g_ixL (SqL.of hl2) hv1 ?_
        clear b2 el hl2 f10 hv1 hb1 hb2 hbig
        wtm_at "cgas"
        refine b.take hv2 hv3 fun far H11 hr0 hr1 b f11 => ?_
        clear f11 hv2 hv3 hr1
        wtm_at "cgus"
        with_reducible refine g_cut (fun σ' H' => ∃ z a14, σ' = [some (.ref sc), a1, some (.ref S), some (.ref T), some (.int c), some (.ref q), some (.int s), some (.int way), some (.int twin), some (.int far), a10, a11, a12, a13, a14, a15, a16, a17] ∧ B K S T L q xs H' z) (fun N hN => ?_) (fun σ' H12 hP => ?_)
        · wtm_at "cgas"
          by_cases c1 : twin = 1
          · refine g_T (decide_eq_true (by rw [c1])) ?_
            wtm_at "cgas"
            refine g_ixL (SqL.of b.li.som) (atI_n (getp hs)) ?_
            have hsd := b.li.side s hs
            obtain ⟨dx, hdx⟩ := hsd.hall.ins
            have hl5 : (z1 s).s.tI.length = (z1 s).s.told.length := List.length_map _
            have hok := hsd.ok
            wtm_at "cgas"
            refine ⟨⟨(z1 s).p, (z1 s).r, (z1 s).t, (z1 s).vs, (z1 s).s.tI⟩, rfl, hsd.hall, by rw [hl5]; exact hok.2.2.1, by rw [hl5]; exact hok.2.2.2, fun p9 r9 t9 H12 f12 ep er et ne9 hh9 => ?_⟩
            clear hdx
            wtm_at "cgas"
            rw [es]
            have bS : H12 S = some (.lst [.ref (z1 0).p, .ref (z1 1).p]) := f12.use0 b.li.som
            have bT : H12 T = some (.lst [.ref (z1 0).st, .ref (z1 1).st]) := f12.use0 b.li.sts
            have hs1 : 1 - s < 2 := by omega
            refine g_setL bS hs1 ?_
            have nST := b.li.ne
            have hst9 := hsd.stat.fr f12
            have hid9 := hsd.ids.kt f12.kt0
            have hi9 := hsd.ids2.kt f12.kt0
            generalize hH13 : upd H12 S _ = H13
            have f13 : Fr [S] H12 H13 := by rw [← hH13]; exact Fr.refl.mut List.mem_cons_self
            have bS3 : H13 S = some (.lst ([.ref (z1 0).p, .ref (z1 1).p].set (1 - s) (.ref p9))) := by rw [← hH13]; exact upd_same
            have bT3 : H13 T = some (.lst [.ref (z1 0).st, .ref (z1 1).st]) := f13.use bT (by simp [Ne.symm nST])
            wtm_at "cgas"
            refine g_ixL (SqL.of bT3) (atI_n (getst hs)) ?_
            have nSM := b.li.nS s hs
            have nTM := b.li.nT s hs
            simp only [SR.M, List.mem_cons, List.not_mem_nil, or_false, not_or] at nSM nTM
            have gd := hst9.frA f13 (by simp; exact ne_of hst9.dic bS (fun z => nomatch z)) (by simp [Ne.symm nSM.2.2.1]) (by simp [Ne.symm nSM.2.2.2])
            obtain ⟨gdic, grow, gtol, gne⟩ := id gd
            wtm_at "cgas"
            rename_i p8 ep8 l8 el8 m8 em8
            rw [es]
            refine g_setL (xs := [.ref (z1 0).st, .ref (z1 1).st]) (by wtm_at "chp") hs1 ?_
            have e1 : H13 l8 = none := (Fr.refl.new (o := .dK []) ep8).free0 el8
            have e2 : H13 m8 = none := ((Fr.refl.new (o := .dK []) ep8).new (o := .lst (z1 s).us) el8).free0 em8
            have q1 := ne_of_none_l bS3 e1
            have q2 := ne_of_none_l bS3 e2
            have q3 := ne_of_none_l bS3 ep8
            have q4 := ne_of_none_l bT3 e1
            have q5 := ne_of_none_l bT3 e2
            have q6 := ne_of_none_l bT3 ep8
            have q7 := ne_of_none_l b.li.som ep
            have q8 := ne_of_none_l b.li.som er
            have q9 := ne_of_none_l b.li.som et
            have qa := ne_of_none_l b.li.sts ep
            have qb := ne_of_none_l b.li.sts er
            have qc := ne_of_none_l b.li.sts et
            have e3 : H12 p8 = none := f13.free ep8 (by simp [q3])
            have e4 : H12 l8 = none := f13.free e1 (by simp [q1])
            have e5 : H12 m8 = none := f13.free e2 (by simp [q2])
            have m1 : l8 ≠ p8 := ne_of_none_l upd_same el8
            have m2 : m8 ≠ l8 := ne_of_none_l upd_same em8
            have m3 : m8 ≠ p8 := fun e => by rw [e, upd_ne (Ne.symm m1), upd_same] at em8; cases em8
            have fE := ((((f13.mono (N := [S, T]) (fun b hb => List.mem_cons.mpr (.inl (List.mem_singleton.mp hb)))).new (o := .dK []) ep8).new (o := .lst (z1 s).us) el8).new (o := .lst ((z1 s).s.tI.map V.int)) em8).mutN (o := .dK [(.inr "row", .ref l8), (.inr "told", .ref m8)]) e3
            have fF := fE.mut (o := .lst ([V.ref (z1 0).st, .ref (z1 1).st].set (1 - s) (.ref p8))) (p := T) (by simp)
            have kt := kt_of_lists fF fun b hb => by
              rcases List.mem_cons.mp hb with rfl | hb
              · exact ⟨_, bS⟩
              · rw [List.mem_singleton.mp hb]
                exact ⟨_, bT⟩
            have c1 : r9 ≠ l8 := ne_of_none hh9.row e4
            have c2 : r9 ≠ m8 := ne_of_none hh9.row e5
            have c3 : t9 ≠ l8 := ne_of_none hh9.tol e4
            have c4 : t9 ≠ m8 := ne_of_none hh9.tol e5
            refine hN _ _ ⟨twS z1 s ⟨p9, r9, t9, p8, l8, m8, (z1 s).vs, (z1 s).us, (z1 s).s⟩, _, rfl, b.tw hs ((f12.mono (N := [S, T]) (fun b hb => absurd hb (by simp))).trans fF) ?_ upd_same ⟨hh9.frA fF (by simp [q7, qa]) (by simp [q8, qb]) (by simp [q9, qc]), hid9.kt kt, ⟨?_, ?_, ?_, Ne.symm m2⟩, hi9.kt kt, hok, hsd.few, ⟨c1, c2, c3, c4⟩⟩ ?_⟩
            · wtm_at "chp"
            · wtm_at "chp"
            · wtm_at "chp"
            · wtm_at "chp"
            · intro b hb
              simp only [SR.M, List.mem_cons, List.not_mem_nil, or_false] at hb
              rcases hb with rfl | rfl | rfl | rfl
              · exact er
              · exact et
              · exact f12.free0 e4
              · exact f12.free0 e5
          · refine g_F (decide_eq_false fun e => c1 (V.int.inj e)) ?_
            wtm_at "cgas"
            exact hN _ _ ⟨z1, _, rfl, b⟩
        · obtain ⟨z2, b14, rfl, b⟩ := hP

          have hlog : ∀ n : Nat, 2 ≤ n → n ≤ 5 → (n : Int).natAbs.log2 < 9000 := fun n x1 x2 => by
            rcases (show n = 2 ∨ n = 3 ∨ n = 4 ∨ n = 5 by omega) with rfl | rfl | rfl | rfl <;> decide
          have hsd := b.li.side s hs
          obtain ⟨gdic, grow, gtol, gne⟩ := id hsd.stat
          have hok := hsd.ok
          wtm_at "cgas"
          refine g_ixL (SqL.of b.li.sts) (atI_n (getst hs)) ?_
          wtm_at "cgas"
          rw [show (List.map V.int (z2 s).s.tI).length = (z2 s).s.told.length from (List.length_map _).trans (List.length_map _)]
          clear gdic grow gtol gne hsd
          refine b.take (by have := hok.2.2.1; omega) (hlog _ hok.2.2.1 hok.2.2.2) fun mem H13 hm0 hm1 b f13 => ?_
          obtain ⟨m, rfl⟩ : ∃ m : Nat, mem = m := ⟨mem.toNat, by omega⟩
          have hm : m < (z2 s).s.told.length := by omega
          have hsd := b.li.side s hs
          obtain ⟨gdic, grow, gtol, gne⟩ := id hsd.stat
          clear f13
          wtm_at "cgas"
          refine g_itLq (SqL.of grow) fun D eD => ?_
          refine lc_genT (xs := (z2 s).us) (fun j H' => Fr [] H13 H' ∧ ∃ ys, H' D = some (.lst ys) ∧ ys.length ≤ j) ⟨Fr.refl.new eD, [], upd_same, by simp⟩ (fun j H' _ p => SqL.of (p.1.use0 grow)) (fun x => rfl) (fun j x H' ex hP => ?_) (fun H' hP => ?_)
          · obtain ⟨f14, ys, e1, e2⟩ := hP
            obtain ⟨d, hd1, xa, rfl, hxa⟩ := Paired.get hsd.ids2 ex
            have hxa2 := f14.use0 hxa
            have hj := (List.getElem?_eq_some_iff.mp ex).1
            have hlu := Paired.length hsd.ids2
            have hfew := hsd.few
            wtm_at "cgas"
            by_cases cm : d.1 = m
            · refine g_T (decide_eq_true (by rw [cm])) ?_
              wtm_at "cgs"
              exact ⟨ys, e1, lt1000 (by omega), f14.mutN eD, ys ++ [_], upd_same, by simp; omega⟩
            · refine g_F (decide_eq_false fun e => cm (V.int.inj e)) ?_
              exact ⟨f14, ys, e1, by omega⟩
          · obtain ⟨f14, ys, e1, e2⟩ := hP
            obtain ⟨nu, hnu⟩ : ∃ nu : Nat, ys.length = nu := ⟨_, rfl⟩
            have b := b.fr f14
            clear gdic grow gtol gne hsd eD
            wtm_at "cgus"
            rw [hnu]
            with_reducible refine g_seq ?_
            wtm_at "cgus"
            clear e1 e2 f14 hnu
            rename_i dp edp
            have b := b.fr (Fr.refl.new (o := .tup [.str "tell", .int m]) edp)
            have hd : DeedAt (upd H' dp (.tup [.str "tell", .int m])) (.ref dp) (.tell m) (z2 s).s.told.length := ⟨⟨dp, rfl, upd_same⟩, hm⟩
            generalize upd H' dp (.tup [.str "tell", .int m]) = H14 at *
            with_reducible refine g_cut (fun σ' H' => ∃ x d, σ' = [some (.ref sc), a1, some (.ref S), some (.ref T), some (.int c), some (.ref q), some (.int s), some (.int way), some (.int twin), some (.int far), some (.ref (z2 s).st), some (.int m), some (.int nu), some x, b14, a15, a16, a17] ∧ B K S T L q xs H' z2 ∧ DeedAt H' x d (z2 s).s.told.length) (fun N hN => ?_) (fun σ' H15 hP => ?_)
            · wtm_at "cgas"
              by_cases c1 : way < 4
              · refine g_T (decide_eq_true c1) ?_
                wtm_at "cgas"
                exact hN _ _ ⟨_, .add m (nu + 1), rfl, b.fr (Fr.refl.new (by assumption)), ⟨_, rfl, upd_same⟩, by omega, by omega, by omega⟩
              · refine g_F (decide_eq_false c1) ?_
                wtm_at "cgas"
                exact hN _ _ ⟨_, _, rfl, b, hd⟩
            · clear b hd
              obtain ⟨x, d, rfl, b, hd⟩ := hP
              with_reducible refine g_cut (fun σ' H' => ∃ x d, σ' = [some (.ref sc), a1, some (.ref S), some (.ref T), some (.int c), some (.ref q), some (.int s), some (.int way), some (.int twin), some (.int far), some (.ref (z2 s).st), some (.int m), some (.int nu), some x, b14, a15, a16, a17] ∧ B K S T L q xs H' z2 ∧ DeedAt H' x d (z2 s).s.told.length) (fun N hN => ?_) (fun σ' H16 hP => ?_)
              · wtm_at "cgas"
                by_cases c1 : way = 4
                · refine g_T (decide_eq_true (by rw [c1])) ?_
                  wtm_at "cgas"
                  refine ⟨_, _, rfl, ?_⟩
                  wtm_at "cgas"
                  exact hN _ _ ⟨_, .add m _, rfl, b.fr (Fr.refl.new (by assumption)), ⟨_, rfl, upd_same⟩, by omega, by omega, by split <;> omega⟩
                · refine g_F (decide_eq_false fun e => c1 (V.int.inj e)) ?_
                  wtm_at "cgas"
                  exact hN _ _ ⟨_, _, rfl, b, hd⟩
              · clear b hd
                obtain ⟨x, d, rfl, b, hd⟩ := hP
                with_reducible refine g_cut (fun σ' H' => ∃ x d, σ' = [some (.ref sc), a1, some (.ref S), some (.ref T), some (.int c), some (.ref q), some (.int s), some (.int way), some (.int twin), some (.int far), some (.ref (z2 s).st), some (.int m), some (.int nu), some x, b14, a15, a16, a17] ∧ B K S T L q xs H' z2 ∧ DeedAt H' x d (z2 s).s.told.length) (fun N hN => ?_) (fun σ' H17 hP => ?_)
                · wtm_at "cgas"
                  by_cases c1 : way = 5
                  · refine g_T (decide_eq_true (by rw [c1])) ?_
                    wtm_at "cgas"
                    exact hN _ _ ⟨_, .add m _, rfl, b.fr (Fr.refl.new (by assumption)), ⟨_, rfl, upd_same⟩, by omega, by omega, by omega⟩
                  · refine g_F (decide_eq_false fun e => c1 (V.int.inj e)) ?_
                    wtm_at "cgas"
                    exact hN _ _ ⟨_, _, rfl, b, hd⟩
                · clear b hd
                  obtain ⟨x, d, rfl, b, hd⟩ := hP
                  with_reducible refine g_cut (fun σ' H' => ∃ x d, σ' = [some (.ref sc), a1, some (.ref S), some (.ref T), some (.int c), some (.ref q), some (.int s), some (.int way), some (.int twin), some (.int far), some (.ref (z2 s).st), some (.int m), some (.int nu), some x, b14, a15, a16, a17] ∧ B K S T L q xs H' z2 ∧ DeedAt H' x d (z2 s).s.told.length ∧ ((z2 s).s.ids.length ≤ 29 ∨ ∃ m, d = .tell m)) (fun N hN => ?_) (fun σ' H18 hP => ?_)
                  · have hsd := b.li.side s hs
                    obtain ⟨gdic, grow, gtol, gne⟩ := id hsd.stat
                    have hlu := Paired.length hsd.ids2
                    wtm_at "cgas"
                    by_cases c1 : (((z2 s).us.length : Nat) : Int) > 29
                    · refine g_T (decide_eq_true c1) ?_
                      wtm_at "cgas"
                      exact hN _ _ ⟨_, .tell m, rfl, b.fr (Fr.refl.new (by assumption)), ⟨⟨_, rfl, upd_same⟩, hm⟩, .inr ⟨_, rfl⟩⟩
                    · refine g_F (decide_eq_false c1) ?_
                      wtm_at "cgas"
                      exact hN _ _ ⟨_, _, rfl, b, hd, .inl (by omega)⟩
                  · clear b hd
                    obtain ⟨x, d, rfl, b, hd, hfd⟩ := hP
                    have hsd := b.li.side s hs
                    obtain ⟨gdic, grow, gtol, gne⟩ := id hsd.stat
                    wtm_at "cgas"
                    refine g_ixL (SqL.of b.li.som) (atI_n (getp hs)) ?_
                    wtm_at "cgas"
                    refine ⟨⟨(z2 s).p, (z2 s).r, (z2 s).t, (z2 s).vs, (z2 s).st, (z2 s).la, (z2 s).lb, (z2 s).us, (z2 s).s, x, d⟩, rfl, hsd.hall, hsd.ids, hsd.stat, hsd.ids2, hok, next_ok hok hsd.few, hsd.ap, hd, fun vs' us' H19 f19 hh hi hst hi2 => ?_⟩
                    have b := b.done hs f19 hh hi hst hi2 (next_ok hok hsd.few) (next_few hsd.few hfd)
                    have est : (upS z2 s vs' us' (next (z2 s).s d) s).st = (z2 s).st := upS_st
                    rw [← est]
                    clear hh hi hst hi2 f19 hsd gdic grow gtol gne hok hd hfd est hm hm0 hm1
                    generalize upS z2 s vs' us' (next (z2 s).s d) = z3 at *
                    have hs1 : 1 - s < 2 := by omega
                    wtm_at "cgas"
                    rw [es]
                    refine g_ixL (SqL.of b.li.som) (atI_n (getp hs1)) ?_
                    wtm_at "cgas"
                    rw [es]
                    refine g_ixL (SqL.of b.li.sts) (atI_n (getst hs1)) ?_
                    have stands : ∀ (i : Nat) (H : Hp), i < 2 → B K S T L q xs H z3 → ∀ (Q' : VK) E', (∀ H1, Fr [] H H1 → Q' (.bl true) H1) → sp_stands K [.ref (z3 i).p, .ref (z3 i).st] H Q' E' := fun i H hi b Q' E' k =>
                      ⟨⟨(z3 i).p, (z3 i).r, (z3 i).t, (z3 i).vs, (z3 i).st, (z3 i).la, (z3 i).lb, (z3 i).us, (z3 i).s⟩, rfl, (b.li.side i hi).hall, (b.li.side i hi).ids, (b.li.side i hi).stat, (b.li.side i hi).ids2, (b.li.side i hi).ok, k⟩
                    wtm_at "cgas"
                    refine stands _ _ hs1 b _ _ fun H20 f20 => ?_
                    have b := b.fr f20
                    have gS := b.li.som
                    wtm_at "cgas"
                    have g0 := b.li.side 0 (by decide)
                    have g1 := b.li.side 1 (by decide)
                    obtain ⟨dx0, gd0⟩ := g0.hall.ins
                    obtain ⟨dx1, gd1⟩ := g1.hall.ins
                    refine g_ownI gd0 (t.isi_P.ty t.c_PlainHall gd1) t.nf_own ?_
                    refine ⟨⟨(z3 0).p, (z3 0).r, (z3 0).t, (z3 0).vs, (z3 0).s.tI, (z3 0).s.ids, .ref (z3 1).p⟩, rfl, g0.hall, g0.ids, .inr ⟨(z3 1).p, (z3 1).r, (z3 1).t, (z3 1).vs, (z3 1).s.tI, (z3 1).s.ids, rfl, g1.hall, g1.ids, fun H21 f21 => ?_⟩⟩
                    clear g0 g1 gd0 gd1 gS
                    have b := b.fr f21
                    have gS := b.li.som
                    have gT := b.li.sts
                    have g0 := b.li.side 0 (by decide)
                    have g1 := b.li.side 1 (by decide)
                    wtm_at "cgas"
                    refine ⟨_, _, _, _, _, rfl, rfl, g0.stat.dic, g1.stat.dic, .cons (valV_hd) (.lst (SqL.of g0.stat.row) g0.ids2.dp) (.lst (SqL.of g1.stat.row) g1.ids2.dp) (Shp.ok (.lst shp_ids)) (Shp.ok (.lst shp_ids)) (.cons (valV_tl (by decide) valV_hd) (.lst (SqL.of g0.stat.tol) (DpAll.ints _)) (.lst (SqL.of g1.stat.tol) (DpAll.ints _)) (Shp.ok (Shp.lst (n := 0) (.map (fun _ => .int) _))) (Shp.ok (Shp.lst (n := 0) (.map (fun _ => .int) _))) .nil), ?_⟩
                    wtm_at "cgas"
                    clear gS gT g0 g1
                    by_cases c2 : twin = 2
                    · refine g_T (decide_eq_true (by rw [c2])) ?_
                      wtm_at "cgas"
                      refine g_ixL (SqL.of b.li.som) (atI_n (getp hs)) ?_
                      wtm_at "cgas"
                      have h2 := b.li.side s hs
                      refine ⟨⟨(z3 s).p, (z3 s).r, (z3 s).t, (z3 s).vs, (z3 s).st, (z3 s).la, (z3 s).lb, (z3 s).us, (z3 s).s⟩, rfl, h2.hall, h2.ids, h2.stat, h2.ids2, h2.ok, fun H22 f22 => ?_⟩
                      clear h2
                      have b := b.fr f22
                      wtm_at "cgas"
                      refine g_ixL (SqL.of b.li.som) (atI_n (getp hs)) ?_
                      wtm_at "cgas"
                      refine stands _ _ hs b _ _ fun H23 f23 => ?_
                      have b := b.fr f23
                      wtm_at "cgas"
                      exact ⟨z3, b.li, b.lc, _, _, _, _, _, _, _, _, _, _, _, _, _, _, _, rfl⟩
                    · refine g_F (decide_eq_false fun e => c2 (V.int.inj e)) ?_
                      wtm_at "cgas"
                      refine g_ixL (SqL.of b.li.som) (atI_n (getp hs)) ?_
                      wtm_at "cgas"
                      refine stands _ _ hs b _ _ fun H23 f23 => ?_
                      have b := b.fr f23
                      wtm_at "cgas"
                      exact ⟨z3, b.li, b.lc, _, _, _, _, _, _, _, _, _, _, _, _, _, _, _, rfl⟩
      · intro σ1 H5 hP
        obtain ⟨z1, li, lc, a1, a4, a5, a6, a7, a8, a9, a10, a11, a12, a13, a14, a15, a16, a17, rfl⟩ := hP
        clear hints hlc li2
        have gS := li.som
        have gT := li.sts
        have h2 := li.side 0 (by decide)
        wtm_at "cgas"
        refine ⟨⟨(z1 0).p, (z1 0).r, (z1 0).t, (z1 0).vs, (z1 0).st, (z1 0).la, (z1 0).lb, (z1 0).us, (z1 0).s⟩, rfl, h2.hall, h2.ids, h2.stat, h2.ids2, h2.ok, fun H6 f6 => ?_⟩
        have li := li.fr f6
        clear gS gT h2
        have gS := li.som
        have gT := li.sts
        have h2 := li.side 0 (by decide)
        wtm_at "cgas"
        refine ⟨⟨(z1 0).p, (z1 0).r, (z1 0).t, (z1 0).vs, (z1 0).st, (z1 0).la, (z1 0).lb, (z1 0).us, (z1 0).s⟩, rfl, h2.hall, h2.ids, h2.stat, h2.ids2, h2.ok, fun H7 f7 => ?_⟩
        clear gS gT h2 li lc f6 f7
        wtm_at "cgas"
        refine g_pow ⟨by decide, by decide, by decide⟩ ?_
        obtain ⟨big, hbig, hb1⟩ : ∃ big : Int, (10 : Int) ^ (29 : Int).toNat = big ∧ 5 < big := ⟨_, rfl, by decide⟩
        rw [hbig]
        wtm_at "cgas"
        rename_i l2 el2 l3 el3
        refine g_itLq (SqL.of upd_same) fun D hD => ?_
        have y1 : (upd (upd H7 l2 (.lst [.int 2])) l3 (.lst [.int 1, .int 6, .int 0, .int (-2), .non, .bl true, .str "2", .ref l2, .int big])) l2 = some (.lst [.int 2]) := by wtm_at "chp"
        refine lc_all upd_same hD (show (9 : Nat) < 1000 by decide) (fun x => rfl) (fun x hx H8 f8 Qe kQ => ?_) (fun H8 f8 eD => ?_)
        · have go : ∀ d, (∃ T, Th K H8 x T) → wholeV x 2 (some 5) = false → Dp K H8 x d → Shp 5 d → sp_made K [x] H8 Qe (fun _ _ _ => False) := fun d g1 g2 g3 g4 =>
            ⟨⟨x, d⟩, rfl, g1, g2, g3, g4, kQ⟩
          wtm_at "cgas"
          simp only [List.mem_cons, List.not_mem_nil, or_false] at hx
          rcases hx with rfl | rfl | rfl | rfl | rfl | rfl | rfl | rfl | rfl
          · exact go _ ⟨_, th_int⟩ rfl (.int _) .int
          · exact go _ ⟨_, th_int⟩ rfl (.int _) .int
          · exact go _ ⟨_, th_int⟩ rfl (.int _) .int
          · exact go _ ⟨_, th_int⟩ rfl (.int _) .int
          · exact go _ ⟨_, th_non⟩ rfl .non .none
          · exact go _ ⟨_, th_bl⟩ rfl (.bl _) .bool
          · exact go _ ⟨_, th_str⟩ rfl (.str _) (.str (by decide +kernel))
          · exact go _ ⟨_, th_lst (f8.use0 y1)⟩ rfl (.lst (SqL.of (f8.use0 y1)) (.cons (.int _) .nil)) (.lst (.cons .int .nil))
          · exact go _ ⟨_, th_int⟩ (by show (decide ((2 : Int) ≤ big) && decide (big ≤ 5)) = false; rw [decide_eq_false (show ¬ (big ≤ 5) by omega), Bool.and_false]) (.int _) .int
        · wtm_at "cgas"
          refine g_allT eD ?_
          exact k _
end
end K78
set_option Elab.async false
set_option linter.all false
set_option maxRecDepth 100000
set_option maxHeartbeats 0
namespace K78
open PySem PySem.Spec PyProof.Rows L2
/-- what leaves a def, in whatever world -/
def CXw (P : Program) : CXT := fun outer H s E u s' => ∃ w, L2.CX P w outer H s E u s'
theorem fn_cxw {P : Program} {w : World} {K : PySem.W.Frag} {mg : Str → Option Value} {base : Heap} {k : Nat} {f : Addr} {fd : FuncData} {ps : List Str} {sp : Sp} (F : FnOk P w K mg base (L2.CX P w) k f fd ps sp) : FnOk P w K mg base (CXw P) k f fd ps sp :=
  ⟨F.len, fun A outer s H args us vs Q E hr he hb hv hs => codeAny_mono (F.run A outer s H args us vs Q E hr he hb hv hs) fun r s' hr => match r, hr with
    | .ok (.ret _), hr => hr
    | .error _, hr => ⟨w, hr⟩⟩
abbrev R : PySem.W.OpenRow := PySem.W.OpenLaw.row PySem.Challenge.rw_causehall_k78_plain_deeds
abbrev hk : PySem.W.Hook := hookM 4 fn ex
def ob (s : PySem.W.SharedT) : He.AlD := obsMG 4 fn ex (HandSHeadRun.getT s)
theorem ob_eq (s : PySem.W.SharedT) : ob s = hk.obs s.abs := obsMG_eq (HandSHeadRun.getT_eq s)
def names : List PySem.Str := (["__name__", "HallError", "Barred", "NoNumber", "NoMember", "NoDeed", "Lacks", "Known", "AllTold", "LEAST_MEMBERS", "MOST_MEMBERS", "is_whole", "are_members", "is_add", "is_tell", "PlainHall", "_law_cell_at", "_law_pool", "_law_take", "_law_did", "_law_due", "_law_no_member", "_law_stands", "_law_bad", "_law_made", "_law_done"] : List PySem.Str)
theorem run (w : World) : HandSHeadRun.RunEq R (PySem.W.view R.prog [29]) hk ob 6000 names w := by
  intro os
  kernel_rfl
theorem facts {P : Program} {w : World} {K : PySem.W.Frag} {h : Heap} {mg : Str → Option Value} {f : Addr} (X : K.In h) (G : h.Ns mainGlobals mg) (hfa : mg ("law" : Str) = some (.ref f)) (c : SaysM fn ex K) :
    ∃ fd : FuncData, (∀ (s : Shared) (v : Value), BindsTo s fd ⟨[v], []⟩ [("script", v)]) ∧ ∀ base : Heap, K.In base → base.Ns mainGlobals mg → FnOk P w K mg base (CXw P) 9 f fd ["script"] (sp_law K) := by
  have t := T_of X G c
  obtain ⟨fd, F⟩ := t.D_law
  have e := hfa.symm.trans t.g_law
  cases e
  have b := FunD.bindsA (ps := ["script"]) F fun _ _ _ _ _ _ us hl => match us, hl with | [_], _ => rfl
  exact ⟨fd, fun s v => b s [v] rfl, fun base _ _ => fn_cxw (fon_law (P := P) (w := w) (base := base) t F)⟩
end K78
open PySem PySem.W PySem.Calls PyProof.Rows
theorem PySem.Challenge.cw_causehall_k78_plain_deeds_holds : PySem.Challenge.rw_causehall_k78_plain_deeds.Holds := by
  w_on; o_law
  refine HandSHeadRun.head_any (r := OpenLaw.row PySem.Challenge.rw_causehall_k78_plain_deeds) (q := view (OpenLaw.row PySem.Challenge.rw_causehall_k78_plain_deeds).prog [29]) (H := K78.hk) (ob := K78.ob) (M := 6000) (loose := K78.names) (d := HandSHeadRun.topDef (OpenLaw.row PySem.Challenge.rw_causehall_k78_plain_deeds).prog 29) (kwd := []) K78.ob_eq
    (by kernel_rfl) (fun s => by kernel_rfl) K78.run (by kernel_rfl) (by kernel_rfl) (by kernel_rfl) (by rfl) (by first | assumption | decide +kernel) (by decide +kernel) ⟨rfl, rfl, rfl, rfl, rfl, by decide +kernel⟩ ?hw ?hc
  case hw => w_witness2
  case hc =>
    refine L2.walk_ofE (l := PySem.Challenge.rw_causehall_k78_plain_deeds) (n := 63) (k := 9) (x := "script") (CX := K78.CXw (PySem.Challenge.rw_causehall_k78_plain_deeds).prog) rfl (by decide) (by kernel_rfl) ⟨rfl, by decide, by decide⟩ ?F (fun H s e s' z => by
      obtain ⟨w, _, _, _, _, _, _, _, _, _, _, _, _, hE⟩ := z
      exact hE)
    intro w mg fa h Y G hmg0
    obtain ⟨K, KX, c⟩ := Y
    have hmg : mg ("law" : PySem.Str) = some (.ref fa) := by
      have e : (HandSHeadRun.topDef (OpenLaw.row PySem.Challenge.rw_causehall_k78_plain_deeds).prog 29).name = ("law" : PySem.Str) := by kernel_rfl
      rw [← e]
      exact hmg0
    obtain ⟨fd, hb, hF⟩ := K78.facts (P := (PySem.Challenge.rw_causehall_k78_plain_deeds).prog) (w := w) KX G hmg c
    exact ⟨K, fd, K78.sp_law K, KX, hb, fun H a ns hl _ hS => ⟨⟨a, ns⟩, rfl, hS, fun _ => rfl⟩, hF⟩
