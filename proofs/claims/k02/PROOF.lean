import PyProof.Rows.All
import HandS.ForMost
import HandS.ForExc
import HandS.ExcInit
import HandS.ClsMeth
import HandS.CallSlots
import HandS.Defaults
import KE.KExcInit
import PyProof.ExcBaseAll.LookupError
import PyProof.ExcBaseAll.RuntimeError
import HandS.Comp
import HandS.Lambda
import HandS.ExcField
import HandS.Deep
import HandS.DeepEq
import HandS.Wide
import HandS.TupMul
import HandS.TupAny
import HandS.Style
import HandS.IsInst
import HandS.Dict
import HandS.Text
import HandS.More
import HandS.SortInts
import HandS.RaiseMore
import HandS.Exc
import HandS.Iter
import KE.GoesEnum
import HandS.ExcOwn
import HandS.MakeKw
import HandS.MakeKwOnly
import HandS.TryMany
import HandS.EndTab
import HandS.DictComp
import HandS.HeadHook2
import HandS.HeadEnd
import HandS.Head0
import HandS.Head1
import HandS.Head2
import HandS.HeadHook4
import HandS.HeadWalk
import PySem.Challenge.RW_tearboard_k02_books_looked_at
import Wide.All
import OpenK.AllK
import Wide.FinOn
import KE.KStateDown
set_option Elab.async false
set_option linter.all false
set_option maxRecDepth 100000
set_option maxHeartbeats 4000000
/-! Exi: own exceptions over any of the built-in ones, with an __init__ that calls its base's. -/
namespace Mp
open PySem PySem.Spec PyProof.Rows L2
/-- classes of one's own, then the rest of the order -/
def refsT (tl : List Value) : List Value → Bool
  | .ref _ :: r => refsT tl r
  | l => l == tl
theorem refsT_ind {tl : List Value} {P : List Value → Prop} (h0 : P tl) (h1 : ∀ c r, P r → P (.ref c :: r)) : ∀ l, refsT tl l = true → P l
  | [], e => (beq_iff_eq.mp (show ([] == tl) = true from e)) ▸ h0
  | a :: r, e => by
    cases a with
    | ref c => exact h1 c r (refsT_ind h0 h1 r e)
    | _ => exact (beq_iff_eq.mp (show (_ :: r == tl) = true from e)) ▸ h0
/-- what is asked of the built-in base -/
structure TailOk (B nw ini : String) (tl : List Value) : Prop where
  base : ExcBaseFacts B nw ini tl
  pass : ∀ self, refuseLoop self "__setattr__" tl = pure ()
  obj : tl.contains (.type "object") = true
  ne : tl.isEmpty = false
abbrev tlV : List Value := [.type "ValueError", .type "Exception", .type "BaseException", .type "object"]
abbrev tlL : List Value := [.type "LookupError", .type "Exception", .type "BaseException", .type "object"]
abbrev tlR : List Value := [.type "RuntimeError", .type "Exception", .type "BaseException", .type "object"]
theorem tail_V : TailOk "ValueError" "ValueError.__new__" "ValueError.__init__" tlV := ⟨F.excBase_ValueError, F.store_ValueError.passes, by decide +kernel, rfl⟩
theorem tail_L : TailOk "LookupError" "LookupError.__new__" "LookupError.__init__" tlL := ⟨F.excBase_LookupError, F.store_LookupError.passes, by decide +kernel, rfl⟩
theorem tail_R : TailOk "RuntimeError" "RuntimeError.__new__" "RuntimeError.__init__" tlR := ⟨F.excBase_RuntimeError, F.store_RuntimeError.passes, by decide +kernel, rfl⟩
theorem refsT_pass {tl : List Value} (h : ∀ self, refuseLoop self "__setattr__" tl = pure ()) (self : Value) : ∀ l, refsT tl l = true → refuseLoop self "__setattr__" l = pure () :=
  refsT_ind (h self) fun c r q => by rw [refuseLoop_ref]; exact q
theorem refsT_contains {tl : List Value} (Y : String) : ∀ l, refsT tl l = true → l.contains (.type Y) = tl.contains (.type Y) :=
  refsT_ind rfl fun c r q => by rw [List.contains_cons, q]; rfl
theorem refsT_ne {tl : List Value} (h : tl.isEmpty = false) : ∀ l, refsT tl l = true → l.isEmpty = false :=
  refsT_ind h fun _ _ _ => rfl
/-- what the written part says of a class of exceptions -/
structure ExG (K : PySem.W.Frag) (C : Addr) : Prop where
  cls : ∃ B nw ini tl, TailOk B nw ini tl ∧ ∃ nm q N bs bm sn sub ab col dd k0 k1 k2 k3 k5, K.lookup C = some (excClassObj nm q C N bs bm true sn sub ab col dd k0 k1 k2 k3 k5 nw) ∧ refsT tl bm = true
  sa : PySem.W.findIn K (.ref C) "__setattr__" = some (some (.builtin "object.__setattr__"))
  exC : PySem.W.subIn K (.ref C) (.type "BaseException") = some true
  tyC : PySem.W.typeIn K (.ref C) = some (.type "type")
  kC : PySem.W.keepIn K (.ref C) = true
/-! ### self.f = v -/
section
open PySem.W PySem.Calls
open Builtin Builtin.ObjectAttr
variable {prog : Program} {w : World} {A : Around} {E : Value → Shared → Prop} {R : Result → Shared → Prop} {hp : Heap} {gs : Array GenState} {dr : Drawn} {tk : Nat} {os : OsState}
/-- the order of a class: what a store asks of it -/
structure OrdOk (l : List Value) : Prop where
  pass : ∀ self, refuseLoop self "__setattr__" l = pure ()
  obj : l.contains (.type "object") = true
  ne : l.isEmpty = false
theorem osa_new {K : PySem.W.Frag} {nm : Str} {tk1 : Tok} {v : Value} {x C : Addr} {fv : Array Value} {cd : ClassData} (X : K.In hp) (hx : hp.get? x = some { cls := .ref C, data := .fields fv }) (hcd : PySem.W.clsIn K C = some cd) (ho : OrdOk cd.mro) (hh : cd.hasDict = true)
    (ha : PySem.W.findIn K (.ref C) nm = some none)
    (hq : ∀ h' tk' dx, (∀ b o, b ≠ x → hp.get? b = some o → h'.get? b = some o) → hp.objs.size ≤ dx → dx ≠ x → h'.get? x = some { cls := .ref C, dict := some dx, data := .fields fv } → h'.Ns1 dx (fun y => if y = nm then some v else none) → R (.ok (.ret .none)) ⟨h', gs, dr, tk', os⟩) :
    codeAny (model prog w) A (.call (.builtin "object.__setattr__") ⟨[.ref x, .str nm tk1, v], []⟩) R ⟨hp, gs, dr, tk, os⟩ := by
  have I : PySem.W.InstAt hp x { cls := .ref C, data := .fields fv } C none := ⟨hx, rfl, rfl, trivial⟩
  have SF := F.store_object
  have isObj : PySem.W.Looks (model prog w) hp (isInstance (.ref x) (.type "object")) true :=
    I.type.andThen (PySem.W.looks_mroIn X (by unfold PySem.W.mroIn; rw [hcd, Option.bind_some, if_neg (by rw [ho.ne]; decide), ho.obj]))
  have lm : PySem.W.Looks (model prog w) hp (mroOf (.ref C)) cd.mro := (PySem.W.looks_clsIn X hcd).andThen .now
  have lt : PySem.W.Looks (model prog w) hp (storeTaker? none) none := .now
  have lc : PySem.W.Looks (model prog w) hp (classData C) cd := PySem.W.looks_clsIn X hcd
  have lx : x < hp.objs.size := Heap.lt_size hx
  have xn : x ≠ hp.objs.size := Nat.ne_of_lt lx
  refine codeAny_call_builtin SF.slot.plain SF.entry
    (@PySem.W.check_slot (model prog w) _ _ ⟨hp, gs, dr, tk, os⟩ "object.__setattr__" "object" "__setattr__" (.ref x) [.str nm tk1, v] [] _ SF.kind SF.split isObj (SF.args (.ref x) (.str nm tk1) v) ?_)
  rw [PySem.W.osa_eq, refuse_eq]
  refine wpAny_bind (wpAny_bind (I.type.at (wpAny_bind (lm.at ?_))))
  rw [ho.pass]
  refine wpAny_pure (wpAny_bind (I.type.at (wpAny_bind ((PySem.W.looks_findIn X ha).at (wpAny_bind (lt.at ?_))))))
  show wpAny _ _ (storeInOwnDict (.ref x) (.ref C) (.str nm tk1) nm v false) _ _ _
  obtain ⟨n1, bs, mro, ns, qn, hd, sn, sb, ab, col, del⟩ := cd
  cases (show hd = true from hh)
  unfold storeInOwnDict
  unfold ownDictForStores
  repeat (first | (with_reducible refine PySem.HandSPX.store_in_new ?_ ?_) | (with_reducible refine wpAny_loadPart_at hx ?_) | (with_reducible refine lc.at ?_) | wp_step)
  · exact ⟨_, #[], _, (Heap.get?_update_ne _ _ _ _ xn.symm).trans (Heap.get?_push_at rfl rfl), rfl, fun e he => absurd he (by simp), fun _ => rfl⟩
  · intro h' tk' hn' hs
    have x1 : (hp.push { cls := .type "dict", data := .dict #[] }).get? x = some { cls := .ref C, data := .fields fv } := Heap.get?_push_of_some _ hx
    have k1 : ∀ b o, b ≠ x → hp.get? b = some o → h'.get? b = some o := fun b o hb e =>
      (hs.2 b (Nat.ne_of_lt (Heap.lt_size e))).trans ((Heap.get?_update_ne _ _ _ _ hb).trans (Heap.get?_push_of_some _ e))
    exact hq h' tk' hp.objs.size k1 (Nat.le_refl _) xn.symm ((hs.2 x xn).trans (Heap.get?_update_self _ x1 rfl)) hn'
theorem osa_more {K : PySem.W.Frag} {nm : Str} {tk1 : Tok} {v : Value} {x C dx : Addr} {fv : Array Value} {cd : ClassData} {m0 : Str → Option Value} {nl : List Str} (X : K.In hp) (hx : hp.get? x = some { cls := .ref C, dict := some dx, data := .fields fv })
    (hns : hp.Ns1 dx m0) (hw : Within m0 nl) (hz : nl.length ≤ 1000) (hcd : PySem.W.clsIn K C = some cd) (ho : OrdOk cd.mro) (hh : cd.hasDict = true) (ha : PySem.W.findIn K (.ref C) nm = some none)
    (hq : ∀ h' tk', (∀ b o, b ≠ dx → hp.get? b = some o → h'.get? b = some o) → h'.Ns1 dx (fun y => if y = nm then some v else m0 y) → R (.ok (.ret .none)) ⟨h', gs, dr, tk', os⟩) :
    codeAny (model prog w) A (.call (.builtin "object.__setattr__") ⟨[.ref x, .str nm tk1, v], []⟩) R ⟨hp, gs, dr, tk, os⟩ := by
  obtain ⟨od, _, _, hod, _, _⟩ := hns.count hw
  have I : PySem.W.InstAt hp x { cls := .ref C, dict := some dx, data := .fields fv } C (some od) := ⟨hx, rfl, rfl, hod⟩
  have SF := F.store_object
  have isObj : PySem.W.Looks (model prog w) hp (isInstance (.ref x) (.type "object")) true :=
    I.type.andThen (PySem.W.looks_mroIn X (by unfold PySem.W.mroIn; rw [hcd, Option.bind_some, if_neg (by rw [ho.ne]; decide), ho.obj]))
  have lm : PySem.W.Looks (model prog w) hp (mroOf (.ref C)) cd.mro := (PySem.W.looks_clsIn X hcd).andThen .now
  have lt : PySem.W.Looks (model prog w) hp (storeTaker? none) none := .now
  have lc : PySem.W.Looks (model prog w) hp (classData C) cd := PySem.W.looks_clsIn X hcd
  refine codeAny_call_builtin SF.slot.plain SF.entry
    (@PySem.W.check_slot (model prog w) _ _ ⟨hp, gs, dr, tk, os⟩ "object.__setattr__" "object" "__setattr__" (.ref x) [.str nm tk1, v] [] _ SF.kind SF.split isObj (SF.args (.ref x) (.str nm tk1) v) ?_)
  rw [PySem.W.osa_eq, refuse_eq]
  refine wpAny_bind (wpAny_bind (I.type.at (wpAny_bind (lm.at ?_))))
  rw [ho.pass]
  refine wpAny_pure (wpAny_bind (I.type.at (wpAny_bind ((PySem.W.looks_findIn X ha).at (wpAny_bind (lt.at ?_))))))
  show wpAny _ _ (storeInOwnDict (.ref x) (.ref C) (.str nm tk1) nm v false) _ _ _
  obtain ⟨n1, bs, mro, ns, qn, hd, sn, sb, ab, col, del⟩ := cd
  cases (show hd = true from hh)
  unfold storeInOwnDict
  unfold ownDictForStores
  repeat (first | (with_reducible refine PySem.OEX.store_in_old hns hw hz ?_) | (with_reducible refine wpAny_loadPart_at hx ?_) | (with_reducible refine lc.at ?_) | wp_step)
  exact fun h' tk' hn' hs => hq h' tk' (fun b o hb e => (hs.2 b hb).trans e) hn'
end
/-! ### .. upon the invariant -/
theorem ExG.cl {K : PySem.W.Frag} {C : Addr} (T : ExG K C) : ∃ cd, PySem.W.clsIn K C = some cd ∧ OrdOk cd.mro ∧ cd.hasDict = true := by
  obtain ⟨B, nw, ini, tl, hT, nm, q, N, bs, bm, sn, sub, ab, col, dd, k0, k1, k2, k3, k5, hC, hb⟩ := T.cls
  refine ⟨{ name := nm, bases := bs, mro := .ref C :: bm, ns := N, qualname := q, hasDict := true, slotNames := sn, subclasses := sub, abstract := ab, collection := col, hasDel := false }, ?_, ?_, rfl⟩
  · unfold PySem.W.clsIn
    rw [hC]
  · have h2 : refsT tl (.ref C :: bm) = true := hb
    exact ⟨fun self => refsT_pass hT.pass self _ h2, (refsT_contains "object" _ h2).trans hT.obj, refsT_ne hT.ne _ h2⟩
section
variable {X : Cx} {pins : List (Addr × Obj)} {σ : L2.St} {H : Hp} {s : Shared} {a C dx : Addr} {f : Str} {y : V} {u : Value} {fs : List (Str × V)} {Q : Unit → Shared → Prop} {E : Value → Shared → Prop} {A : Around}
theorem setG_new (T : ExG X.K C) (I : Inv X pins σ H s) (e : H a = some (exo a C none)) (hno : PySem.W.findIn X.K (.ref C) f = some none) (ry : RelV y u)
    (h : ∀ dx s', H dx = none → dx ≠ a → Inv X pins σ (upd (upd H dx (exd dx [(f, y)])) a (exo a C (some dx))) s' → Q () s') : wpAny (model X.prog X.w) A (setAttr (.ref a) f u) Q E s := by
  obtain ⟨cd, hcd, hord, hdict⟩ := T.cl
  obtain ⟨t1, ho⟩ := exo_at I.hok e
  obtain ⟨hp, gs, dr, tk, os⟩ := s
  refine PySem.W.set_plain I.kIn (ox := { cls := .ref C, dict := none, data := .fields #[.ref t1, .none, .none, .none, .bool false, .none] }) (od := none) ⟨ho, rfl, rfl, trivial⟩ T.sa ?_
  refine osa_new I.kIn ho hcd hord hdict hno fun h' tk' dx kp dn dne hx hn => ?_
  have hnd : H dx = none := I.hok.fresh dn
  have old : ∀ {b : Addr} {o : Obj}, hp.get? b = some o → b ≠ dx := fun {b o} q z => by
    have := Heap.lt_size q
    rw [z] at this
    exact Nat.lt_irrefl _ (Nat.lt_of_lt_of_le this dn)
  have free : ∀ {b : Addr}, H b = none → b ≠ a := fun {b} n z => by rw [z, e] at n; cases n
  have aside : ∀ {b : Addr} {v : HO}, H b = some v → v ≠ exo a C none → upd (upd H dx (exd dx [(f, y)])) a (exo a C (some dx)) b = some v := fun {b v} q d => by
    have ba : b ≠ a := fun z => d (by rw [z, e] at q; exact (Option.some.inj q).symm)
    have bd : b ≠ dx := fun z => by rw [z, hnd] at q; cases q
    rw [upd_ne ba, upd_ne bd]
    exact q
  have un : Un X.fs [] H (upd (upd H dx (exd dx [(f, y)])) a (exo a C (some dx))) hp h' :=
    ⟨fun b o q n _ _ => kp b o (free n) q, fun b o q n _ _ => ⟨o.slots, kp b o (free n) q⟩, fun b o q n _ => by rw [upd_ne (free n), upd_ne (old q)]; exact n,
      fun b o q _ => by
        by_cases hb : b = a
        · rw [hb]; exact ⟨_, hx⟩
        · exact ⟨o, kp b o hb q⟩,
      fun b xs q => aside q (Ne.symm exo_tup), fun b o v q => aside q (Ne.symm exo_frz), fun b ps q => ⟨#[], by rw [aside q (Ne.symm exo_tbl)]; simp⟩⟩
  refine h dx _ hnd dne (I.un (t' := tk') un fun b o q => ?_)
  by_cases hb : b = a
  · subst hb
    rw [upd_same] at q
    cases q
    exact exo_ok hx
  rw [upd_ne hb] at q
  by_cases hd : b = dx
  · subst hd
    rw [upd_same] at q
    cases q
    exact exd_ok hn (relO_put (fs := []) ry fun _ => True.intro)
  rw [upd_ne hd] at q
  refine (I.hok b o q).stay (fun c v hc z => ?_) (fun c hc => aside hc (Ne.symm exo_own)) fun c xs hc => aside hc (Ne.symm exo_tup)
  refine kp c v ?_ z
  rcases hc with hc | hc
  · rw [hc]; exact hb
  · intro z2
    rw [z2, e] at hc
    exact exo_own (Option.some.inj hc)
theorem setG_more (T : ExG X.K C) (I : Inv X pins σ H s) (e : H a = some (exo a C (some dx))) (ed : H dx = some (exd dx fs)) (hl : fs.length ≤ 900) (hno : PySem.W.findIn X.K (.ref C) f = some none) (ry : RelV y u)
    (h : ∀ s', Inv X pins σ (upd H dx (exd dx ((f, y) :: fs))) s' → Q () s') : wpAny (model X.prog X.w) A (setAttr (.ref a) f u) Q E s := by
  obtain ⟨cd, hcd, hord, hdict⟩ := T.cl
  obtain ⟨t1, ho⟩ := exo_at I.hok e
  obtain ⟨mA, hns, rel⟩ := exd_at I.hok ed
  have hw := within_of rel
  obtain ⟨hp, gs, dr, tk, os⟩ := s
  obtain ⟨od, _, _, hod, _, _⟩ := hns.count hw
  refine PySem.W.set_plain I.kIn (ox := { cls := .ref C, dict := some dx, data := .fields #[.ref t1, .none, .none, .none, .bool false, .none] }) (od := some od) ⟨ho, rfl, rfl, hod⟩ T.sa ?_
  refine osa_more I.kIn ho hns hw (by rw [List.length_map]; omega) hcd hord hdict hno fun h' tk' kp hn => ?_
  have there : ∃ o, h'.get? dx = some o := let ⟨o, _, _, z, _⟩ := hn; ⟨o, z⟩
  exact h _ (I.write (t' := tk') (x := dx) (e := dx) (o := exd dx ((f, y) :: fs)) (by rw [ed]; exact True.intro) (.inl rfl) kp there (exd_ok hn (relO_put ry rel)))
/-! ### o.f = e in an __init__ -/
/-- .. told: the exception at a has no dict, has one -/
def tStG (K : PySem.W.Frag) (f : Str) (to te : TE) : TS := fun D σ H => te σ H fun y H1 => to σ H1 fun x H2 => ∃ a C : Addr, x = .ref a ∧ ExG K C ∧ PySem.W.findIn K (.ref C) f = some none ∧
  ((H2 a = some (exo a C none) ∧ ∀ dx, H2 dx = none → dx ≠ a → D.nx σ (upd (upd H2 dx (exd dx [(f, y)])) a (exo a C (some dx)))) ∨
    ∃ (dx : Addr) (fs : List (Str × V)), H2 a = some (exo a C (some dx)) ∧ H2 dx = some (exd dx fs) ∧ fs.length ≤ 900 ∧ D.nx σ (upd H2 dx (exd dx ((f, y) :: fs))))
theorem ps_stG {o e : Expr} {to te : TE} {p' pos : Pos} (ho : PE X o to) (he : PE X e te) (hs : swapsWith e (some (.Attribute o f p')) pos.line X.env = pure false := by rfl) : PS X (.Assign [.Attribute o f p'] e pos) (tStG X.K f to te) := by
  refine ⟨fun pins s σ H D I h => ?_⟩
  refine plainObj_wpAny_Assign_Attribute (thn (he.run pins s σ H _ I h) fun v s1 ⟨y, H1, I1, r1, q1⟩ => thn (ho.run pins s1 σ H1 _ I1 q1) fun u s2 ⟨x, H2, I2, r2, a, C, ex, T, hno, q⟩ => ?_) hs
  subst ex
  obtain rfl : u = Value.ref a := r2
  rcases q with ⟨ea, q⟩ | ⟨dx, fs, ea, ed, hl, q⟩
  · exact setG_new T I2 ea hno r1 fun dx s' n ne J => ⟨σ, _, J, q dx n ne⟩
  · exact setG_more T I2 ea ed hl hno r1 fun s' J => ⟨σ, _, J, q⟩
end
end Mp


set_option Elab.async false
set_option linter.all false
/-! Den: a small interpreter over the model's syntax trees, on tree values. -/
namespace Mp
open PySem

/-- a value as a tree; obj n: what stands at n of the store; a dict's entries are pairs -/
inductive T where
  | non | bl (b : Bool) | int (i : Int) | str (s : Str)
  | tup (xs : List T) | lst (xs : List T) | dct (kvs : List T) | set (xs : List T)
  | ins (c : Str) (ns : List Str) (vs : List T)
  | obj (n : Nat)
  deriving Inhabited

/-- a field's value; own: a list of the instance's own -/
structure Fd where
  own : Bool
  t : T
  deriving Inhabited
/-- a name's place: nothing, a value that is never changed in place, a list or dict of the def's own, the instance that __init__ fills -/
inductive Slot where
  | no | fr (t : T) | own (t : T) | slf (c : Str) (ns : List Str) (vs : List Fd)
  deriving Inhabited
inductive Cell where
  | no | lst (xs : List T) | scr (xs : List T) | ins (c : Str) (ns : List Str) (vs : List Fd)
  /-- a def's table of inner code, by the inner code's name -/
  | tab (q : Str)
  deriving Inhabited
abbrev En := List Slot
abbrev Store := List Cell
inductive Out (α : Type) where
  | ok (a : α) (st : Store) | err (c : Str) (vs : List T) (st : Store) | bad
  deriving Inhabited
abbrev Ev (α : Type) := En → Store → Out α
abbrev EvT := Ev T
/-- how a statement ends -/
inductive Fl where
  | nx | ret (t : T) | brk | ct
  deriving Inhabited
inductive OutS where
  | ok (f : Fl) (env : En) (st : Store) | err (c : Str) (vs : List T) (env : En) (st : Store) | bad
  deriving Inhabited
abbrev EvS := En → Store → OutS
/-- a def, by values -/
abbrev FnD := List T → Store → Out T
/-- an __init__: the fields -/
abbrev InitD := List T → Store → Out (List Str × List Fd)

/-! ### values -/
mutual
def T.okd : Nat → T → Bool
  | 0, _ => false
  | n + 1, .tup xs => T.okdL n xs
  | n + 1, .lst xs => T.okdL n xs
  | _ + 1, .str s => s.cps.all fun c => decide (c < 1114112)
  | _ + 1, .non => true
  | _ + 1, .bl _ => true
  | _ + 1, .int _ => true
  | _ + 1, .dct _ => false
  | _ + 1, .set _ => false
  | _ + 1, .ins _ _ _ => false
  | _ + 1, .obj _ => false
def T.okdL : Nat → List T → Bool
  | _, [] => true
  | n, x :: xs => T.okd n x && T.okdL n xs
end
mutual
def T.eqv : T → T → Bool
  | .non, .non => true
  | .bl a, .bl b => a == b
  | .bl a, .int j => (if a then 1 else 0) == j
  | .int i, .bl b => i == (if b then 1 else 0)
  | .int i, .int j => i == j
  | .str x, .str y => x == y
  | .lst xs, .lst ys => T.eqvL xs ys
  | .tup xs, .tup ys => T.eqvL xs ys
  | _, _ => false
def T.eqvL : List T → List T → Bool
  | [], [] => true
  | x :: xs, y :: ys => T.eqv x y && T.eqvL xs ys
  | _, _ => false
end
/-- == of data -/
def T.eq? (x y : T) : Option Bool := if T.okd 12 x && T.okd 12 y then some (T.eqv x y) else none
mutual
def T.lt : T → T → Bool
  | .int i, .int j => decide (i < j)
  | .tup xs, .tup ys => T.ltL xs ys
  | .lst xs, .lst ys => T.ltL xs ys
  | _, _ => false
def T.ltL : List T → List T → Bool
  | [], [] => false
  | [], _ :: _ => true
  | _ :: _, [] => false
  | x :: xs, y :: ys => if T.eqv x y then T.ltL xs ys else T.lt x y
end
def T.isInt : T → Bool
  | .int _ => true
  | _ => false
def T.ints? : List T → Option (List Int)
  | [] => some []
  | .int i :: xs => (T.ints? xs).map (i :: ·)
  | _ :: _ => none
def T.bls? : List T → Option (List Bool)
  | [] => some []
  | .bl i :: xs => (T.bls? xs).map (i :: ·)
  | _ :: _ => none
def T.strs? : List T → Option (List Str)
  | [] => some []
  | .str i :: xs => (T.strs? xs).map (i :: ·)
  | _ :: _ => none

/-! ### the monad -/
def Ev.pure {α : Type} (a : α) : Ev α := fun _ st => .ok a st
def Ev.bad {α : Type} : Ev α := fun _ _ => .bad
def Ev.bind {α β : Type} (f : Ev α) (g : α → Ev β) : Ev β := fun env st => match f env st with
  | .ok a st' => g a env st'
  | .err c vs st' => .err c vs st'
  | .bad => .bad
def Ev.opt {α : Type} : Option α → Ev α
  | some a => Ev.pure a
  | none => Ev.bad
/-- .. by the store -/
def Ev.optS {α : Type} (f : Store → Option α) : Ev α := fun env st => Ev.opt (f st) env st
/-- an operation on the values of one, two, three expressions -/
def ev1 (op : T → Option T) (f : EvT) : EvT := f.bind fun x => Ev.opt (op x)
def ev1S (op : Store → T → Option T) (f : EvT) : EvT := f.bind fun x => Ev.optS fun st => op st x
def ev2 (op : T → T → Option T) (f g : EvT) : EvT := f.bind fun x => g.bind fun y => Ev.opt (op x y)
def ev2S (op : Store → T → T → Option T) (f g : EvT) : EvT := f.bind fun x => g.bind fun y => Ev.optS fun st => op st x y
def ev3S (op : Store → T → T → T → Option T) (f g h : EvT) : EvT := f.bind fun x => g.bind fun y => h.bind fun z => Ev.optS fun st => op st x y z
/-- values of several, from the left -/
def evL : List EvT → Ev (List T)
  | [] => Ev.pure []
  | f :: fs => f.bind fun x => (evL fs).bind fun xs => Ev.pure (x :: xs)
def evN (mk : List T → Option T) (fs : List EvT) : EvT := (evL fs).bind fun xs => Ev.opt (mk xs)

/-! ### names -/
def con (t : T) : EvT := Ev.pure t
/-- a name's value, that is not changed in place -/
def var (i : Nat) : EvT := fun env st => match env[i]? with
  | some (.fr t) => .ok t st
  | _ => .bad
/-- .. read where it stands -/
def peek (i : Nat) : EvT := fun env st => match env[i]? with
  | some (.fr t) => .ok t st
  | some (.own t) => .ok t st
  | _ => .bad

/-- an own list alone -/
def ownV (i : Nat) : EvT := fun env st => match env[i]? with
  | some (.own t) => .ok t st
  | _ => .bad

/-! ### operators -/
def opAdd : T → T → Option T
  | .int i, .int j => some (.int (i + j))
  | .str x, .str y => if x.length + y.length ≤ 100000 then some (.str (x ++ y)) else none
  | .tup xs, .tup ys => if xs.length + ys.length ≤ 100000 then some (.tup (xs ++ ys)) else none
  | .lst xs, .lst ys => if xs.length + ys.length ≤ 100000 then some (.lst (xs ++ ys)) else none
  | _, _ => none
def opSub : T → T → Option T
  | .int i, .int j => some (.int (i - j))
  | _, _ => none
def bigI (i : Int) : Bool := decide (i.natAbs < 2 ^ 5000)
def rep (xs : List T) : Nat → List T
  | 0 => []
  | n + 1 => xs ++ rep xs n
def opMul : T → T → Option T
  | .int i, .int j => if bigI i && bigI j then some (.int (i * j)) else none
  | .tup xs, .int n => if xs.length * n.toNat ≤ 100000 ∧ n < 2 ^ 62 ∧ -(2 ^ 62) < n then some (.tup (rep xs n.toNat)) else none
  | .lst xs, .int n => if xs.length * n.toNat ≤ 100000 ∧ n < 2 ^ 62 ∧ -(2 ^ 62) < n then some (.lst (rep xs n.toNat)) else none
  | _, _ => none
def opDiv : T → T → Option T
  | .int i, .int j => if 0 < j ∧ j < 2 ^ 2000 then some (.int (i / j)) else none
  | _, _ => none
def opMod : T → T → Option T
  | .int i, .int j => if 0 < j then some (.int (i % j)) else none
  | _, _ => none
def opPow : T → T → Option T
  | .int i, .int j => if 0 ≤ j ∧ j ≤ 1000 ∧ i.natAbs < 2 ^ 64 then some (.int (i ^ j.toNat)) else none
  | _, _ => none
def binOp : Operator → Option (T → T → Option T)
  | .Add => some opAdd
  | .Sub => some opSub
  | .Mult => some opMul
  | .FloorDiv => some opDiv
  | .Mod => some opMod
  | .Pow => some opPow
  | _ => none
def opNeg : T → Option T
  | .int i => some (.int (-i))
  | _ => none
def opLt : T → T → Option T
  | .int i, .int j => some (.bl (decide (i < j)))
  | _, _ => none
def opLe : T → T → Option T
  | .int i, .int j => some (.bl (decide (i ≤ j)))
  | _, _ => none
def opGt : T → T → Option T
  | .int i, .int j => some (.bl (decide (j < i)))
  | _, _ => none
def opGe : T → T → Option T
  | .int i, .int j => some (.bl (decide (j ≤ i)))
  | _, _ => none
def opEq (x y : T) : Option T := (T.eq? x y).map .bl
def opNe (x y : T) : Option T := (T.eq? x y).map fun b => .bl (!b)
def memT (x : T) : List T → Bool
  | [] => false
  | y :: ys => T.eqv y x || memT x ys
def keysOf : List T → List T
  | [] => []
  | .tup [k, _] :: r => k :: keysOf r
  | _ :: r => keysOf r
/-- None, a bool, an int, a text -/
def flatT : T → Bool
  | .non => true
  | .bl _ => true
  | .int _ => true
  | .str _ => true
  | _ => false
/-- a dict's key -/
def keyT : T → Bool
  | .int _ => true
  | .str _ => true
  | _ => false
def opIn : T → T → Option T
  | x, .lst ys => if T.okd 12 x && T.okd 12 (.lst ys) then some (.bl (memT x ys)) else none
  | x, .tup ys => if flatT x && ys.all flatT then some (.bl (memT x ys)) else none
  | x, .dct kvs => if keyT x then some (.bl (memT x (keysOf kvs))) else none
  | .str x, .str y => if x.length = 1 then some (.bl (y.cps.toList.contains (x.cps.getD 0 0))) else none
  | _, _ => none
def notB : Option T → Option T
  | some (.bl b) => some (.bl (!b))
  | _ => none
def opNotIn (x y : T) : Option T := notB (opIn x y)
def opIsN : T → T → Option T
  | .non, .non => some (.bl true)
  | _, .non => some (.bl false)
  | _, _ => none
def opIsNotN (x y : T) : Option T := notB (opIsN x y)
def cmpOp : CmpOp → Option (T → T → Option T)
  | .Lt => some opLt
  | .LtE => some opLe
  | .Gt => some opGt
  | .GtE => some opGe
  | .Eq => some opEq
  | .NotEq => some opNe
  | .In => some opIn
  | .NotIn => some opNotIn
  | .Is => some opIsN
  | .IsNot => some opIsNotN

/-! ### truth -/
abbrev EvB := Ev Bool
def asB : T → EvB
  | .bl b => Ev.pure b
  | _ => Ev.bad
def testV (f : EvT) : EvB := f.bind asB
def pick {α : Type} (f g : Ev α) (b : Bool) : Ev α := match b with
  | true => f
  | false => g
def andB (f g : EvB) : EvB := f.bind (pick g (Ev.pure false))
def orB (f g : EvB) : EvB := f.bind (pick (Ev.pure true) g)
def notT (f : EvB) : EvB := f.bind fun b => Ev.pure (!b)
/-- .. as values, the first ones bools -/
def andV (f g : EvT) : EvT := (testV f).bind (pick g (Ev.pure (.bl false)))
def orV (f g : EvT) : EvT := (testV f).bind (pick (Ev.pure (.bl true)) g)
def notV (f : EvT) : EvT := (testV f).bind fun b => Ev.pure (.bl (!b))
def iteE (c : EvB) (f g : EvT) : EvT := c.bind (pick f g)
/-- a < b < c -/
def chain (op op' : T → T → Option T) (f g h : EvT) : EvT := f.bind fun x => g.bind fun y => (Ev.opt (op x y)).bind fun z => (asB z).bind (pick (h.bind fun w => Ev.opt (op' y w)) (Ev.pure (.bl false)))

/-! ### items, slices, fields -/
def seqOf (st : Store) : T → Option (List T)
  | .lst xs => some xs
  | .tup xs => some xs
  | .obj n => (match st[n]? with
    | some (.lst xs) => some xs
    | _ => none)
  | _ => none
/-- the place of an index -/
def ixOf (i : Int) (n : Nat) : Option Nat := if 0 ≤ i then (if i < n then some i.toNat else none) else if -(n : Int) ≤ i then some (n + i).toNat else none
def dget (k : T) : List T → Option T
  | [] => none
  | .tup [k', v] :: r => if T.eqv k' k then some v else dget k r
  | _ :: r => dget k r
def opIxS (st : Store) : T → T → Option T
  | .str s, .int i => if s.length ≤ 100000 then (ixOf i s.length).map fun k => .str ⟨#[s.cps.getD k 0]⟩ else none
  | x, .int i => (match seqOf st x with
    | some xs => (match ixOf i xs.length with
      | some k => xs[k]?
      | none => none)
    | none => none)
  | _, _ => none
def opIx (st : Store) (x i : T) : Option T := match x with
  | .dct kvs => if keyT i then dget i kvs else none
  | x => opIxS st x i
/-- a slice's ends -/
def lim (n : Nat) : T → Option Nat → Option Nat
  | .int i, _ => if -(2 ^ 60) < i ∧ i < 2 ^ 60 then some (if i < 0 then (n + i).toNat else min i.toNat n) else none
  | .non, d => d
  | _, _ => none
def asPart : T → EvT
  | .int i => Ev.pure (.int i)
  | _ => Ev.bad
def cutT (lo hi : Nat) (xs : List T) : List T := (xs.drop lo).take (hi - lo)
def opCut (st : Store) (x lo hi : T) : Option T := match x with
  | .tup xs => (match lim xs.length lo (some 0), lim xs.length hi (some xs.length) with
    | some a, some b => some (.tup (cutT a b xs))
    | _, _ => none)
  | .lst xs => (match lim xs.length lo (some 0), lim xs.length hi (some xs.length) with
    | some a, some b => some (.lst (cutT a b xs))
    | _, _ => none)
  | .str s => (match lim s.length lo (some 0), lim s.length hi (some s.length) with
    | some a, some b => if s.length ≤ 100000 then some (.str ⟨((s.cps.toList.drop a).take (b - a)).toArray⟩) else none
    | _, _ => none)
  | .obj n => (match st[n]? with
    | some (.lst xs) => (match lim xs.length lo (some 0), lim xs.length hi (some xs.length) with
      | some a, some b => some (.lst (cutT a b xs))
      | _, _ => none)
    | some (.scr xs) => (match lim xs.length lo (some 0), lim xs.length hi (some xs.length) with
      | some a, some b => some (.lst (cutT a b xs))
      | _, _ => none)
    | _ => none)
  | _ => none
/-- x[::-1] -/
def isRev : Option Expr → Option Expr → Expr → Bool
  | none, none, .UnaryOp .USub (.Constant (.int 1) _ _) _ => true
  | _, _, _ => false
def opRev : Store → T → Option T
  | _, .tup xs => some (.tup xs.reverse)
  | _, .lst xs => some (.lst xs.reverse)
  | _, _ => none
def lookF {α : Type} (f : Str) : List Str → List α → Option α
  | n :: ns, v :: vs => if n == f then some v else lookF f ns vs
  | _, _ => none
def putF {α : Type} (f : Str) (x : α) : List Str → List α → List Str × List α
  | n :: ns, v :: vs => if n == f then (n :: ns, x :: vs) else ((n :: (putF f x ns vs).1), (v :: (putF f x ns vs).2))
  | _, _ => ([f], [x])
def fldT (f : Str) (st : Store) : T → Option T
  | .ins _ ns vs => lookF f ns vs
  | .obj n => (match st[n]? with
    | some (.ins _ ns vs) => (match lookF f ns vs with
      | some ⟨false, t⟩ => some t
      | _ => none)
    | _ => none)
  | _ => none
/-- .. read where it stands -/
def fldP (f : Str) (st : Store) : T → Option T
  | .ins _ ns vs => lookF f ns vs
  | .obj n => (match st[n]? with
    | some (.ins _ ns vs) => (lookF f ns vs).map (·.t)
    | _ => none)
  | _ => none

/-- x.f, x a name -/
def fldV (f : Str) (i : Nat) : EvT := fun env st => match env[i]? with
  | some (.fr t) => (match fldT f st t with
    | some v => .ok v st
    | none => .bad)
  | some (.slf _ ns vs) => (match lookF f ns vs with
    | some ⟨false, t⟩ => .ok t st
    | _ => .bad)
  | _ => .bad
def fldPV (f : Str) (i : Nat) : EvT := fun env st => match env[i]? with
  | some (.fr t) => (match fldP f st t with
    | some v => .ok v st
    | none => .bad)
  | some (.slf _ ns vs) => (match lookF f ns vs with
    | some d => .ok d.t st
    | none => .bad)
  | _ => .bad

/-! ### displays -/
def mkTup (xs : List T) : Option T := if xs.length ≤ 100000 then some (.tup xs) else none
def mkLst (xs : List T) : Option T := if xs.length ≤ 100000 then some (.lst xs) else none
/-- d[k] = v upon the pairs -/
def dputM (k v : T) : List T → List T
  | [] => []
  | .tup [k', v'] :: r => (if T.eqv k' k then .tup [k', v] else .tup [k', v']) :: dputM k v r
  | x :: r => x :: dputM k v r
def dput (k v : T) (d : List T) : List T := if memT k (keysOf d) then dputM k v d else d ++ [.tup [k, v]]
def mkDct : List T → Option T
  | [] => some (.dct [])
  | [k, v] => if keyT k then some (.dct [.tup [k, v]]) else none
  | k :: v :: r => (match mkDct r with
    | some (.dct kvs) => if keyT k then some (.dct (.tup [k, v] :: kvs)) else none
    | _ => none)
  | _ => none

/-! ### built-ins -/
def lenT (st : Store) : T → Option T
  | .lst xs => some (.int xs.length)
  | .tup xs => some (.int xs.length)
  | .str s => if s.length ≤ 100000 then some (.int s.length) else none
  | .obj n => (match st[n]? with
    | some (.lst xs) => some (.int xs.length)
    | _ => none)
  | _ => none
def listT (st : Store) (x : T) : Option T := (seqOf st x).map .lst
def tupleT (st : Store) (x : T) : Option T := (seqOf st x).map .tup
def anyT (x : T) : Option T := match x with
  | .lst xs => (T.bls? xs).map fun bs => .bl (bs.any id)
  | _ => none
def allT (x : T) : Option T := match x with
  | .lst xs => (T.bls? xs).map fun bs => .bl (bs.all id)
  | _ => none
/-- a list's numbers -/
def intsL (st : Store) : T → Option (List Int)
  | .lst xs => T.ints? xs
  | .obj n => (match st[n]? with
    | some (.lst xs) => T.ints? xs
    | _ => none)
  | _ => none
def sumT (st : Store) (x : T) : Option T := (intsL st x).map fun ns => .int ns.sum
def maxL : List Int → Option Int
  | [] => none
  | [x] => some x
  | x :: xs => (maxL xs).map fun m => if x < m then m else x
def minL : List Int → Option Int
  | [] => none
  | [x] => some x
  | x :: xs => (minL xs).map fun m => if m < x then m else x
def max1 (st : Store) (x : T) : Option T := ((intsL st x).bind maxL).map .int
def min1 (st : Store) (x : T) : Option T := ((intsL st x).bind minL).map .int
def max2 : T → T → Option T
  | .int i, .int j => some (.int (if i < j then j else i))
  | _, _ => none
def min2 : T → T → Option T
  | .int i, .int j => some (.int (if j < i then j else i))
  | _, _ => none
def intT : T → Option T
  | .int i => some (.int i)
  | .bl b => some (.int (if b then 1 else 0))
  | _ => none
def strT : T → Option T
  | .int i => if i.natAbs < 10 ^ 500 then some (.str (toString i)) else none
  | .str s => some (.str s)
  | _ => none
/-- inserted ahead of the first that is greater -/
def insT (x : T) : List T → List T
  | [] => [x]
  | y :: ys => if T.lt x y then x :: y :: ys else y :: insT x ys
def sortL : List T → List T
  | [] => []
  | x :: xs => insT x (sortL xs)
/-- sorted from the right keeps equal ones in turn: x goes ahead of its equals -/
def insS (x : T) : List T → List T
  | [] => [x]
  | y :: ys => if T.lt y x then y :: insS x ys else x :: y :: ys
def sortS : List T → List T
  | [] => []
  | x :: xs => insS x (sortS xs)
mutual
def ordd : Nat → T → Bool
  | 0, _ => false
  | _ + 1, .int _ => true
  | n + 1, .tup xs => orddL n xs
  | n + 1, .lst xs => orddL n xs
  | _, _ => false
def orddL : Nat → List T → Bool
  | _, [] => true
  | n, x :: xs => ordd n x && orddL n xs
end
/-- of one kind -/
def kindT : T → Nat
  | .int _ => 1
  | .tup _ => 2
  | .lst _ => 3
  | _ => 0
def insI (x : Int) : List Int → List Int
  | [] => [x]
  | y :: ys => if y < x then y :: insI x ys else x :: y :: ys
def sortI : List Int → List Int
  | [] => []
  | x :: xs => insI x (sortI xs)
def sortT (st : Store) (x : T) : Option T := (intsL st x).map fun ns => .lst ((sortI ns).map T.int)
def insU (x : T) : List T → List T
  | xs => if memT x xs then xs else xs ++ [x]
def setT (st : Store) (x : T) : Option T := match seqOf st x with
  | some xs => (T.ints? xs).map fun _ => .set (xs.foldl (fun acc x => insU x acc) [])
  | none => none
def pairs? : List T → Option (List T)
  | [] => some []
  | .tup [k, v] :: r => (pairs? r).map (.tup [k, v] :: ·)
  | _ => none
def putAll : List T → List T → List T
  | acc, [] => acc
  | acc, .tup [k, v] :: r => putAll (dput k v acc) r
  | acc, _ :: r => putAll acc r
def dictT (x : T) : Option T := match x with
  | .lst xs => (pairs? xs).bind fun ps => if (keysOf ps).all keyT && decide (ps.length ≤ 100000) then some (.dct (putAll [] ps)) else none
  | _ => none
/-- the class of a value, by its name -/
def tyName : T → Str
  | .non => "NoneType"
  | .bl _ => "bool"
  | .int _ => "int"
  | .str _ => "str"
  | .tup _ => "tuple"
  | .lst _ => "list"
  | .dct _ => "dict"
  | .set _ => "set"
  | .ins c _ _ => c
  | .obj _ => "list"
/-- .. of the built-in classes alone -/
def kindOf (st : Store) : T → Option String
  | .non => some "NoneType"
  | .bl _ => some "bool"
  | .int _ => some "int"
  | .str _ => some "str"
  | .tup _ => some "tuple"
  | .lst _ => some "list"
  | .dct _ => some "dict"
  | .obj n => (match st[n]? with
    | some (.lst _) => some "list"
    | _ => none)
  | _ => none
def subKind (a b : String) : Bool := a == b || (a == "bool" && b == "int")
def isKind (ns : List String) (st : Store) (x : T) : Option T := (kindOf st x).map fun s => .bl (ns.any (subKind s))
def joinT (sep : T) (x : T) : Option T := match sep, x with
  | .str s, .lst xs => (T.strs? xs).bind fun ys => if (Str.join s ys).length ≤ 100000 then some (.str (Str.join s ys)) else none
  | _, _ => none
/-- the first place of a sign -/
def findC (c : Nat) : List Nat → Option Nat
  | [] => none
  | x :: xs => if x = c then some 0 else (findC c xs).map (· + 1)
def partC (c : Nat) (l : List Nat) : List Nat × List Nat × List Nat := match findC c l with
  | some k => (l.take k, [c], l.drop (k + 1))
  | none => (l, [], [])
def str (l : List Nat) : T := .str ⟨l.toArray⟩
def partT (x sep : T) : Option T := match x, sep with
  | .str s, .str p => if p.length = 1 ∧ s.length ≤ 100000 then
      let r := partC (p.cps.getD 0 0) s.cps.toList
      some (.tup [Mp.str r.1, Mp.str r.2.1, Mp.str r.2.2]) else none
  | _, _ => none
def isPre : List Nat → List Nat → Bool
  | [], _ => true
  | _ :: _, [] => false
  | a :: as, b :: bs => a == b && isPre as bs
/-- split at a text: cur the piece so far (turned), skip signs still of the separator -/
def splitL (sep : List Nat) : List Nat → List Nat → Nat → List (List Nat)
  | [], cur, _ => [cur.reverse]
  | x :: xs, cur, 0 => if isPre sep (x :: xs) then cur.reverse :: splitL sep xs [] (sep.length - 1) else splitL sep xs (x :: cur) 0
  | _ :: xs, cur, k + 1 => splitL sep xs cur k
def splitT (x sep : T) : Option T := match x, sep with
  | .str s, .str p => if 0 < p.length ∧ s.length ≤ 100000 then some (.lst ((splitL p.cps.toList s.cps.toList [] 0).map Mp.str)) else none
  | _, _ => none
def getT (d k x : T) : Option T := match d with
  | .dct kvs => if keyT k then some ((dget k kvs).getD x) else none
  | _ => none
def indexOf (x : T) : List T → Option Nat
  | [] => none
  | y :: ys => if T.eqv y x then some 0 else (indexOf x ys).map (· + 1)
def indexT (l x : T) : Option T := match l, x with
  | .lst xs, x => if T.okd 12 x && T.okd 12 (.lst xs) then (indexOf x xs).map fun k => .int k else none
  | .tup xs, x => if T.okd 12 x && T.okd 12 (.tup xs) then (indexOf x xs).map fun k => .int k else none
  | .str s, .str p => if p.length = 1 then (findC (p.cps.getD 0 0) s.cps.toList).map fun k => .int k else none
  | _, _ => none
def countT (l x : T) : Option T := match l with
  | .lst xs => if T.okd 12 x && T.okd 12 (.lst xs) then some (.int (xs.countP fun y => T.eqv y x)) else none
  | _ => none

/-! ### what a loop walks -/
abbrev EvI := Ev (List T)
def rangeL (lo : Int) : Nat → List T
  | 0 => []
  | n + 1 => .int lo :: rangeL (lo + 1) n
/-- a list of the store that is walked is a value from here on -/
def asSeq : T → EvI
  | .lst xs => Ev.pure xs
  | .tup xs => Ev.pure xs
  | .obj n => fun _ st => (match st[n]? with
    | some (.lst xs) => .ok xs (st.set n .no)
    | _ => .bad)
  | _ => Ev.bad
def itSeq (f : EvT) : EvI := f.bind asSeq
def asRng : T → EvI
  | .int j => if j < 2 ^ 60 ∧ -(2 ^ 60) < j then Ev.pure (rangeL 0 j.toNat) else Ev.bad
  | _ => Ev.bad
def asRng2 : T → T → EvI
  | .int i, .int j => if (j < 2 ^ 60 ∧ -(2 ^ 60) < j) ∧ i < 2 ^ 60 ∧ -(2 ^ 60) < i then Ev.pure (rangeL i (j - i).toNat) else Ev.bad
  | _, _ => Ev.bad
def itRng1 (f : EvT) : EvI := f.bind asRng
def itRng2 (f g : EvT) : EvI := f.bind fun x => g.bind fun y => asRng2 x y
def enumL (k : Int) : List T → List T
  | [] => []
  | x :: xs => .tup [.int k, x] :: enumL (k + 1) xs
def asEnum : T → EvI
  | .lst xs => Ev.pure (enumL 0 xs)
  | .tup xs => Ev.pure (enumL 0 xs)
  | _ => Ev.bad
def itEnum (f : EvT) : EvI := f.bind asEnum
def isTup : Expr → Bool
  | .Tuple _ _ _ => true
  | _ => false

/-! ### targets: the places that are set -/
inductive Tg where
  | name (i : Nat) | tup (gs : List Tg)
  deriving Inhabited
mutual
def Tg.put : Tg → T → En → Option En
  | .name i, t, env => some (env.set i (.fr t))
  | .tup gs, .tup ts, env => Tg.putL gs ts env
  | .tup _, _, _ => none
def Tg.putL : List Tg → List T → En → Option En
  | [], [], env => some env
  | g :: gs, t :: ts, env => (Tg.put g t env).bind fun env' => Tg.putL gs ts env'
  | _, _, _ => none
end
/-- the block's own names forgotten -/
def wipeE : List Nat → En → En
  | [], env => env
  | v :: vs, env => (wipeE vs env).set v .no

/-! ### comprehensions -/
def Out.noErr {α : Type} : Out α → Out α
  | .err _ _ _ => .bad
  | r => r
/-- items for which the test holds, their elements -/
def compL (g : Tg) (c : EvB) (e : EvT) (env : En) : List T → Store → Out (List T)
  | [], st => .ok [] st
  | x :: xs, st => match Tg.put g x env with
    | none => .bad
    | some env' => match c env' st with
      | .ok true st1 => (match e env' st1 with
        | .ok y st2 => (match compL g c e env xs st2 with
          | .ok ys st3 => .ok (y :: ys) st3
          | _ => .bad)
        | _ => .bad)
      | .ok false st1 => compL g c e env xs st1
      | _ => .bad
def tYes : EvB := Ev.pure true
def comp1 (vs : List Nat) (it : EvI) (g : Tg) (c : EvB) (e : EvT) : EvT := it.bind fun xs env st => if xs.length ≤ 100000 then (match compL g c e (wipeE vs env) xs st with
  | .ok ys st2 => .ok (.lst ys) st2
  | _ => .bad) else .bad

/-! ### calls -/
def callP (fn : FnD) (args : List EvT) : EvT := (evL args).bind fun ts _ st => fn ts st

/-! ### statements -/
def sNx : EvS := fun env st => .ok .nx env st
def sBad : EvS := fun _ _ => .bad
def sFl (f : Fl) : EvS := fun env st => .ok f env st
def sBind {α : Type} (f : Ev α) (k : α → EvS) : EvS := fun env st => match f env st with
  | .ok a st1 => k a env st1
  | .err c vs st' => .err c vs env st'
  | .bad => .bad
def sSeq (f g : EvS) : EvS := fun env st => match f env st with
  | .ok .nx env1 st1 => g env1 st1
  | r => r
def sPick (f g : EvS) (b : Bool) : EvS := match b with
  | true => f
  | false => g
def sIf (c : EvB) (f g : EvS) : EvS := sBind c (sPick f g)
def sRet (f : EvT) : EvS := sBind f fun t => sFl (.ret t)
def sExpr (f : EvT) : EvS := sBind f fun _ => sNx
/-- the own ones among some names: values from here on -/
def frzE : List Nat → En → En
  | [], env => env
  | i :: is, env => match env[i]? with
    | some (.own t) => frzE is (env.set i (.fr t))
    | _ => frzE is env
def frz (is : List Nat) (f : EvS) : EvS := fun env st => f (frzE is env) st
def sEnv (f : En → Option En) : EvS := fun env st => match f env with
  | some env' => .ok .nx env' st
  | none => .bad
def sAsg (g : Tg) (f : EvT) : EvS := sBind f fun t => sEnv (Tg.put g t)
/-- x = a new list, dict -/
def ownTo (i : Nat) (t : T) : En → Option En := fun env => match t with
  | .lst xs => some (env.set i (.own (.lst xs)))
  | .dct xs => some (env.set i (.own (.dct xs)))
  | _ => none
def sOwn (i : Nat) (f : EvT) : EvS := sBind f fun t => sEnv (ownTo i t)
/-- x = a new list that stands in the store -/
def toCell (i : Nat) (t : T) : EvS := fun env st => match t with
  | .lst xs => .ok .nx (env.set i (.fr (.obj st.length))) (st ++ [.lst xs])
  | _ => .bad
def sShr (i : Nat) (f : EvT) : EvS := sBind f (toCell i)
/-- a, b, .. = e, f, .. -/
def putN : List Nat → List T → En → Option En
  | [], [], env => some env
  | i :: is, t :: ts, env => putN is ts (env.set i (.fr t))
  | _, _, _ => none
def sPar (is : List Nat) (fs : List EvT) : EvS := sBind (evL fs) fun ts => sEnv (putN is ts)
/-- a change of an own list or dict -/
def updOwn (i : Nat) (op : T → List T → Option T) (ts : List T) : En → Option En := fun env => match env[i]? with
  | some (.own t) => (op t ts).map fun t' => env.set i (.own t')
  | _ => none
def isOwn : Option Slot → Bool
  | some (.own (.lst _)) => true
  | _ => false
def sUpd (i : Nat) (f : Ev (List T)) (op : T → List T → Option T) : EvS := fun env st => match isOwn env[i]? with
  | true => sBind f (fun ts => sEnv (updOwn i op ts)) env st
  | false => .bad
def opApp : T → List T → Option T
  | .lst xs, [x] => if xs.length < 100000 then some (.lst (xs ++ [x])) else none
  | _, _ => none
/-- x[i] = v: the value first -/
def opPut : T → List T → Option T
  | .lst xs, [v, .int i] => (match ixOf i xs.length with
    | some k => some (.lst (xs.set k v))
    | none => none)
  | _, _ => none
/-- .. in place: ints alone -/
def opAddI : T → T → Option T
  | .int i, .int j => some (.int (i + j))
  | _, _ => none
def augOp : Operator → Option (T → T → Option T)
  | .Add => some opAddI
  | .Sub => some opSub
  | _ => none
/-- x op= e -/
def sAug (i : Nat) (op : T → T → Option T) (f : EvT) : EvS := fun env st => match env[i]? with
  | some (.fr x) => sBind f (fun y => sEnv fun env => (op x y).map fun z => env.set i (.fr z)) env st
  | _ => .bad
/-- o[i] = v, o a list of the store -/
def setIx (st : Store) (v : T) : T → T → Option Store
  | .obj n, .int i => (match st[n]? with
    | some (.lst xs) => (match ixOf i xs.length with
      | some k => some (st.set n (.lst (xs.set k v)))
      | none => none)
    | _ => none)
  | _, _ => none
def sSto (f : Store → Option Store) : EvS := fun env st => match f st with
  | some st' => .ok .nx env st'
  | none => .bad
def sIx (e o i : EvT) : EvS := sBind e fun v => sBind o fun x => sBind i fun k => sSto fun st => setIx st v x k
/-- a list of the store -/
def chkL (x : T) : Ev Unit := fun _ st => match x with
  | .obj n => (match st[n]? with
    | some (.lst _) => .ok () st
    | _ => .bad)
  | _ => .bad
def appSt (st : Store) (v : T) : T → Option Store
  | .obj n => (match st[n]? with
    | some (.lst xs) => if xs.length < 100000 then some (st.set n (.lst (xs ++ [v]))) else none
    | _ => none)
  | _ => none
def clrSt (st : Store) : T → Option Store
  | .obj n => (match st[n]? with
    | some (.lst _) => some (st.set n (.lst []))
    | _ => none)
  | _ => none
/-- o.append(e), o a list of the store -/
def sAppS (o e : EvT) : EvS := sBind o fun x => sBind (chkL x) fun _ => sBind e fun v => sSto fun st => appSt st v x
/-- .. e a new list, that stands in the store from here on -/
def appNew (x v : T) : EvS := match v with
  | .lst ys => sSto fun st => appSt (st ++ [.lst ys]) (.obj st.length) x
  | _ => sBad
def sAppN (o e : EvT) : EvS := sBind o fun x => sBind (chkL x) fun _ => sBind e fun v => appNew x v
def sClrS (o : EvT) : EvS := sBind o fun x => sSto fun st => clrSt st x
def forL (g : Tg) (body : EvS) : List T → EvS
  | [], env, st => .ok .nx env st
  | x :: xs, env, st => match Tg.put g x env with
    | none => .bad
    | some env' => match body env' st with
      | .ok .nx env1 st1 => forL g body xs env1 st1
      | .ok .ct env1 st1 => forL g body xs env1 st1
      | .ok .brk env1 st1 => .ok .nx env1 st1
      | .ok (.ret t) env1 st1 => .ok (.ret t) env1 st1
      | .err c vs env1 st1 => .err c vs env1 st1
      | .bad => .bad
def sFor (it : EvI) (g : Tg) (body : EvS) : EvS := sBind it (forL g body)
def whileL (c : EvB) (body : EvS) : Nat → EvS
  | 0, _, _ => .bad
  | n + 1, env, st => match c env st with
    | .ok true st1 => (match body env st1 with
      | .ok .nx env1 st2 => whileL c body n env1 st2
      | .ok .ct env1 st2 => whileL c body n env1 st2
      | .ok .brk env1 st2 => .ok .nx env1 st2
      | .ok (.ret t) env1 st2 => .ok (.ret t) env1 st2
      | .err c vs env1 st1 => .err c vs env1 st1
      | .bad => .bad)
    | .ok false st1 => .ok .nx env st1
    | .err c vs st' => .err c vs env st'
    | .bad => .bad
/-- the turns a while may take -/
def turns : Nat := 1000000
def sWhile (c : EvB) (body : EvS) : EvS := whileL c body turns

/-- a def by its body: n names -/
def endFn : OutS → Out T
  | .ok .nx _ st1 => .ok .non st1
  | .ok (.ret t) _ st1 => .ok t st1
  | .ok _ _ _ => .bad
  | .err c vs _ st1 => .err c vs st1
  | .bad => .bad
def startE (n : Nat) (ts : List T) : En := ts.map Slot.fr ++ List.replicate (n - ts.length) Slot.no
/-- p parameters, n names -/
def runFn (p n : Nat) (body : EvS) : FnD := fun ts st => if ts.length = p then endFn (body (startE n ts) st) else .bad

/-! ### classes -/
/-- where a parameter's value comes from: a place, a keyword, what stands for it -/
inductive Src where
  | p (i : Nat) | k (i : Nat) | d (t : T)
  deriving Inhabited
def Src.get (ts zs : List T) : Src → Option T
  | .p i => ts[i]?
  | .k i => zs[i]?
  | .d t => some t
def fillT (ss : List Src) (ts zs : List T) : Option (List T) := match ss with
  | [] => some []
  | s :: ss => match s.get ts zs, fillT ss ts zs with
    | some t, some r => some (t :: r)
    | _, _ => none
/-- a way to call: so many by place, these by keyword -/
structure Shp where
  np : Nat
  ks : List Str
  src : List Src
  deriving Inhabited
def plainD (ds : List Fd) : Bool := ds.all fun d => !d.own
/-- C(..): a cell is filled by __init__, then it is a value -/
def newI (c : Str) (fn : FnD) : FnD := fun ts st => match fn (.obj st.length :: ts) (st ++ [.ins c [] []]) with
  | .ok .non st1 => (match st1[st.length]? with
    | some (.ins c' ns ds) => if c' == c && plainD ds then .ok (.ins c ns (ds.map (·.t))) (st1.set st.length .no) else .bad
    | _ => .bad)
  | .ok _ _ => .bad
  | .err d vs st1 => .err d vs st1
  | .bad => .bad
/-- o.f = v, o an instance of the store -/
def setFld (f : Str) (st : Store) (v : T) : T → Option Store
  | .obj n => (match st[n]? with
    | some (.ins c ns ds) => if decide (ds.length < 900) && plainD ds && decide (ds.length = ns.length) then some (st.set n (.ins c (putF f ⟨false, v⟩ ns ds).1 (putF f ⟨false, v⟩ ns ds).2)) else none
    | _ => none)
  | _ => none
/-- the class of a value -/
def clsOf (st : Store) : T → Option Str
  | .ins c _ _ => some c
  | .obj n => (match st[n]? with
    | some (.ins c _ _) => some c
    | _ => none)
  | _ => none

/-! ### a try that tells what it caught -/
/-- an except clause: its classes, the fields that are told -/
structure HdD where
  cs : List Str
  fs : List Str
  deriving Inhabited
def nameL : List Expr → Option (List Str)
  | [] => some []
  | .Name x _ :: es => (nameL es).map (x :: ·)
  | _ => none
def clsN : Expr → Option (List Str)
  | .Name x _ => some [x]
  | .Tuple es _ _ => nameL es
  | _ => none
def fldL (e : Str) : List Expr → Option (List Str)
  | [] => some []
  | .Attribute (.Name x _) f _ :: es => if x == e then (fldL e es).map (f :: ·) else none
  | _ => none
def hdOf (n : Str) : ExceptHandler → Option HdD
  | .ExceptHandler (some ty) (some e) [.Return (some (.Tuple es _ _)) _] _ => if e == n then (match clsN ty, fldL e es with
    | some cs, some fs => some ⟨cs, fs⟩
    | _, _ => none) else none
  | _ => none
def hdsOf (n : Str) : List ExceptHandler → Option (List HdD)
  | [] => some []
  | h :: r => match hdOf n h, hdsOf n r with
    | some d, some ds => some (d :: ds)
    | _, _ => none
/-- try: return ('w', act()), the clauses: act's name, e's name -/
def triedOf (act n : Str) : List Stmt → Option (Str × List HdD)
  | [.Try [.Return (some (.Tuple [.Constant (.str w) _ _, .Call (.Name a _) [] [] _] _ _)) _] (h :: hds) [] [] _] => if a == act then (hdsOf n (h :: hds)).map (w, ·) else none
  | _ => none
def pickH : List HdD → Str → Option (List Str)
  | [], _ => none
  | h :: r, c => if h.cs.contains c then some h.fs else pickH r c
def fldsT (ns : List Str) (vs : List T) : List Str → Option (List T)
  | [] => some []
  | f :: fs => match lookF f ns vs, fldsT ns vs fs with
    | some t, some ts => some (t :: ts)
    | _, _ => none
/-- what the try makes of what act() comes to; xn: the fields' names of a class -/
def triedR (xn : Str → Option (List Str)) (w : Str) (hs : List HdD) : Out T → Out T
  | .ok t st => .ok (.tup [.str w, t]) st
  | .err c vs st => (match pickH hs c, xn c with
    | some fs, some ns => (match fldsT ns vs fs with
      | some ts => .ok (.tup ts) st
      | none => .bad)
    | _, _ => .bad)
  | .bad => .bad
/-- the store's place ti bears the table q -/
def tabAt (st : Store) (ti : Nat) (q : Str) : Bool := match st[ti]? with
  | some (.tab q') => q' == q
  | _ => false
/-- x(lambda: e): e is evaluated where it stands -/
def tryE (xn : Str → Option (List Str)) (w : Str) (hs : List HdD) (ti : Nat) (q : Str) (act : EvT) : EvT := fun env st => match tabAt st ti q with
  | true => triedR xn w hs (act env st)
  | false => .bad

/-- y(lambda: e, d): like's answer of what the try tells and of d -/
def isE (xn : Str → Option (List Str)) (w : Str) (hs : List HdD) (ti : Nat) (q : Str) (act : EvT) (like : FnD) (due : EvT) : EvT := fun env st => match tabAt st ti q with
  | true => due.bind (fun d env st => match triedR xn w hs (act env st) with
    | .ok t st1 => (match like [t, d] st1 with
      | .ok u st2 => .ok u st2
      | _ => .bad)
    | _ => .bad) env st
  | false => .bad

/-! ### from the syntax -/
structure FnE where
  ps : List Str
  fn : FnD
  fresh : Bool
  lvl : Nat
  deriving Inhabited
/-- a class: its __init__ by values, its fields' names, the ways to call it -/
structure ClsE where
  fn : FnD
  lvl : Nat
  shp : List Shp
  deriving Inhabited
/-- a def that calls what it gets -/
inductive HofE where
  | tried (w : Str) (hs : List HdD) | is (w : Str) (hs : List HdD) (like : FnE)
  deriving Inhabited
structure Genv where
  consts : List (Str × T)
  fns : List (Str × FnE)
  cls : List (Str × ClsE) := []
  /-- the fields' names of a class -/
  fld : List (Str × List Str) := []
  /-- a method's name, the class, the def -/
  mth : List (Str × List (Str × FnE)) := []
  /-- exceptions' classes: the fields' names, the last one first -/
  exc : List (Str × List Str) := []
  hof : List (Str × HofE) := []
  deriving Inhabited
/-- a def's own: its names by slot, its scope, the slots of lists that are changed in place, of those that stand in the store; the names that may be set -/
structure Cfg where
  N : List Str
  sc : List (Str × NameKind)
  acc : List Nat
  shr : List Nat
  set : List Str
  fresh : Bool
  lvl : Nat
  G : Genv
  /-- lambdas: the place of the def's table in the store, its name -/
  lam : Option (Nat × Str) := none
  deriving Inhabited

def fldG (G : Genv) (f : Str) (st : Store) (x : T) : Option T := match clsOf st x with
  | some c => (match G.fld.lookup c with
    | some fs => if fs.contains f then fldT f st x else none
    | none => none)
  | none => none
def setFldG (G : Genv) (f : Str) (st : Store) (v x : T) : Option Store := match clsOf st x with
  | some c => (match G.fld.lookup c with
    | some fs => if fs.contains f then setFld f st v x else none
    | none => none)
  | none => none
def sFldS (G : Genv) (f : Str) (e o : EvT) : EvS := sBind e fun v => sBind o fun x => sSto fun st => setFldG G f st v x
def nsOf (st : Store) : T → List Str
  | .ins _ ns _ => ns
  | .obj n => (match st[n]? with
    | some (.ins _ ns _) => ns
    | _ => [])
  | _ => []
def mfr (ents : List (Str × FnE)) : Bool := ents.all (·.2.fresh)
def pickM (ents : List (Str × FnE)) (m : Str) (n : Nat) (st : Store) (x : T) : Option FnE := match clsOf st x with
  | some c => (match ents.lookup c with
    | some e => if decide (n + 1 = e.ps.length) && !(nsOf st x).contains m && e.fresh == mfr ents then some e else none
    | none => none)
  | none => none
/-- o.m(..): by the class of o -/
def methC (ents : List (Str × FnE)) (m : Str) (n : Nat) (o : EvT) (args : List EvT) : EvT := o.bind fun x => (Ev.optS fun st => pickM ents m n st x).bind fun e => (evL args).bind fun ts _ st => e.fn (x :: ts) st
/-- C(..) -/
def newC (c : Str) (fn : FnD) (ss : List Src) (args kws : List EvT) : EvT := (evL args).bind fun ts => (evL kws).bind fun zs => (Ev.opt (fillT ss ts zs)).bind fun us _ st => newI c fn us st
def ixS (x : Str) : List Str → Option Nat
  | [] => none
  | y :: ys => if y == x then some 0 else (ixS x ys).map (· + 1)
def Cfg.slot (c : Cfg) (x : Str) : Option Nat := match ixS x c.N, c.sc.lookup x with
  | some i, some .local => some i
  | some i, some .cell => some i
  | some i, some .free => some i
  | _, _ => none
def Cfg.setSlot (c : Cfg) (x : Str) : Option Nat := match ixS x c.N, c.sc.lookup x with
  | some i, some .local => if c.set.contains x then some i else none
  | some i, some .cell => if c.set.contains x then some i else none
  | _, _ => none
def Cfg.glob (c : Cfg) (x : Str) : Bool := match c.sc.lookup x with
  | some .globalImplicit => !(x == ("__debug__" : Str))
  | _ => false
def Genv.known (G : Genv) (x : Str) : Bool := (G.consts.lookup x).isSome || (G.fns.lookup x).isSome || (G.cls.lookup x).isSome
/-- the built-ins that are used -/
def bltNames : List Str := ["len", "range", "tuple", "list", "any", "all", "sum", "max", "min", "sorted", "int", "str", "isinstance", "enumerate", "bool", "dict"]
/-- a built-in's name -/
def Cfg.blt (c : Cfg) (x : Str) : Bool := c.glob x && !c.G.known x && bltNames.contains x
/-- a new list or dict -/
def freshX (c : Cfg) : Expr → Bool
  | .List _ _ => true
  | .ListComp _ _ _ _ => true
  | .BinOp _ .Add _ _ => true
  | .BinOp _ .Mult _ _ => true
  | .Subscript _ (.Slice _ _ _ _) _ => true
  | .Call (.Name f _) _ _ _ => if c.glob f then (match c.G.fns.lookup f with
    | some e => e.fresh
    | none => f == ("list" : Str) || f == ("sorted" : Str)) else false
  | .Call (.Attribute _ m _) _ _ _ => (match c.G.mth.lookup m with
    | some ents => mfr ents
    | none => false)
  | _ => false

/-- a block's names (as the running frame sees them) -/
def relN (scope : Scope) (sc : List (Str × NameKind)) : List (Str × NameKind) :=
  scope.names.map fun (n, k) => if (k == .free && sc.lookup n == some .cell) then (n, .cell) else (n, k)
/-- the block's own names with their places -/
def ownOf (N : List Str) : List (Str × NameKind) → List (Str × Nat)
  | [] => []
  | (n, k) :: r => match k, ixS n N with
    | .local, some i => (n, i) :: ownOf N r
    | .cell, some i => (n, i) :: ownOf N r
    | _, _ => ownOf N r
/-- what a block's names must keep -/
def blkB (N : List Str) (sc : List (Str × NameKind)) (scope : Scope) : Bool :=
  L2.blkC N { scope with names := sc } scope (ownOf N scope.names)
def Cfg.blk (c : Cfg) (scope : Scope) : Cfg := { c with sc := relN scope c.sc, set := (ownOf c.N scope.names).map (·.1), lam := none }
/-- within a lambda -/
def Cfg.lamC (c : Cfg) (scope : Scope) : Cfg := { c with sc := scope.names, acc := [], shr := [], set := [], fresh := false, lvl := c.lvl - 3, lam := none }
def lamB (c : Cfg) (scope : Scope) : Bool := LamX.lamSB { scope with names := c.sc } scope && decide (4 ≤ c.lvl)
def HofE.okB (c : Cfg) : HofE → Bool
  | .tried _ _ => true
  | .is _ _ like => decide (like.lvl + 2 ≤ c.lvl) && !like.fresh
def kindName (x : Str) : Option String :=
  if x == ("bool" : Str) then some "bool" else if x == ("int" : Str) then some "int" else if x == ("str" : Str) then some "str"
  else if x == ("tuple" : Str) then some "tuple" else if x == ("list" : Str) then some "list" else none
def tyName1 (c : Cfg) : Expr → Option String
  | .Name x _ => if c.blt x then kindName x else none
  | _ => none
def tyNames1 (c : Cfg) : List Expr → Option (List String)
  | [] => some []
  | e :: es => (tyName1 c e).bind fun x => (tyNames1 c es).map (x :: ·)
/-- a class, or a tuple of classes -/
def tyNames (c : Cfg) : Expr → Option (List String)
  | .Tuple es _ _ => (tyNames1 c es).bind fun bs => if bs.length ≤ 10 then some bs else none
  | .Name x p => (tyName1 c (.Name x p)).map fun x => [x]
  | _ => none
def isSlice : Expr → Bool
  | .Slice _ _ _ _ => true
  | _ => false
def isStar : Expr → Bool
  | .Starred _ _ => true
  | _ => false
/-- no super() -/
def okBase : Expr → Bool
  | .Call (.Name _ _) [] [] _ => false
  | _ => true
/-- no display of a set, no comprehension: what the model treats by its form -/
def isPlain : Expr → Bool
  | .Set _ _ _ => false
  | .SetComp _ _ _ _ => false
  | .DictComp _ _ _ _ _ => false
  | _ => true
def isComp : Expr → Bool
  | .ListComp _ _ _ _ => true
  | _ => false
/-- a target of names -/
def dG (c : Cfg) : Nat → Expr → Option Tg
  | 0, _ => none
  | n + 1, e => match e with
    | .Name x _ => (c.setSlot x).map Tg.name
    | .Tuple es _ _ => (es.mapM (dG c n)).map Tg.tup
    | _ => none

/-- a list of one's own that is walked where it stands -/
def itOwn (c : Cfg) (vs : List Nat) : Expr → Option Nat
  | .Name x _ => (match c.slot x with
    | some i => if c.acc.contains i && !vs.contains i then some i else none
    | none => none)
  | _ => none
def pickI (o : Option Nat) (f : EvI) : EvI := match o with
  | some i => itSeq (peek i)
  | none => f
def kwName : Keyword → Option Str
  | ⟨x, _, _⟩ => x
def kwVal : Keyword → Expr
  | ⟨_, e, _⟩ => e
/-- a class that is called, and how -/
def clsAt (c : Cfg) (f : Expr) (args : List Expr) (kws : List Keyword) : Option (Str × ClsE × Shp) := match f with
  | .Name x _ => (match c.G.cls.lookup x with
    | some ce => if c.glob x && decide (ce.lvl + 1 < c.lvl) && !args.isEmpty && !args.any isStar && kws.all (fun k => (kwName k).isSome) && (c.G.fns.lookup x).isNone && !(x == ("list" : Str)) && !(x == ("sorted" : Str)) && !(x == ("dict" : Str))
      then (ce.shp.find? fun sh => decide (sh.np = args.length) && sh.ks == kws.filterMap kwName).map fun sh => (x, ce, sh) else none
    | none => none)
  | _ => none
def mthB (c : Cfg) (ents : List (Str × FnE)) (o : Expr) (ap p : Pos) (args : List Expr) : Bool :=
  !ents.isEmpty && (ents.all fun q => decide (q.2.lvl < c.lvl)) && okBase o && !args.any isStar && decide (args.length < 20) && ap.endLine == p.line
/-- more built-ins of one argument -/
def dBlt2 (f : Str) (fa : EvT) : EvT :=
  if f == ("sum" : Str) then ev1S sumT fa
  else if f == ("max" : Str) then ev1S max1 fa
  else if f == ("min" : Str) then ev1S min1 fa
  else if f == ("sorted" : Str) then ev1S sortT fa
  else if f == ("int" : Str) then ev1 intT fa
  else if f == ("str" : Str) then ev1 strT fa
  else if f == ("dict" : Str) then ev1 dictT fa
  else Ev.bad
/-- x(lambda: e), x(lambda: e, d) -/
def hofAt (c : Cfg) (f : Expr) (args : List Expr) (kws : List Keyword) : Option (HofE × Nat × Str × Scope × Expr × Option Expr) := match f, kws, args, c.lam with
  | .Name x _, [], .Lambda ⟨[], [], none, [], [], none, []⟩ body scope _ :: rest, some (ti, q) => (match c.G.hof.lookup x with
    | some e => if c.glob x && lamB c scope && e.okB c && (c.G.fns.lookup x).isNone && !(x == ("list" : Str)) && !(x == ("sorted" : Str)) then (match rest with
        | [] => some (e, ti, q, scope, body, none)
        | [d] => if isStar d then none else some (e, ti, q, scope, body, some d)
        | _ => none) else none
    | none => none)
  | _, _, _, _ => none
mutual
/-- an expression's value -/
def dE (c : Cfg) : Nat → Expr → EvT
  | 0, _ => Ev.bad
  | n + 1, e => match e with
    | .Constant .none _ _ => con .non
    | .Constant (.bool b) _ _ => con (.bl b)
    | .Constant (.int i) _ _ => con (.int i)
    | .Constant (.str s) _ _ => con (.str s)
    | .Name x _ => (match c.slot x with
      | some i => var i
      | none => if c.glob x then (match c.G.consts.lookup x with
        | some t => con t
        | none => Ev.bad) else Ev.bad)
    | .BinOp a op b _ => (match binOp op with
      | some f => ev2 f (dB c n a) (dB c n b)
      | none => Ev.bad)
    | .UnaryOp .USub a _ => ev1 opNeg (dE c n a)
    | .UnaryOp .Not a _ => notV (dE c n a)
    | .BoolOp op es _ => dBool c n op es
    | .Compare a [op] [b] _ => (match cmpOp op with
      | some f => if behindInMarks op b then Ev.bad else ev2 f (dB c n a) (dB c n b)
      | none => Ev.bad)
    | .Compare a [op, op'] [b, b'] _ => (match cmpOp op, cmpOp op' with
      | some f, some f' => if behindInMarks op' b' then Ev.bad else chain f f' (dE c n a) (dE c n b) (dE c n b')
      | _, _ => Ev.bad)
    | .IfExp t a b _ => iteE (dT c n t) (dE c n a) (dE c n b)
    | .Tuple es _ _ => evN mkTup (dEs c n es)
    | .List es _ => evN mkLst (dEs c n es)
    | .Subscript o i _ => (match i with
      | .Slice lo hi none _ => ev3S opCut (dB c n o) (dO c n lo) (dO c n hi)
      | .Slice lo hi (some s) _ => if isRev lo hi s then ev1S opRev (dB c n o) else Ev.bad
      | i => ev2S opIx (dB c n o) (dE c n i))
    | .ListComp elt gs scope _ => dLc c n elt gs scope
    | .Attribute o f _ => if okBase o then ev1S (fldG c.G f) (dE c n o) else Ev.bad
    | .Call f args kws p => dCall c n f args kws p
    | _ => Ev.bad
/-- a call of any kind -/
def dCall (c : Cfg) : Nat → Expr → List Expr → List Keyword → Pos → EvT
  | 0, _, _, _, _ => Ev.bad
  | n + 1, f, args, kws, p => match f with
    | .Attribute o m ap => (match kws, c.G.mth.lookup m with
      | [], some ents => if mthB c ents o ap p args then methC ents m args.length (dE c n o) (dEs c n args) else Ev.bad
      | _, _ => Ev.bad)
    | f => (match hofAt c f args kws with
      | some (.tried w hs, ti, q, scope, body, none) => tryE (fun x => c.G.exc.lookup x) w hs ti q (dE (c.lamC scope) n body)
      | some (.is w hs like, ti, q, scope, body, some d) => isE (fun x => c.G.exc.lookup x) w hs ti q (dE (c.lamC scope) n body) like.fn (dE c n d)
      | some _ => Ev.bad
      | none => (match clsAt c f args kws with
        | some (x, ce, sh) => newC x ce.fn sh.src (dEs c n args) (dEs c n (kws.map kwVal))
        | none => (match kws with
          | [] => dC c n f args
          | _ => Ev.bad)))
/-- a comprehension -/
def dLc (c : Cfg) : Nat → Expr → List Comprehension → Scope → EvT
  | 0, _, _, _ => Ev.bad
  | n + 1, elt, gs, scope => match gs with
    | [⟨tg, it, ifs, 0⟩] => if !blkB c.N c.sc scope || !isPlain it then Ev.bad else (match dG (c.blk scope) n tg with
      | some g => (match ifs with
        | [] => comp1 ((ownOf c.N scope.names).map (·.2)) (pickI (itOwn c ((ownOf c.N scope.names).map (·.2)) it) (dI c n tg it)) g tYes (dE (c.blk scope) n elt)
        | [t] => comp1 ((ownOf c.N scope.names).map (·.2)) (pickI (itOwn c ((ownOf c.N scope.names).map (·.2)) it) (dI c n tg it)) g (dT (c.blk scope) n t) (dE (c.blk scope) n elt)
        | _ => Ev.bad)
      | none => Ev.bad)
    | _ => Ev.bad
/-- .. a name read where it stands -/
def dB (c : Cfg) : Nat → Expr → EvT
  | 0, _ => Ev.bad
  | n + 1, e => match e with
    | .Name x p => (match c.slot x with
      | some i => if c.acc.contains i then peek i else var i
      | none => dE c n (.Name x p))
    | e => dE c n e
def dEs (c : Cfg) : Nat → List Expr → List EvT
  | 0, _ => [Ev.bad]
  | _ + 1, [] => []
  | n + 1, e :: es => dE c n e :: dEs c n es
/-- a slice's end -/
def dO (c : Cfg) : Nat → Option Expr → EvT
  | 0, _ => Ev.bad
  | _ + 1, none => con .non
  | n + 1, some e => (dE c n e).bind asPart
/-- and, or as values -/
def dBool (c : Cfg) : Nat → BoolOp → List Expr → EvT
  | 0, _, _ => Ev.bad
  | n + 1, _, [e] => dE c n e
  | n + 1, .And, e :: es => andV (dE c n e) (dBool c n .And es)
  | n + 1, .Or, e :: es => orV (dE c n e) (dBool c n .Or es)
  | _, _, _ => Ev.bad
/-- a test -/
def dT (c : Cfg) : Nat → Expr → EvB
  | 0, _ => Ev.bad
  | n + 1, e => match e with
    | .BoolOp op es _ => dTs c n op es
    | .UnaryOp .Not a _ => notT (dT c n a)
    | .IfExp t a b _ => (dT c n t).bind (pick (dT c n a) (dT c n b))
    | e => testV (dE c n e)
def dTs (c : Cfg) : Nat → BoolOp → List Expr → EvB
  | 0, _, _ => Ev.bad
  | n + 1, _, [e] => dT c n e
  | n + 1, .And, e :: es => andB (dT c n e) (dTs c n .And es)
  | n + 1, .Or, e :: es => orB (dT c n e) (dTs c n .Or es)
  | _, _, _ => Ev.bad
/-- what is walked -/
def dI (c : Cfg) : Nat → Expr → Expr → EvI
  | 0, _, _ => Ev.bad
  | n + 1, tg, e => match e with
    | .Call (.Name f p) args [] q => if c.blt f && f == ("range" : Str) then (match args with
        | [a] => itRng1 (dE c n a)
        | [a, b] => if isStar a || isStar b then Ev.bad else itRng2 (dE c n a) (dE c n b)
        | _ => Ev.bad)
      else if c.blt f && f == ("enumerate" : Str) then (match args with
        | [a] => if isTup tg && !isStar a then itEnum (dE c n a) else Ev.bad
        | _ => Ev.bad)
      else itSeq (dE c n (.Call (.Name f p) args [] q))
    | e => if isPlain e then itSeq (dE c n e) else Ev.bad
/-- calls -/
def dC (c : Cfg) : Nat → Expr → List Expr → EvT
  | 0, _, _ => Ev.bad
  | n + 1, f, args => match f with
    | .Name f _ => if c.glob f then (match c.G.fns.lookup f with
      | some e => if e.lvl < c.lvl && args.length == e.ps.length && !args.any isStar then callP e.fn (dEs c n args) else Ev.bad
      | none => if c.blt f then (match args with
          | [a] => if isStar a then Ev.bad else dBlt1 c n f a
          | [a, b] => if f == ("isinstance" : Str) then (match tyNames c b with
              | some ns => ev1S (isKind ns) (dB c n a)
              | none => Ev.bad)
            else Ev.bad
          | _ => Ev.bad) else Ev.bad) else Ev.bad
    | _ => Ev.bad
def dBlt1 (c : Cfg) : Nat → Str → Expr → EvT
  | 0, _, _ => Ev.bad
  | n + 1, f, a =>
    if f == ("len" : Str) then ev1S lenT (dB c n a)
    else if f == ("tuple" : Str) then ev1S tupleT (dB c n a)
    else if f == ("list" : Str) then ev1S listT (dB c n a)
    else if f == ("all" : Str) then ev1 allT (dB c n a)
    else if f == ("any" : Str) then ev1 anyT (dB c n a)
    else dBlt2 f (dB c n a)
end

/-- a dict's items by a comprehension, one behind another -/
def compD (g : Tg) (c : EvB) (ek ev : EvT) (env : En) : List T → List T → Store → Out (List T)
  | [], acc, st => .ok acc st
  | x :: xs, acc, st => match Tg.put g x env with
    | none => .bad
    | some env' => match c env' st with
      | .ok true st1 => (match ek env' st1 with
        | .ok kt st2 => (match ev env' st2 with
          | .ok vt st3 => if keyT kt then compD g c ek ev env xs (dput kt vt acc) st3 else .bad
          | _ => .bad)
        | _ => .bad)
      | .ok false st1 => compD g c ek ev env xs acc st1
      | _ => .bad
def dcomp (vs : List Nat) (it : EvI) (g : Tg) (c : EvB) (ek ev : EvT) : EvT := it.bind fun xs env st => if xs.length ≤ 100000 then (match compD g c ek ev (wipeE vs env) xs [] st with
  | .ok kvs st2 => .ok (.dct kvs) st2
  | _ => .bad) else .bad
/-- {k: v for .. in ..} -/
def dDc (c : Cfg) (n : Nat) (kx vx : Expr) (gs : List Comprehension) (scope : Scope) : EvT := match gs with
  | [⟨tg, it, [], 0⟩] => if !blkB c.N c.sc scope || !isPlain it then Ev.bad else (match dG (c.blk scope) n tg with
    | some g => dcomp ((ownOf c.N scope.names).map (·.2)) (pickI (itOwn c ((ownOf c.N scope.names).map (·.2)) it) (dI c n tg it)) g tYes (dE (c.blk scope) n kx) (dE (c.blk scope) n vx)
    | none => Ev.bad)
  | _ => Ev.bad

/-! ### statements from the syntax -/
/-- raise C(..): the values of its fields, the last one first -/
def sRaise (x : Str) (ns : List Str) (f : Ev (List T)) : EvS := sBind f fun ts env st => if ts.length + 1 = ns.length then .err x (ts.reverse ++ [.str x]) env st else .bad
/-- a name is read where it stands -/
def nb : Expr → List Nat → List Nat
  | .Name _ _, _ => []
  | _, l => l
/-- the places of own lists among the names of an expression that is handed on as a value -/
def rvE (c : Cfg) : Nat → Expr → List Nat
  | 0, _ => []
  | n + 1, e => match e with
    | .Name x _ => (match c.slot x with
      | some i => if c.acc.contains i then [i] else []
      | none => [])
    | .BinOp a _ b _ => nb a (rvE c n a) ++ nb b (rvE c n b)
    | .UnaryOp _ a _ => rvE c n a
    | .BoolOp _ es _ => es.flatMap (rvE c n)
    | .Compare a _ [b] _ => nb a (rvE c n a) ++ nb b (rvE c n b)
    | .Compare a _ es _ => rvE c n a ++ es.flatMap (rvE c n)
    | .IfExp t a b _ => rvE c n t ++ rvE c n a ++ rvE c n b
    | .Tuple es _ _ => es.flatMap (rvE c n)
    | .List es _ => es.flatMap (rvE c n)
    | .Subscript o (.Slice lo hi _ _) _ => nb o (rvE c n o) ++ lo.toList.flatMap (rvE c n) ++ hi.toList.flatMap (rvE c n)
    | .Subscript o i _ => nb o (rvE c n o) ++ rvE c n i
    | .ListComp elt [⟨_, it, ifs, _⟩] _ _ => rvE c n elt ++ nb it (rvE c n it) ++ ifs.flatMap (rvE c n)
    | .DictComp kx vx [⟨_, it, ifs, _⟩] _ _ => rvE c n kx ++ rvE c n vx ++ nb it (rvE c n it) ++ ifs.flatMap (rvE c n)
    | .Call (.Name f _) [a] _ _ => if c.blt f then nb a (rvE c n a) else rvE c n a
    | .Call (.Name _ _) as ks _ => as.flatMap (rvE c n) ++ ks.flatMap fun k => rvE c n (kwVal k)
    | .Call (.Attribute o _ _) as _ _ => rvE c n o ++ as.flatMap (rvE c n)
    | .Attribute o _ _ => rvE c n o
    | .Lambda _ _ scope _ => scope.names.filterMap fun p => (match c.slot p.1 with
      | some i => if c.acc.contains i then some i else none
      | none => none)
    | _ => []
def sFrz : List Nat → EvS → EvS
  | [], f => f
  | is, f => frz is f
/-- targets that are names -/
def namesT (c : Cfg) : List Expr → Option (List Nat)
  | [] => some []
  | .Name x _ :: es => match c.setSlot x, namesT c es with
    | some i, some is => some (i :: is)
    | _, _ => none
  | _ => none
def accS (c : Cfg) (x : Str) : Option Nat := match c.slot x with
  | some i => if c.acc.contains i then some i else none
  | none => none
def accO (c : Cfg) : Expr → Option Nat
  | .Name x _ => accS c x
  | _ => none
def isListD : Expr → Bool
  | .List _ _ => true
  | _ => false
/-- new lists put into it stand in the store -/
def nestO (c : Cfg) : Expr → Bool
  | .Name x _ => (match c.slot x with
    | some i => c.shr.contains i
    | none => false)
  | _ => false
mutual
def dS (c : Cfg) : Nat → Stmt → EvS
  | 0, _ => sBad
  | n + 1, s => match s with
    | .Pass _ => sNx
    | .Break _ => sFl .brk
    | .Continue _ => sFl .ct
    | .Expr (.Constant (.str _) _ _) _ => sNx
    | .Expr (.Call (.Attribute o m ap) [a] [] cp) _ => (match accO c o with
      | some j => if m == ("append" : Str) && !isStar a && ap.endLine == cp.line then sFrz (rvE c n a) (sUpd j (evL [dE c n a]) opApp) else sBad
      | none => if m == ("append" : Str) && okBase o && !isStar a && ap.endLine == cp.line then (if isListD a && nestO c o then sFrz (rvE c n o ++ rvE c n a) (sAppN (dE c n o) (dE c n a)) else sFrz (rvE c n o ++ rvE c n a) (sAppS (dE c n o) (dE c n a)))
        else sFrz (rvE c n o ++ rvE c n a) (sExpr (dE c n (.Call (.Attribute o m ap) [a] [] cp))))
    | .Expr (.Call (.Attribute o m ap) [] [] cp) _ => if m == ("clear" : Str) && okBase o && ap.endLine == cp.line && (accO c o).isNone then sFrz (rvE c n o) (sClrS (dE c n o)) else sFrz (rvE c n o) (sExpr (dE c n (.Call (.Attribute o m ap) [] [] cp)))
    | .Expr e _ => if isPlain e && !isComp e then sFrz (rvE c n e) (sExpr (dE c n e)) else sBad
    | .Raise (some (.Call (.Name x _) args [] _)) none _ => (match c.G.exc.lookup x with
      | some ns => if c.glob x && decide (3 < c.lvl) && !args.any isStar then sFrz (args.flatMap (rvE c n)) (sRaise x ns (evL (dEs c n args))) else sBad
      | none => sBad)
    | .Assign [.Attribute (.Name x p) f _] e _ => if isPlain e then sFrz (rvE c n e) (sFldS c.G f (dE c n e) (dE c n (.Name x p))) else sBad
    | .Return none _ => sRet (con .non)
    | .Return (some (.Name x p)) _ => (match accS c x with
      | some i => if c.fresh then sRet (ownV i) else sRet (peek i)
      | none => if c.fresh then sBad else sRet (dE c n (.Name x p)))
    | .Return (some e) _ => if c.fresh && !freshX c e then sBad else sFrz (rvE c n e) (sRet (dE c n e))
    | .Assign [.Name x _] (.DictComp kx vx gs scope dp) _ => (match c.setSlot x with
      | some i => sFrz (rvE c n (.DictComp kx vx gs scope dp)) (sAsg (.name i) (dDc c n kx vx gs scope))
      | none => sBad)
    | .Assign [.Name x _] e _ => (match c.setSlot x with
      | some i => if isPlain e then sFrz (rvE c n e) (if c.acc.contains i && freshX c e then sOwn i (dE c n e)
        else if c.shr.contains i && freshX c e then sShr i (dE c n e) else sAsg (.name i) (dE c n e)) else sBad
      | none => sBad)
    | .Assign [.Tuple [.Name x px, .Name y py] k p] (.Tuple [a, b] k' p') _ => (match c.setSlot x, c.setSlot y with
      | some i, some j => if i != j && x != y && c.sc.lookup x == some .local && c.sc.lookup y == some .local && px.line == py.line && !isStar a && !isStar b && !([a, b].all (foldedForSure 8)) && !([a, b].all (constantsAlone 8)) then sFrz (rvE c n a ++ rvE c n b) (sPar [i, j] (dEs c n [a, b])) else sBad
      | _, _ => sBad)
    | .Assign [.Tuple _ _ _] (.Tuple _ _ _) _ => sBad
    | .Assign [.Tuple tgs k p] e _ => (match dG c n (.Tuple tgs k p) with
      | some g => if isPlain e && !isComp e then sFrz (rvE c n e) (sAsg g (dE c n e)) else sBad
      | none => sBad)
    | .Assign [.Subscript (.Name x p) i _] e _ => if isSlice i then sBad else (match accS c x with
        | some j => sFrz (rvE c n e ++ rvE c n i) (sUpd j (evL [dE c n e, dE c n i]) opPut)
        | none => sIx (dE c n e) (dE c n (.Name x p)) (dE c n i))
    | .AugAssign (.Name x _) op e _ => (match c.setSlot x, augOp op with
      | some i, some f => sFrz (rvE c n e) (sAug i f (dE c n e))
      | _, _ => sBad)
    | .If t a b _ => sFrz (rvE c n t) (sIf (dT c n t) (dSs c n a) (dSs c n b))
    | .For tg it body [] _ => (match dG c n tg with
      | some g => if isPlain it then sFrz (rvE c n it) (sFor (dI c n tg it) g (dSs c n body)) else sBad
      | none => sBad)
    | .While t body [] _ => sWhile (dT c n t) (dSs c n body)
    | _ => sBad
def dSs (c : Cfg) : Nat → List Stmt → EvS
  | 0, _ => sBad
  | _ + 1, [] => sNx
  | n + 1, [s] => dS c n s
  | n + 1, s :: ss => sSeq (dS c n s) (dSs c n ss)
end
end Mp


set_option Elab.async false
set_option linter.all false
set_option maxRecDepth 100000
/-! Rel: what a tree value is in the model's heap; the state's relation. -/
namespace Mp
open PySem PySem.Spec PyProof.Rows L2

/-- what does not change: the written part, the classes' addresses -/
structure Gk where
  K : PySem.W.Frag
  cl : Str → Addr
  /-- the tables of inner code, the fields of exceptions -/
  tb : Str → Addr
  xn : Str → Option (List Str)
/-- the frozen part, the store's addresses, the store's size -/
structure Gh where
  F : Hp
  α : Nat → Addr
  B : Nat

def RepK : Key → T → Prop
  | .inl i, .int j => i = j
  | .inr s, .str t => s = t
  | _, _ => False
section
variable (k : Gk) (g : Gh)
mutual
def Rep : T → V → Prop
  | .non, v => v = .non
  | .bl b, v => v = .bl b
  | .int i, v => v = .int i
  | .str s, v => v = .str s
  | .tup xs, v => ∃ a vs, v = .ref a ∧ SqT k.K g.F a vs ∧ RepL xs vs
  | .lst xs, v => ∃ a vs, v = .ref a ∧ g.F a = some (.lst vs) ∧ RepL xs vs
  | .dct kvs, v => ∃ a gs, v = .ref a ∧ g.F a = some (.dK gs) ∧ RepE kvs gs
  | .set _, _ => False
  | .ins c ns ts, v => ∃ a dx ws, v = .ref a ∧ g.F a = some (.ins (k.cl c) dx (ns.zip ws)) ∧ ws.length = ns.length ∧ RepL ts ws
  | .obj n, v => v = .ref (g.α n) ∧ n < g.B
def RepL : List T → List V → Prop
  | [], vs => vs = []
  | t :: ts, vs => ∃ w ws, vs = w :: ws ∧ Rep t w ∧ RepL ts ws
/-- a dict's entries -/
def RepE : List T → List (Key × V) → Prop
  | [], gs => gs = []
  | .tup [kt, vt] :: r, gs => ∃ kk w ws, gs = (kk, w) :: ws ∧ RepK kk kt ∧ Rep vt w ∧ RepE r ws
  | _ :: _, _ => False
end
end

/-- one frozen part in another -/
def FSub (F F' : Hp) : Prop := ∀ a o, F a = some o → F' a = some o
theorem FSub.refl (F : Hp) : FSub F F := fun _ _ h => h
theorem FSub.trans {F F' F'' : Hp} (a : FSub F F') (b : FSub F' F'') : FSub F F'' := fun c o h => b c o (a c o h)
theorem SqT.fmono {K : PySem.W.Frag} {F F' : Hp} (h : FSub F F') {a : Addr} {xs : List V} (q : SqT K F a xs) : SqT K F' a xs := by
  rcases q with (q | ⟨o, q⟩) | q
  · exact .inl (.inl (h _ _ q))
  · exact .inl (.inr ⟨o, h _ _ q⟩)
  · exact .inr q
theorem SqL.fmono {K : PySem.W.Frag} {F F' : Hp} (h : FSub F F') {a : Addr} {xs : List V} (q : SqL K F a xs) : SqL K F' a xs := by
  rcases q with (q | ⟨o, q⟩) | q
  · exact .inl (.inl (h _ _ q))
  · exact .inl (.inr ⟨o, h _ _ q⟩)
  · exact .inr q
/-- what grows -/
structure GLe (g g' : Gh) : Prop where
  f : FSub g.F g'.F
  a : ∀ n, n < g.B → g'.α n = g.α n
  b : g.B ≤ g'.B
theorem GLe.refl (g : Gh) : GLe g g := ⟨FSub.refl _, fun _ _ => rfl, Nat.le_refl _⟩
theorem GLe.trans {g g' g'' : Gh} (x : GLe g g') (y : GLe g' g'') : GLe g g'' := ⟨x.f.trans y.f, fun n h => (y.a n (Nat.lt_of_lt_of_le h x.b)).trans (x.a n h), Nat.le_trans x.b y.b⟩
section
variable {k : Gk} {g g' : Gh}
mutual
theorem Rep.mono (h : GLe g g') : ∀ (t : T) (v : V), Rep k g t v → Rep k g' t v
  | .non, _, q => q
  | .bl _, _, q => q
  | .int _, _, q => q
  | .str _, _, q => q
  | .tup xs, v, q => by
    unfold Rep at q ⊢
    obtain ⟨a, vs, e, s, r⟩ := q
    exact ⟨a, vs, e, Mp.SqT.fmono h.f s, RepL.mono h xs vs r⟩
  | .lst xs, v, q => by
    unfold Rep at q ⊢
    obtain ⟨a, vs, e, s, r⟩ := q
    exact ⟨a, vs, e, h.f _ _ s, RepL.mono h xs vs r⟩
  | .dct xs, v, q => by
    unfold Rep at q ⊢
    obtain ⟨a, vs, e, s, r⟩ := q
    exact ⟨a, vs, e, h.f _ _ s, RepE.mono h xs vs r⟩
  | .set _, _, q => by unfold Rep at q; exact q.elim
  | .ins c ns ts, v, q => by
    unfold Rep at q ⊢
    obtain ⟨a, dx, ws, e, s1, l, r⟩ := q
    exact ⟨a, dx, ws, e, h.f _ _ s1, l, RepL.mono h ts ws r⟩
  | .obj n, v, q => by
    unfold Rep at q ⊢
    obtain ⟨e, l⟩ := q
    exact ⟨by rw [h.a n l]; exact e, Nat.lt_of_lt_of_le l h.b⟩
theorem RepL.mono (h : GLe g g') : ∀ (ts : List T) (vs : List V), RepL k g ts vs → RepL k g' ts vs
  | [], _, q => q
  | t :: ts, vs, q => by
    unfold RepL at q ⊢
    obtain ⟨w, ws, e, q1, q2⟩ := q
    exact ⟨w, ws, e, Rep.mono h t w q1, RepL.mono h ts ws q2⟩
theorem RepE.mono (h : GLe g g') : ∀ (ts : List T) (vs : List (Key × V)), RepE k g ts vs → RepE k g' ts vs
  | [], _, q => q
  | .tup [kt, vt] :: r, vs, q => by
    unfold RepE at q ⊢
    obtain ⟨kk, w, ws, e, q1, q2, q3⟩ := q
    exact ⟨kk, w, ws, e, q1, Rep.mono h vt w q2, RepE.mono h r ws q3⟩
  | .tup [] :: _, _, q => by simp [RepE] at q
  | .tup [_] :: _, _, q => by simp [RepE] at q
  | .tup (_ :: _ :: _ :: _) :: _, _, q => by simp [RepE] at q
  | .non :: _, _, q => by simp [RepE] at q
  | .bl _ :: _, _, q => by simp [RepE] at q
  | .int _ :: _, _, q => by simp [RepE] at q
  | .str _ :: _, _, q => by simp [RepE] at q
  | .lst _ :: _, _, q => by simp [RepE] at q
  | .dct _ :: _, _, q => by simp [RepE] at q
  | .set _ :: _, _, q => by simp [RepE] at q
  | .ins _ _ _ :: _, _, q => by simp [RepE] at q
  | .obj _ :: _, _, q => by simp [RepE] at q
end
theorem RepL.nil {vs : List V} : RepL k g [] vs ↔ vs = [] := by unfold RepL; exact Iff.rfl
theorem RepL.cons {t : T} {ts : List T} {vs : List V} : RepL k g (t :: ts) vs ↔ ∃ w ws, vs = w :: ws ∧ Rep k g t w ∧ RepL k g ts ws := by
  constructor
  · intro q; unfold RepL at q; exact q
  · intro q; unfold RepL; exact q
theorem RepL.length : ∀ {ts : List T} {vs : List V}, RepL k g ts vs → ts.length = vs.length
  | [], vs, q => by rw [RepL.nil] at q; subst q; rfl
  | t :: ts, vs, q => by
    rw [RepL.cons] at q
    obtain ⟨w, ws, e, _, r⟩ := q
    rw [e, List.length_cons, List.length_cons, RepL.length r]
theorem RepL.get : ∀ {ts : List T} {vs : List V} {i : Nat} {t : T}, RepL k g ts vs → ts[i]? = some t → ∃ v, vs[i]? = some v ∧ Rep k g t v
  | [], _, i, t, _, e => by simp at e
  | t :: ts, vs, 0, t', q, e => by
    rw [RepL.cons] at q
    obtain ⟨w, ws, rfl, h, _⟩ := q
    simp at e
    subst e
    exact ⟨w, rfl, h⟩
  | t :: ts, vs, i + 1, t', q, e => by
    rw [RepL.cons] at q
    obtain ⟨w, ws, rfl, _, r⟩ := q
    obtain ⟨v, h1, h2⟩ := RepL.get (i := i) r (by simpa using e)
    exact ⟨v, by simpa using h1, h2⟩
theorem RepL.append : ∀ {ts us : List T} {vs ws : List V}, RepL k g ts vs → RepL k g us ws → RepL k g (ts ++ us) (vs ++ ws)
  | [], us, vs, ws, q, r => by rw [RepL.nil] at q; subst q; exact r
  | t :: ts, us, vs, ws, q, r => by
    rw [RepL.cons] at q
    obtain ⟨w, vs', rfl, h, q⟩ := q
    exact RepL.cons.mpr ⟨w, vs' ++ ws, rfl, h, RepL.append q r⟩
theorem RepL.one {t : T} {v : V} (h : Rep k g t v) : RepL k g [t] [v] := RepL.cons.mpr ⟨v, [], rfl, h, RepL.nil.mpr rfl⟩
theorem RepL.take : ∀ {ts : List T} {vs : List V} (n : Nat), RepL k g ts vs → RepL k g (ts.take n) (vs.take n)
  | _, _, 0, _ => by simp [RepL.nil]
  | [], vs, n + 1, q => by rw [RepL.nil] at q; subst q; simp [RepL.nil]
  | t :: ts, vs, n + 1, q => by
    rw [RepL.cons] at q
    obtain ⟨w, vs', rfl, h, q⟩ := q
    exact RepL.cons.mpr ⟨w, vs'.take n, rfl, h, RepL.take n q⟩
theorem RepL.drop : ∀ {ts : List T} {vs : List V} (n : Nat), RepL k g ts vs → RepL k g (ts.drop n) (vs.drop n)
  | _, _, 0, q => by simpa using q
  | [], vs, n + 1, q => by rw [RepL.nil] at q; subst q; simp [RepL.nil]
  | t :: ts, vs, n + 1, q => by
    rw [RepL.cons] at q
    obtain ⟨w, vs', rfl, h, q⟩ := q
    simpa using RepL.drop n q
theorem RepL.set : ∀ {ts : List T} {vs : List V} {t : T} {v : V} (i : Nat), RepL k g ts vs → Rep k g t v → RepL k g (ts.set i t) (vs.set i v)
  | [], vs, _, _, i, q, _ => by rw [RepL.nil] at q; subst q; simp [RepL.nil]
  | t :: ts, vs, _, v, 0, q, h => by
    rw [RepL.cons] at q
    obtain ⟨w, vs', rfl, _, q⟩ := q
    exact RepL.cons.mpr ⟨v, vs', rfl, h, q⟩
  | t :: ts, vs, _, v, i + 1, q, h => by
    rw [RepL.cons] at q
    obtain ⟨w, vs', rfl, h', q⟩ := q
    exact RepL.cons.mpr ⟨w, vs'.set i v, rfl, h', RepL.set i q h⟩
theorem RepL.eraseIdx : ∀ {ts : List T} {vs : List V} (i : Nat), RepL k g ts vs → RepL k g (ts.eraseIdx i) (vs.eraseIdx i)
  | [], vs, i, q => by rw [RepL.nil] at q; subst q; simp [RepL.nil]
  | t :: ts, vs, 0, q => by
    rw [RepL.cons] at q
    obtain ⟨w, vs', rfl, _, q⟩ := q
    exact q
  | t :: ts, vs, i + 1, q => by
    rw [RepL.cons] at q
    obtain ⟨w, vs', rfl, h', q⟩ := q
    exact RepL.cons.mpr ⟨w, vs'.eraseIdx i, rfl, h', RepL.eraseIdx i q⟩
theorem RepL.reverse : ∀ {ts : List T} {vs : List V}, RepL k g ts vs → RepL k g ts.reverse vs.reverse
  | [], vs, q => by rw [RepL.nil] at q; subst q; simp [RepL.nil]
  | t :: ts, vs, q => by
    rw [RepL.cons] at q
    obtain ⟨w, vs', rfl, h', q⟩ := q
    rw [List.reverse_cons, List.reverse_cons]
    exact RepL.append (RepL.reverse q) (RepL.one h')
end

/-! ### the store, the slots -/
/-- a list or dict of one's own at a -/
def Own (k : Gk) (g : Gh) (H : Hp) (a : Addr) : T → Prop
  | .lst xs => ∃ vs, H a = some (.lst vs) ∧ RepL k g xs vs
  | .dct kvs => ∃ gs, H a = some (.dK gs) ∧ RepE k g kvs gs
  | _ => False
/-- a field -/
def FdOk (k : Gk) (g : Gh) (H : Hp) (d : Fd) (w : V) : Prop := match d.own with
  | false => Rep k g d.t w
  | true => ∃ a, w = .ref a ∧ Own k g H a d.t
def FdsOk (k : Gk) (g : Gh) (H : Hp) : List Fd → List V → Prop
  | [], ws => ws = []
  | d :: ds, ws => ∃ w r, ws = w :: r ∧ FdOk k g H d w ∧ FdsOk k g H ds r
/-- an instance at a, its fields as they stand -/
def InsOk (k : Gk) (g : Gh) (H : Hp) (a : Addr) (c : Str) (ns : List Str) (ds : List Fd) : Prop :=
  ∃ dx ws, H a = some (.ins (k.cl c) dx (ns.zip ws)) ∧ ws.length = ns.length ∧ FdsOk k g H ds ws
/-- a table of inner code at a: what it tells bears the name q and stays -/
def TabOk (k : Gk) (g : Gh) (H : Hp) (a : Addr) (q : Str) : Prop :=
  a = k.tb q ∧ ∃ ps : Array Value, H a = some (.tbl ps) ∧ TriplesOk ps.toList ∧ ∀ (pos : Pos) (cv : Value), codeAmong pos ps.toList = some cv → ∃ c, cv = .ref c ∧ g.F c = some (LamX.CodeO c q)
def CellOk (k : Gk) (g : Gh) (H : Hp) (a : Addr) : Cell → Prop
  | .no => True
  | .lst xs => ∃ vs, H a = some (.lst vs) ∧ RepL k g xs vs
  | .scr xs => ∃ vs, SqL k.K g.F a vs ∧ RepL k g xs vs
  | .ins c ns ds => InsOk k g H a c ns ds
  | .tab q => TabOk k g H a q
/-- what is one's own in the store -/
def Cell.held : Cell → Prop
  | .lst _ => True
  | .ins _ _ _ => True
  | .tab _ => True
  | _ => False
/-- who holds an address that may change -/
inductive Tk where
  | slot (i : Nat) | cell (n : Nat) | fld (n : Nat) (j : Nat) | sfld (i : Nat) (j : Nat)
/-- the own fields of the instance at a -/
def OwnFd (H : Hp) (a : Addr) (ds : List Fd) (j : Nat) (b : Addr) : Prop := ∃ d C dx fs p, ds[j]? = some d ∧ d.own = true ∧ H a = some (.ins C dx fs) ∧ fs[j]? = some p ∧ p.2 = V.ref b
def Held (g : Gh) (env : En) (st : Store) (σ : L2.St) (H : Hp) : Tk → Addr → Prop
  | .slot i, a => (∃ t, env[i]? = some (.own t) ∧ σ[i]? = some (some (.ref a))) ∨ ∃ c ns ds, env[i]? = some (.slf c ns ds) ∧ σ[i]? = some (some (.ref a))
  | .cell n, a => ∃ c, st[n]? = some c ∧ c.held ∧ g.α n = a
  | .fld n j, b => ∃ c ns ds, st[n]? = some (.ins c ns ds) ∧ OwnFd H (g.α n) ds j b
  | .sfld i j, b => ∃ c ns ds a, env[i]? = some (.slf c ns ds) ∧ σ[i]? = some (some (.ref a)) ∧ OwnFd H a ds j b
def Trk (g : Gh) (env : En) (st : Store) (σ : L2.St) (H : Hp) (a : Addr) : Prop := g.F a ≠ none ∨ ∃ q, Held g env st σ H q a
structure SR (k : Gk) (g : Gh) (env : En) (st : Store) (σ : L2.St) (H : Hp) : Prop where
  sub : FSub g.F H
  sz : g.B = st.length
  len : env.length = σ.length
  fr : ∀ (i : Nat) (t : T), env[i]? = some (Slot.fr t) → ∃ v, σ[i]? = some (some v) ∧ Rep k g t v
  own : ∀ (i : Nat) (t : T), env[i]? = some (Slot.own t) → ∃ a, σ[i]? = some (some (V.ref a)) ∧ Own k g H a t
  slf : ∀ (i : Nat) (c : Str) (ns : List Str) (ds : List Fd), env[i]? = some (Slot.slf c ns ds) → ∃ a, σ[i]? = some (some (V.ref a)) ∧ InsOk k g H a c ns ds
  cell : ∀ (n : Nat) (c : Cell), st[n]? = some c → CellOk k g H (g.α n) c
  uniq : ∀ q q' a, Held g env st σ H q a → Held g env st σ H q' a → q = q'
  nof : ∀ q a, Held g env st σ H q a → g.F a = none
/-- what a piece of code leaves as it was -/
structure Ext (g : Gh) (env : En) (st : Store) (σ : L2.St) (H : Hp) (g' : Gh) (env' : En) (st' : Store) (σ' : L2.St) (H' : Hp) : Prop where
  le : GLe g g'
  keep : ∀ a o, H a = some o → ¬ Trk g env st σ H a → H' a = some o ∧ ¬ Trk g' env' st' σ' H' a
  there : ∀ a, H a ≠ none → H' a ≠ none
theorem Ext.refl {g : Gh} {env : En} {st : Store} {σ : L2.St} {H : Hp} : Ext g env st σ H g env st σ H := ⟨GLe.refl _, fun _ _ h n => ⟨h, n⟩, fun _ h => h⟩
theorem Ext.trans {g g1 g2 : Gh} {env e1 e2 : En} {st s1 s2 : Store} {σ σ1 σ2 : L2.St} {H H1 H2 : Hp} (x : Ext g env st σ H g1 e1 s1 σ1 H1) (y : Ext g1 e1 s1 σ1 H1 g2 e2 s2 σ2 H2) : Ext g env st σ H g2 e2 s2 σ2 H2 :=
  ⟨x.le.trans y.le, fun a o h n => let ⟨h1, n1⟩ := x.keep a o h n; y.keep a o h1 n1, fun a h => y.there a (x.there a h)⟩
end Mp


set_option Elab.async false
set_option linter.all false
set_option maxRecDepth 100000
/-! Grow: new objects; what stays of the state's relation. -/
namespace Mp
open PySem PySem.Spec PyProof.Rows L2
section
variable {k : Gk} {g g' : Gh} {env : En} {st : Store} {σ : L2.St} {H H' : Hp} {a : Addr}
theorem FdsOk.get : ∀ {ds : List Fd} {ws : List V} {j : Nat} {d : Fd}, FdsOk k g H ds ws → ds[j]? = some d → ∃ w, ws[j]? = some w ∧ FdOk k g H d w
  | [], _, j, d, _, e => by simp at e
  | d :: ds, ws, 0, d', q, e => by
    obtain ⟨w, r, rfl, h, _⟩ := q
    simp at e
    subst e
    exact ⟨w, rfl, h⟩
  | d :: ds, ws, j + 1, d', q, e => by
    obtain ⟨w, r, rfl, _, q⟩ := q
    obtain ⟨v, h1, h2⟩ := FdsOk.get (j := j) q (by simpa using e)
    exact ⟨v, by simpa using h1, h2⟩
theorem FdsOk.len : ∀ {ds : List Fd} {ws : List V}, FdsOk k g H ds ws → ds.length = ws.length
  | [], _, q => by cases q; rfl
  | d :: ds, ws, q => by
    obtain ⟨w, r, rfl, _, q⟩ := q
    simp [FdsOk.len q]
theorem Own.mono (h : GLe g g') (hH : H' a = H a) : ∀ t, Own k g H a t → Own k g' H' a t
  | .lst xs, ⟨vs, e, r⟩ => ⟨vs, by rw [hH]; exact e, RepL.mono h _ _ r⟩
  | .dct kvs, ⟨gs, e, r⟩ => ⟨gs, by rw [hH]; exact e, RepE.mono h _ _ r⟩
  | .non, q => q.elim
  | .bl _, q => q.elim
  | .int _, q => q.elim
  | .str _, q => q.elim
  | .tup _, q => q.elim
  | .set _, q => q.elim
  | .ins _ _ _, q => q.elim
  | .obj _, q => q.elim
theorem Own.there {t : T} (q : Own k g H a t) : ∃ o, H a = some o := by
  cases t with
  | lst xs => obtain ⟨vs, e, _⟩ := q; exact ⟨_, e⟩
  | dct xs => obtain ⟨vs, e, _⟩ := q; exact ⟨_, e⟩
  | _ => exact q.elim
theorem FdOk.mono (h : GLe g g') {d : Fd} {w : V} (hH : ∀ (b : Addr), d.own = true → w = V.ref b → H' b = H b) (q : FdOk k g H d w) : FdOk k g' H' d w := by
  obtain ⟨b, t⟩ := d
  cases b with
  | false => exact Rep.mono h _ _ q
  | true =>
    obtain ⟨a, e, o⟩ := q
    exact ⟨a, e, Own.mono h (hH a rfl e) _ o⟩
theorem FdsOk.mono (h : GLe g g') : ∀ {ds : List Fd} {ws : List V}, (∀ (j : Nat) (d : Fd) (b : Addr), ds[j]? = some d → d.own = true → ws[j]? = some (V.ref b) → H' b = H b) → FdsOk k g H ds ws → FdsOk k g' H' ds ws
  | [], _, _, q => q
  | d :: ds, ws, hH, q => by
    obtain ⟨w, r, rfl, h1, q⟩ := q
    exact ⟨w, r, rfl, FdOk.mono h (fun b e1 e2 => hH 0 d b rfl e1 (by simp [e2])) h1, FdsOk.mono h (fun j d' b e1 e2 e3 => hH (j + 1) d' b (by simpa using e1) e2 (by simpa using e3)) q⟩
theorem zip_get : ∀ {ns : List Str} {ws : List V} {j : Nat} {w : V}, ws.length = ns.length → ws[j]? = some w → ∃ n, (ns.zip ws)[j]? = some (n, w)
  | [], ws, j, w, l, e => by
    have : ws = [] := by simpa using l
    subst this
    simp at e
  | n :: ns, [], j, w, l, e => by simp at e
  | n :: ns, v :: ws, 0, w, l, e => by simp at e; subst e; exact ⟨n, rfl⟩
  | n :: ns, v :: ws, j + 1, w, l, e => by
    obtain ⟨m, h⟩ := zip_get (ns := ns) (ws := ws) (j := j) (w := w) (by simpa using l) (by simpa using e)
    exact ⟨m, by simpa using h⟩
theorem zip_get' : ∀ {ns : List Str} {ws : List V} {j : Nat} {p : Str × V}, (ns.zip ws)[j]? = some p → ws[j]? = some p.2
  | [], ws, j, w, e => by simp at e
  | n :: ns, [], j, w, e => by simp at e
  | n :: ns, v :: ws, 0, p, e => by simp at e; subst e; rfl
  | n :: ns, v :: ws, j + 1, p, e => by
    have := zip_get' (ns := ns) (ws := ws) (j := j) (p := p) (by simpa using e)
    simpa using this
/-- an own field's address -/
theorem InsOk.ownFd {c : Str} {ns : List Str} {ds : List Fd} {j : Nat} {b : Addr} (q : InsOk k g H a c ns ds) (o : OwnFd H a ds j b) : ∃ t, ds[j]? = some ⟨true, t⟩ ∧ Own k g H b t := by
  obtain ⟨dx, ws, e, l, f⟩ := q
  obtain ⟨d, C, dx', fs, p, h1, h2, h3, h4, h5⟩ := o
  rw [e] at h3
  cases h3
  obtain ⟨w, h6, h7⟩ := f.get h1
  have h8 := zip_get' h4
  rw [h6] at h8
  cases h8
  obtain ⟨ow, t⟩ := d
  cases h2
  obtain ⟨b', e1, o1⟩ := h7
  rw [h5] at e1
  cases e1
  exact ⟨t, h1, o1⟩
theorem InsOk.mono (h : GLe g g') {c : Str} {ns : List Str} {ds : List Fd} (ha : H' a = H a) (hH : ∀ j b, OwnFd H a ds j b → H' b = H b) (q : InsOk k g H a c ns ds) : InsOk k g' H' a c ns ds := by
  obtain ⟨dx, ws, e, l, f⟩ := q
  refine ⟨dx, ws, by rw [ha]; exact e, l, f.mono h fun j d b h1 h2 h3 => ?_⟩
  obtain ⟨n, h4⟩ := zip_get l h3
  exact hH j b ⟨d, _, dx, _, _, h1, h2, e, h4, rfl⟩
theorem TabOk.mono {q : Str} (h : GLe g g') (ha : H' a = H a) (x : TabOk k g H a q) : TabOk k g' H' a q := by
  obtain ⟨e, ps, h1, h2, h3⟩ := x
  refine ⟨e, ps, by rw [ha]; exact h1, h2, fun pos cv hc => ?_⟩
  obtain ⟨c, e1, e2⟩ := h3 pos cv hc
  exact ⟨c, e1, h.f _ _ e2⟩
theorem Held.there (S : SR k g env st σ H) {q : Tk} (h : Held g env st σ H q a) : ∃ o, H a = some o := by
  cases q with
  | slot i =>
    rcases h with ⟨t, h1, h2⟩ | ⟨c, ns, ds, h1, h2⟩
    · obtain ⟨b, e, o⟩ := S.own i t h1
      rw [h2] at e
      cases e
      exact o.there
    · obtain ⟨b, e, o⟩ := S.slf i c ns ds h1
      rw [h2] at e
      cases e
      obtain ⟨dx, ws, e, _⟩ := o
      exact ⟨_, e⟩
  | cell n =>
    obtain ⟨c, h1, h2, rfl⟩ := h
    have := S.cell n c h1
    cases c with
    | no => exact h2.elim
    | lst xs => obtain ⟨vs, e, _⟩ := this; exact ⟨_, e⟩
    | scr xs => exact h2.elim
    | tab q => obtain ⟨_, ps, e, _⟩ := this; exact ⟨_, e⟩
    | ins c ns ds => obtain ⟨dx, ws, e, _⟩ := this; exact ⟨_, e⟩
  | fld n j =>
    obtain ⟨c, ns, ds, h1, h2⟩ := h
    obtain ⟨t, _, o⟩ := InsOk.ownFd (S.cell n _ h1) h2
    exact o.there
  | sfld i j =>
    obtain ⟨c, ns, ds, b, h1, h2, h3⟩ := h
    obtain ⟨b', e, o⟩ := S.slf i c ns ds h1
    rw [h2] at e
    cases e
    obtain ⟨t, _, o⟩ := o.ownFd h3
    exact o.there
/-- what is held stands where it stood -/
theorem Held.back (S : SR k g env st σ H) (hα : ∀ n, n < st.length → g'.α n = g.α n) (hi : ∀ b C dx fs, H b = some (.ins C dx fs) → H' b = some (.ins C dx fs)) {q : Tk} (h : Held g' env st σ H' q a) : Held g env st σ H q a := by
  have lt : ∀ {n : Nat} {c : Cell}, st[n]? = some c → n < st.length := fun e => (List.getElem?_eq_some_iff.mp e).1
  cases q with
  | slot i => exact h
  | cell n =>
    obtain ⟨c, h1, h2, h3⟩ := h
    exact ⟨c, h1, h2, by rw [← hα n (lt h1)]; exact h3⟩
  | fld n j =>
    obtain ⟨c, ns, ds, h1, d, C, dx, fs, p, h2, h3, h4, h5, h6⟩ := h
    rw [hα n (lt h1)] at h4
    obtain ⟨dx', ws, e, _⟩ := S.cell n _ h1
    have := hi _ _ _ _ e
    rw [h4] at this
    cases this
    exact ⟨c, ns, ds, h1, d, _, _, _, p, h2, h3, e, h5, h6⟩
  | sfld i j =>
    obtain ⟨c, ns, ds, b, h1, h2, d, C, dx, fs, p, h3, h4, h5, h6, h7⟩ := h
    obtain ⟨b', e', dx', ws, e, _⟩ := S.slf i c ns ds h1
    rw [h2] at e'
    cases e'
    have := hi _ _ _ _ e
    rw [h5] at this
    cases this
    exact ⟨c, ns, ds, b, h1, h2, d, _, _, _, p, h3, h4, e, h6, h7⟩
/-- only new objects, frozen ones -/
structure Grow (g : Gh) (H : Hp) (g' : Gh) (H' : Hp) : Prop where
  α : g'.α = g.α
  B : g'.B = g.B
  f : FSub g.F g'.F
  h : ∀ a o, H a = some o → H' a = some o
  new : ∀ a, H a ≠ none → g'.F a = g.F a
  sub : ∀ a o, g'.F a = some o → H' a = some o
theorem Grow.le (x : Grow g H g' H') : GLe g g' := ⟨x.f, fun n _ => by rw [x.α], Nat.le_of_eq x.B.symm⟩
theorem Grow.refl (S : SR k g env st σ H) : Grow g H g H := ⟨rfl, rfl, FSub.refl _, fun _ _ h => h, fun _ _ => rfl, S.sub⟩
theorem Grow.trans {g1 : Gh} {H1 : Hp} (x : Grow g H g1 H1) (y : Grow g1 H1 g' H') : Grow g H g' H' :=
  ⟨y.α.trans x.α, y.B.trans x.B, x.f.trans y.f, fun a o h => y.h a o (x.h a o h), fun a h => (y.new a (by
    cases e : H a with
    | none => exact absurd e h
    | some o => rw [x.h a o e]; exact fun z => by cases z)).trans (x.new a h), y.sub⟩
theorem SR.grow (S : SR k g env st σ H) (x : Grow g H g' H') : SR k g' env st σ H' := by
  have back : ∀ {q : Tk} {b : Addr}, Held g' env st σ H' q b → Held g env st σ H q b := fun {q b} h => Held.back S (fun n _ => by rw [x.α]) (fun b C dx fs e => x.h _ _ e) h
  have same : ∀ {q : Tk} {b : Addr}, Held g env st σ H q b → H' b = H b := fun {q b} h => by
    obtain ⟨o, e⟩ := h.there S
    rw [e, x.h _ _ e]
  refine ⟨x.sub, by rw [x.B]; exact S.sz, S.len, fun i t e => ?_, fun i t e => ?_, fun i c ns ds e => ?_, fun n c e => ?_, fun q q' b h1 h2 => S.uniq q q' b (back h1) (back h2), fun q b h => ?_⟩
  · obtain ⟨v, e1, r⟩ := S.fr i t e
    exact ⟨v, e1, Rep.mono x.le _ _ r⟩
  · obtain ⟨b, e1, o⟩ := S.own i t e
    exact ⟨b, e1, Own.mono x.le (same (q := .slot i) (.inl ⟨t, e, e1⟩)) _ o⟩
  · obtain ⟨b, e1, o⟩ := S.slf i c ns ds e
    exact ⟨b, e1, o.mono x.le (same (q := .slot i) (.inr ⟨c, ns, ds, e, e1⟩)) fun j b' h => same (q := .sfld i j) ⟨c, ns, ds, b, e, e1, h⟩⟩
  · have := S.cell n c e
    rw [x.α]
    cases c with
    | no => trivial
    | lst xs =>
      obtain ⟨vs, e1, r⟩ := this
      exact ⟨vs, x.h _ _ e1, RepL.mono x.le _ _ r⟩
    | tab q => exact TabOk.mono x.le (same (q := .cell n) ⟨_, e, trivial, rfl⟩) this
    | scr xs =>
      obtain ⟨vs, e1, r⟩ := this
      exact ⟨vs, Mp.SqL.fmono x.f e1, RepL.mono x.le _ _ r⟩
    | ins c ns ds =>
      exact InsOk.mono x.le (same (q := .cell n) ⟨_, e, trivial, rfl⟩) (fun j b' h => same (q := .fld n j) ⟨c, ns, ds, e, h⟩) this
  · have h' := back h
    obtain ⟨o, e⟩ := h'.there S
    rw [x.new b (by rw [e]; exact fun z => by cases z)]
    exact S.nof q b h'
theorem Ext.grow (S : SR k g env st σ H) (x : Grow g H g' H') : Ext g env st σ H g' env st σ H' := by
  refine ⟨x.le, fun a o h n => ⟨x.h a o h, fun z => n ?_⟩, fun a h => ?_⟩
  rotate_left
  · cases e : H a with
    | none => exact absurd e h
    | some o => rw [x.h a o e]; exact fun z => by cases z
  rcases z with z | ⟨q, z⟩
  · refine .inl ?_
    rw [← x.new a (by rw [h]; exact fun z => by cases z)]
    exact z
  · exact .inr ⟨q, Held.back S (fun n _ => by rw [x.α]) (fun b C dx fs e => x.h _ _ e) z⟩
/-- one new object -/
def Gh.put (g : Gh) (p : Addr) (o : HO) : Gh := { g with F := upd g.F p o }
theorem Grow.one (S : SR k g env st σ H) {p : Addr} {o : HO} (hp : H p = none) : Grow g H (g.put p o) (upd H p o) := by
  have nf : g.F p = none := by
    cases e : g.F p with
    | none => rfl
    | some u => have := S.sub _ _ e; rw [hp] at this; cases this
  have ne : ∀ b, H b ≠ none → b ≠ p := fun b h z => h (by rw [z]; exact hp)
  refine ⟨rfl, rfl, fun a u h => ?_, fun a u h => ?_, fun a h => ?_, fun a u h => ?_⟩
  · show upd g.F p o a = some u
    rw [upd_ne (fun z => by rw [z, nf] at h; cases h)]
    exact h
  · rw [upd_ne (ne a (by rw [h]; exact fun z => by cases z))]
    exact h
  · show upd g.F p o a = g.F a
    rw [upd_ne (ne a h)]
  · by_cases e : a = p
    · subst e
      have h' : upd g.F a o a = some u := h
      rw [upd_same] at h' ⊢
      exact h'
    · have h' : upd g.F p o a = some u := h
      rw [upd_ne e] at h' ⊢
      exact S.sub _ _ h'
/-- a new object that is left alone -/
theorem Grow.skip (S : SR k g env st σ H) {p : Addr} {o : HO} (hp : H p = none) : Grow g H g (upd H p o) := by
  have ne : ∀ b, H b ≠ none → b ≠ p := fun b h z => h (by rw [z]; exact hp)
  refine ⟨rfl, rfl, FSub.refl _, fun a u h => ?_, fun a h => rfl, fun a u h => ?_⟩
  · rw [upd_ne (ne a (by rw [h]; exact fun z => by cases z))]
    exact h
  · have h' := S.sub _ _ h
    rw [upd_ne (ne a (by rw [h']; exact fun z => by cases z))]
    exact h'

/-! ### moves of the state -/
theorem Trk.of_held {q : Tk} (h : Held g env st σ H q a) : Trk g env st σ H a := .inr ⟨q, h⟩
/-- an untracked object is frozen -/
theorem SR.freeze (S : SR k g env st σ H) {o : HO} (h : H a = some o) (n : ¬ Trk g env st σ H a) : SR k (g.put a o) env st σ H ∧ GLe g (g.put a o) := by
  have nf : g.F a = none := by
    cases e : g.F a with
    | none => rfl
    | some u => exact absurd (.inl (by rw [e]; exact fun z => by cases z)) n
  have fs : FSub g.F (g.put a o).F := fun b u e => by
    show upd g.F a o b = some u
    rw [upd_ne (fun z => by rw [z, nf] at e; cases e)]
    exact e
  have le : GLe g (g.put a o) := ⟨fs, fun _ _ => rfl, Nat.le_refl _⟩
  have back : ∀ {q : Tk} {b : Addr}, Held (g.put a o) env st σ H q b → Held g env st σ H q b := fun h => h
  refine ⟨⟨fun b u e => ?_, S.sz, S.len, fun i t e => ?_, fun i t e => ?_, fun i c ns ds e => ?_, fun m c e => ?_, fun q q' b h1 h2 => S.uniq q q' b h1 h2, fun q b hq => ?_⟩, le⟩
  · by_cases e' : b = a
    · subst e'
      have e2 : upd g.F b o b = some u := e
      rw [upd_same] at e2
      rw [h]; exact e2
    · have e2 : upd g.F a o b = some u := e
      rw [upd_ne e'] at e2
      exact S.sub _ _ e2
  · obtain ⟨v, e1, r⟩ := S.fr i t e
    exact ⟨v, e1, Rep.mono le _ _ r⟩
  · obtain ⟨b, e1, r⟩ := S.own i t e
    exact ⟨b, e1, Own.mono le rfl _ r⟩
  · obtain ⟨b, e1, r⟩ := S.slf i c ns ds e
    exact ⟨b, e1, r.mono le rfl fun _ _ _ => rfl⟩
  · have := S.cell m c e
    cases c with
    | no => trivial
    | lst xs => obtain ⟨vs, e1, r⟩ := this; exact ⟨vs, e1, RepL.mono le _ _ r⟩
    | scr xs => obtain ⟨vs, e1, r⟩ := this; exact ⟨vs, Mp.SqL.fmono le.f e1, RepL.mono le _ _ r⟩
    | tab q => exact TabOk.mono le rfl this
    | ins c ns ds => exact InsOk.mono le rfl (fun _ _ _ => rfl) this
  · have hb : b ≠ a := fun z => n (.inr ⟨q, by rw [← z]; exact hq⟩)
    show upd g.F a o b = none
    rw [upd_ne hb]
    exact S.nof q b hq
/-- .. since H0 -/
theorem Ext.freeze {g0 : Gh} {env0 : En} {st0 : Store} {σ0 : L2.St} {H0 : Hp} (x : Ext g0 env0 st0 σ0 H0 g env st σ H) {o : HO} (h0 : H0 a ≠ none → Trk g0 env0 st0 σ0 H0 a) (nf : g.F a = none) : Ext g0 env0 st0 σ0 H0 (g.put a o) env st σ H := by
  refine ⟨x.le.trans ⟨fun b u e => ?_, fun _ _ => rfl, Nat.le_refl _⟩, fun b u e n => ?_, x.there⟩
  · show upd g.F a o b = some u
    rw [upd_ne (fun z => by rw [z, nf] at e; cases e)]
    exact e
  · obtain ⟨h1, n1⟩ := x.keep b u e n
    refine ⟨h1, fun z => n1 ?_⟩
    rcases z with z | z
    · refine .inl ?_
      have z' : upd g.F a o b ≠ none := z
      rw [upd_ne (fun z => n (by rw [z]; exact h0 (by rw [← z, e]; exact fun z => by cases z)))] at z'
      exact z'
    · exact .inr z
/-- a new object that is nobody's yet -/
theorem SR.skip (S : SR k g env st σ H) {p : Addr} {o : HO} (hp : H p = none) : SR k g env st σ (upd H p o) ∧ Ext g env st σ H g env st σ (upd H p o) ∧ ¬ Trk g env st σ (upd H p o) p := by
  have x := Grow.skip (o := o) S hp
  have S' := S.grow x
  refine ⟨S', Ext.grow S x, fun z => ?_⟩
  rcases z with z | ⟨q, z⟩
  · cases e : g.F p with
    | none => exact z e
    | some u => have := S.sub _ _ e; rw [hp] at this; cases this
  · have := Held.back (g := g) (g' := g) S (fun _ _ => rfl) (fun b C dx fs e => x.h _ _ e) z
    obtain ⟨o', e⟩ := this.there S
    rw [hp] at e; cases e
section
variable {σ' : L2.St} {env' : En}
/-- fewer things are held -/
theorem SR.fewer (S : SR k g env st σ H) (hl : env'.length = σ'.length) (hfr : ∀ (i : Nat) (t : T), env'[i]? = some (Slot.fr t) → ∃ v, σ'[i]? = some (some v) ∧ Rep k g t v)
    (hown : ∀ (i : Nat) (t : T), env'[i]? = some (Slot.own t) → env[i]? = some (Slot.own t) ∧ σ'[i]? = σ[i]?) (hslf : ∀ (i : Nat) (c : Str) (ns : List Str) (ds : List Fd), env'[i]? = some (Slot.slf c ns ds) → env[i]? = some (Slot.slf c ns ds) ∧ σ'[i]? = σ[i]?) :
    SR k g env' st σ' H ∧ Ext g env st σ H g env' st σ' H := by
  have back : ∀ {q : Tk} {b : Addr}, Held g env' st σ' H q b → Held g env st σ H q b := fun {q b} h => by
    cases q with
    | slot i =>
      rcases h with ⟨t, h1, h2⟩ | ⟨c, ns, ds, h1, h2⟩
      · obtain ⟨e1, e2⟩ := hown i t h1
        exact .inl ⟨t, e1, by rw [← e2]; exact h2⟩
      · obtain ⟨e1, e2⟩ := hslf i c ns ds h1
        exact .inr ⟨c, ns, ds, e1, by rw [← e2]; exact h2⟩
    | cell n => exact h
    | fld n j => exact h
    | sfld i j =>
      obtain ⟨c, ns, ds, b', h1, h2, h3⟩ := h
      obtain ⟨e1, e2⟩ := hslf i c ns ds h1
      exact ⟨c, ns, ds, b', e1, by rw [← e2]; exact h2, h3⟩
  refine ⟨⟨S.sub, S.sz, hl, hfr, fun i t e => ?_, fun i c ns ds e => ?_, S.cell, fun q q' b h1 h2 => S.uniq q q' b (back h1) (back h2), fun q b h => S.nof q b (back h)⟩, GLe.refl _, fun b o h n => ⟨h, fun z => n ?_⟩, fun _ h => h⟩
  · obtain ⟨e1, e2⟩ := hown i t e
    rw [e2]
    exact S.own i t e1
  · obtain ⟨e1, e2⟩ := hslf i c ns ds e
    rw [e2]
    exact S.slf i c ns ds e1
  · rcases z with z | ⟨q, z⟩
    · exact .inl z
    · exact .inr ⟨q, back z⟩
end
/-- a slot set to a value -/
theorem SR.setFr (S : SR k g env st σ H) (i : Nat) {t : T} {v : V} (r : Rep k g t v) : SR k g (env.set i (.fr t)) st (σ.set i (some v)) H ∧ Ext g env st σ H g (env.set i (.fr t)) st (σ.set i (some v)) H := by
  refine S.fewer (by simp [S.len]) (fun j u e => ?_) (fun j u e => ?_) (fun j c ns ds e => ?_)
  · by_cases h : i = j
    · subst h
      rw [List.getElem?_set_self'] at e ⊢
      cases e1 : env[i]? with
      | none => rw [e1] at e; simp at e
      | some w =>
        rw [e1] at e
        have hi : i < σ.length := by rw [← S.len]; exact (List.getElem?_eq_some_iff.mp e1).1
        simp at e
        subst e
        refine ⟨v, ?_, r⟩
        rw [List.getElem?_eq_getElem hi]
        simp
    · rw [List.getElem?_set_ne h] at e ⊢
      exact S.fr j u e
  · by_cases h : i = j
    · subst h
      rw [List.getElem?_set_self'] at e
      cases e1 : env[i]? with
      | none => rw [e1] at e; simp at e
      | some w => rw [e1] at e; simp at e
    · rw [List.getElem?_set_ne h] at e ⊢
      exact ⟨e, rfl⟩
  · by_cases h : i = j
    · subst h
      rw [List.getElem?_set_self'] at e
      cases e1 : env[i]? with
      | none => rw [e1] at e; simp at e
      | some w => rw [e1] at e; simp at e
    · rw [List.getElem?_set_ne h] at e ⊢
      exact ⟨e, rfl⟩
/-- a slot forgotten -/
theorem SR.setNo (S : SR k g env st σ H) (i : Nat) : SR k g (env.set i .no) st (σ.set i none) H ∧ Ext g env st σ H g (env.set i .no) st (σ.set i none) H := by
  refine S.fewer (by simp [S.len]) (fun j u e => ?_) (fun j u e => ?_) (fun j c ns ds e => ?_)
  all_goals
    by_cases h : i = j
    · subst h
      rw [List.getElem?_set_self'] at e
      cases e1 : env[i]? with
      | none => rw [e1] at e; simp at e
      | some w => rw [e1] at e; simp at e
    · rw [List.getElem?_set_ne h] at e ⊢
      first | exact S.fr j u e | exact ⟨e, rfl⟩
theorem SR.wipe (S : SR k g env st σ H) : ∀ vs : List Nat, SR k g (wipeE vs env) st (L2.wipe σ vs) H ∧ Ext g env st σ H g (wipeE vs env) st (L2.wipe σ vs) H
  | [] => ⟨S, Ext.refl⟩
  | v :: vs => by
    obtain ⟨S1, x1⟩ := S.wipe vs
    obtain ⟨S2, x2⟩ := S1.setNo v
    exact ⟨S2, x1.trans x2⟩
theorem SR.nof' (S : SR k g env st σ H) (n : ¬ Trk g env st σ H a) : g.F a = none := by
  cases e : g.F a with
  | none => rfl
  | some u => exact absurd (.inl (by rw [e]; exact fun z => by cases z)) n
/-- an own list or dict becomes a value -/
theorem SR.frzOwn (S : SR k g env st σ H) {i : Nat} {t : T} (e : env[i]? = some (.own t)) : ∃ g', SR k g' (env.set i (.fr t)) st σ H ∧ Ext g env st σ H g' (env.set i (.fr t)) st σ H := by
  obtain ⟨a, e1, o⟩ := S.own i t e
  have hi : i < env.length := (List.getElem?_eq_some_iff.mp e).1
  have set : ∀ (s : Slot) (j : Nat), (env.set i s)[j]? = if i = j then some s else env[j]? := fun s j => by
    by_cases h : i = j
    · subst h; rw [List.getElem?_set_self hi, if_pos rfl]
    · rw [List.getElem?_set_ne h, if_neg h]
  obtain ⟨S1, x1⟩ := S.fewer (env' := env.set i .no) (σ' := σ) (by simp [S.len]) (fun j u h => by
      rw [set] at h; split at h
      · cases h
      · exact S.fr j u h) (fun j u h => by
      rw [set] at h; split at h
      · cases h
      · exact ⟨h, rfl⟩) (fun j c ns ds h => by
      rw [set] at h; split at h
      · cases h
      · exact ⟨h, rfl⟩)
  have held : Held g env st σ H (.slot i) a := .inl ⟨t, e, e1⟩
  have nt : ¬ Trk g (env.set i .no) st σ H a := fun z => by
    rcases z with z | ⟨q, z⟩
    · exact z (S.nof _ _ held)
    · have : Held g env st σ H q a ∧ q ≠ .slot i := by
        cases q with
        | slot j =>
          rcases z with ⟨u, h1, h2⟩ | ⟨c, ns, ds, h1, h2⟩
          · rw [set] at h1; split at h1
            · cases h1
            · rename_i h; exact ⟨.inl ⟨u, h1, h2⟩, fun z => h (by cases z; rfl)⟩
          · rw [set] at h1; split at h1
            · cases h1
            · rename_i h; exact ⟨.inr ⟨c, ns, ds, h1, h2⟩, fun z => h (by cases z; rfl)⟩
        | cell n => exact ⟨z, fun z => by cases z⟩
        | fld n j => exact ⟨z, fun z => by cases z⟩
        | sfld j l =>
          obtain ⟨c, ns, ds, b, h1, h2, h3⟩ := z
          rw [set] at h1; split at h1
          · cases h1
          · exact ⟨⟨c, ns, ds, b, h1, h2, h3⟩, fun z => by cases z⟩
      exact this.2 (S.uniq _ _ _ this.1 held)
  obtain ⟨u, hu⟩ := o.there
  obtain ⟨S2, le⟩ := S1.freeze hu nt
  have x2 := x1.freeze (o := u) (fun _ => .of_held held) (S1.nof' nt)
  have r : Rep k (g.put a u) t (.ref a) := by
    cases t with
    | lst xs =>
      obtain ⟨vs, h, r⟩ := o
      rw [hu] at h; cases h
      unfold Rep
      exact ⟨a, vs, rfl, upd_same, RepL.mono le _ _ r⟩
    | dct xs =>
      obtain ⟨vs, h, r⟩ := o
      rw [hu] at h; cases h
      unfold Rep
      exact ⟨a, vs, rfl, upd_same, RepE.mono le _ _ r⟩
    | _ => exact o.elim
  obtain ⟨S3, x3⟩ := S2.setFr i r
  have e2 : (env.set i Slot.no).set i (.fr t) = env.set i (.fr t) := by simp
  have e3 : σ.set i (some (.ref a)) = σ := by
    apply List.ext_getElem?
    intro j
    by_cases h : i = j
    · subst h
      rw [List.getElem?_set_self (by rw [← S.len]; exact hi), e1]
    · rw [List.getElem?_set_ne h]
  rw [e2, e3] at S3 x3
  exact ⟨_, S3, x2.trans x3⟩
end
end Mp


set_option Elab.async false
set_option linter.all false
set_option maxRecDepth 100000
/-! Move: how the state's relation goes along with stores. -/
namespace Mp
open PySem PySem.Spec PyProof.Rows L2
section
variable {k : Gk} {g g' g0 : Gh} {env env0 : En} {st st0 : Store} {σ σ0 : L2.St} {H H' H0 : Hp} {a : Addr}
theorem set_get {α : Type} {l : List α} {i : Nat} (hi : i < l.length) (s : α) (j : Nat) : (l.set i s)[j]? = if i = j then some s else l[j]? := by
  by_cases h : i = j
  · subst h; rw [List.getElem?_set_self hi, if_pos rfl]
  · rw [List.getElem?_set_ne h, if_neg h]
theorem set_same {α : Type} {l : List α} {i : Nat} {s : α} (h : l[i]? = some s) : l.set i s = l := by
  apply List.ext_getElem?
  intro j
  by_cases e : i = j
  · subst e
    rw [List.getElem?_set_self (List.getElem?_eq_some_iff.mp h).1, h]
  · rw [List.getElem?_set_ne e]
/-- an own slot forgotten: its list is nobody's -/
theorem SR.dropOwn (S : SR k g env st σ H) {i : Nat} {t : T} {v : V} (e : env[i]? = some (.own t)) (ea : σ[i]? = some (some (.ref a))) :
    SR k g (env.set i .no) st σ H ∧ Ext g env st σ H g (env.set i .no) st σ H ∧ ¬ Trk g (env.set i .no) st σ H a ∧ Trk g env st σ H a := by
  have hi : i < env.length := (List.getElem?_eq_some_iff.mp e).1
  obtain ⟨S1, x1⟩ := S.fewer (env' := env.set i .no) (σ' := σ) (by simp [S.len]) (fun j u h => by
      rw [set_get hi] at h; split at h
      · cases h
      · exact S.fr j u h) (fun j u h => by
      rw [set_get hi] at h; split at h
      · cases h
      · exact ⟨h, rfl⟩) (fun j c ns ds h => by
      rw [set_get hi] at h; split at h
      · cases h
      · exact ⟨h, rfl⟩)
  have held : Held g env st σ H (.slot i) a := .inl ⟨t, e, ea⟩
  refine ⟨S1, x1, fun z => ?_, .of_held held⟩
  rcases z with z | ⟨q, z⟩
  · exact z (S.nof _ _ held)
  · have : Held g env st σ H q a ∧ q ≠ .slot i := by
      cases q with
      | slot j =>
        rcases z with ⟨u, h1, h2⟩ | ⟨c, ns, ds, h1, h2⟩
        · rw [set_get hi] at h1; split at h1
          · cases h1
          · rename_i h; exact ⟨.inl ⟨u, h1, h2⟩, fun z => h (by cases z; rfl)⟩
        · rw [set_get hi] at h1; split at h1
          · cases h1
          · rename_i h; exact ⟨.inr ⟨c, ns, ds, h1, h2⟩, fun z => h (by cases z; rfl)⟩
      | cell n => exact ⟨z, fun z => by cases z⟩
      | fld n j => exact ⟨z, fun z => by cases z⟩
      | sfld j l =>
        obtain ⟨c, ns, ds, b, h1, h2, h3⟩ := z
        rw [set_get hi] at h1; split at h1
        · cases h1
        · exact ⟨⟨c, ns, ds, b, h1, h2, h3⟩, fun z => by cases z⟩
    exact this.2 (S.uniq _ _ _ this.1 held)
/-- an object that is nobody's is changed -/
theorem SR.updV (S : SR k g env st σ H) {o u : HO} (ho : H a = some o) (no : ∀ x, o ≠ .own x) (n : ¬ Trk g env st σ H a) : SR k g env st σ (upd H a u) ∧ ¬ Trk g env st σ (upd H a u) a := by
  have hne : ∀ {q : Tk} {b : Addr}, Held g env st σ H q b → b ≠ a := fun h z => n (.inr ⟨_, by rw [← z]; exact h⟩)
  have same : ∀ {q : Tk} {b : Addr}, Held g env st σ H q b → upd H a u b = H b := fun h => upd_ne (hne h)
  have dxs : ∀ {dx b : Addr}, H dx = some (.own b) → upd H a u dx = some (.own b) := fun {dx b} h => by
    rw [upd_ne (fun z => by rw [z, ho] at h; cases h; exact no _ rfl)]; exact h
  -- what is held now was held
  have back : ∀ {q : Tk} {b : Addr}, Held g env st σ (upd H a u) q b → Held g env st σ H q b := fun {q b} h => by
    cases q with
    | slot i => exact h
    | cell m => exact h
    | fld m j =>
      obtain ⟨c, ns, ds, h1, d, C, dx, fs, p, h2, h3, h4, h5, h6⟩ := h
      refine ⟨c, ns, ds, h1, d, C, dx, fs, p, h2, h3, ?_, h5, h6⟩
      have e : g.α m ≠ a := fun e => n (.inr ⟨.cell m, ⟨_, h1, trivial, e⟩⟩)
      rw [upd_ne e] at h4; exact h4
    | sfld i j =>
      obtain ⟨c, ns, ds, b', h1, h2, d, C, dx, fs, p, h3, h4, h5, h6, h7⟩ := h
      refine ⟨c, ns, ds, b', h1, h2, d, C, dx, fs, p, h3, h4, ?_, h6, h7⟩
      have e : b' ≠ a := fun e => n (.inr ⟨.slot i, .inr ⟨c, ns, ds, h1, by rw [← e]; exact h2⟩⟩)
      rw [upd_ne e] at h5; exact h5
  refine ⟨⟨fun b w e => ?_, S.sz, S.len, fun i t e => ?_, fun i t e => ?_, fun i c ns ds e => ?_, fun m c e => ?_, fun q q' b h1 h2 => S.uniq q q' b (back h1) (back h2), fun q b h => S.nof q b (back h)⟩, fun z => n ?_⟩
  · rw [upd_ne (fun z => n (.inl (by rw [← z, e]; exact fun z => by cases z)))]
    exact S.sub _ _ e
  · exact S.fr i t e
  · obtain ⟨b, e1, r⟩ := S.own i t e
    exact ⟨b, e1, Own.mono (GLe.refl g) (same (q := .slot i) (.inl ⟨t, e, e1⟩)) _ r⟩
  · obtain ⟨b, e1, r⟩ := S.slf i c ns ds e
    exact ⟨b, e1, r.mono (GLe.refl g) (same (q := .slot i) (.inr ⟨c, ns, ds, e, e1⟩)) fun j b' h => same (q := .sfld i j) ⟨c, ns, ds, b, e, e1, h⟩⟩
  · have := S.cell m c e
    have sm : c.held → upd H a u (g.α m) = H (g.α m) := fun h => same (q := .cell m) ⟨c, e, h, rfl⟩
    cases c with
    | no => trivial
    | lst xs => obtain ⟨vs, e1, r⟩ := this; exact ⟨vs, by rw [sm trivial]; exact e1, r⟩
    | scr xs => exact this
    | tab q => exact TabOk.mono (GLe.refl g) (sm trivial) this
    | ins c ns ds => exact InsOk.mono (GLe.refl g) (sm trivial) (fun j b' h => same (q := .fld m j) ⟨c, ns, ds, e, h⟩) this
  · rcases z with z | ⟨q, z⟩
    · exact .inl z
    · exact .inr ⟨q, back z⟩
/-- .. since the start -/
theorem Ext.updV (x : Ext g0 env0 st0 σ0 H0 g env st σ H) (S : SR k g env st σ H) {o u : HO} (ho : H a = some o) (no : ∀ x, o ≠ .own x) (n : ¬ Trk g env st σ H a) (h0 : H0 a ≠ none → Trk g0 env0 st0 σ0 H0 a) : Ext g0 env0 st0 σ0 H0 g env st σ (upd H a u) := by
  have t := S.updV (u := u) ho no n
  refine ⟨x.le, fun b w e nt => ?_, fun b e => ?_⟩
  · have hb : b ≠ a := fun z => nt (by rw [z]; exact h0 (by rw [← z, e]; exact fun z => by cases z))
    obtain ⟨h1, n1⟩ := x.keep b w e nt
    refine ⟨by rw [upd_ne hb]; exact h1, fun z => n1 ?_⟩
    rcases z with z | ⟨q, z⟩
    · exact .inl z
    · refine .inr ⟨q, ?_⟩
      cases q with
      | slot i => exact z
      | cell m => exact z
      | fld m j =>
        obtain ⟨c, ns, ds, h1, d, C, dx, fs, p, h2, h3, h4, h5, h6⟩ := z
        refine ⟨c, ns, ds, h1, d, C, dx, fs, p, h2, h3, ?_, h5, h6⟩
        have e : g.α m ≠ a := fun e => n (.inr ⟨.cell m, ⟨_, h1, trivial, e⟩⟩)
        rw [upd_ne e] at h4; exact h4
      | sfld i j =>
        obtain ⟨c, ns, ds, b', h1, h2, d, C, dx, fs, p, h3, h4, h5, h6, h7⟩ := z
        refine ⟨c, ns, ds, b', h1, h2, d, C, dx, fs, p, h3, h4, ?_, h6, h7⟩
        have e : b' ≠ a := fun e => n (.inr ⟨.slot i, .inr ⟨c, ns, ds, h1, by rw [← e]; exact h2⟩⟩)
        rw [upd_ne e] at h5; exact h5
  · by_cases hb : b = a
    · rw [hb, upd_same]; exact fun z => by cases z
    · rw [upd_ne hb]; exact x.there b e
theorem SR.updU (S : SR k g env st σ H) {o u : HO} (ho : H a = some o) (no : ∀ x, o ≠ .own x) (ni : ∀ C dx fs, u ≠ .ins C dx fs) (n : ¬ Trk g env st σ H a) : SR k g env st σ (upd H a u) ∧ ¬ Trk g env st σ (upd H a u) a := S.updV ho no n
theorem Ext.updU (x : Ext g0 env0 st0 σ0 H0 g env st σ H) (S : SR k g env st σ H) {o u : HO} (ho : H a = some o) (no : ∀ x, o ≠ .own x) (ni : ∀ C dx fs, u ≠ .ins C dx fs) (n : ¬ Trk g env st σ H a) (h0 : H0 a ≠ none → Trk g0 env0 st0 σ0 H0 a) : Ext g0 env0 st0 σ0 H0 g env st σ (upd H a u) := x.updV S ho no n h0
/-- an object that is nobody's becomes a slot's own -/
theorem SR.setOwn (S : SR k g env st σ H) {i : Nat} {t : T} (hi : i < env.length) (n : ¬ Trk g env st σ H a) (o : Own k g H a t) : SR k g (env.set i (.own t)) st (σ.set i (some (.ref a))) H := by
  have hi' : i < σ.length := by rw [← S.len]; exact hi
  have back : ∀ {q : Tk} {b : Addr}, Held g (env.set i (.own t)) st (σ.set i (some (.ref a))) H q b → (q = .slot i ∧ b = a) ∨ (Held g env st σ H q b ∧ q ≠ .slot i) := fun {q b} h => by
    cases q with
    | slot j =>
      by_cases e : i = j
      · subst e
        left
        refine ⟨rfl, ?_⟩
        rcases h with ⟨u, h1, h2⟩ | ⟨c, ns, ds, h1, h2⟩
        · rw [List.getElem?_set_self hi'] at h2; cases h2; rfl
        · rw [List.getElem?_set_self hi'] at h2; cases h2; rfl
      · right
        refine ⟨?_, fun z => e (by cases z; rfl)⟩
        rcases h with ⟨u, h1, h2⟩ | ⟨c, ns, ds, h1, h2⟩
        · rw [List.getElem?_set_ne e] at h1 h2; exact .inl ⟨u, h1, h2⟩
        · rw [List.getElem?_set_ne e] at h1 h2; exact .inr ⟨c, ns, ds, h1, h2⟩
    | cell m => exact .inr ⟨h, fun z => by cases z⟩
    | fld m j => exact .inr ⟨h, fun z => by cases z⟩
    | sfld l j =>
      obtain ⟨c, ns, ds, b', h1, h2, h3⟩ := h
      by_cases e : i = l
      · subst e
        rw [List.getElem?_set_self hi] at h1; cases h1
      · rw [List.getElem?_set_ne e] at h1 h2
        exact .inr ⟨⟨c, ns, ds, b', h1, h2, h3⟩, fun z => by cases z⟩
  refine ⟨S.sub, S.sz, by simp [S.len], fun j u e => ?_, fun j u e => ?_, fun j c ns ds e => ?_, S.cell, fun q q' b h1 h2 => ?_, fun q b h => ?_⟩
  · by_cases h : i = j
    · subst h; rw [List.getElem?_set_self hi] at e; cases e
    · rw [List.getElem?_set_ne h] at e ⊢; exact S.fr j u e
  · by_cases h : i = j
    · subst h; rw [List.getElem?_set_self hi] at e; cases e
      rw [List.getElem?_set_self hi']
      exact ⟨a, rfl, o⟩
    · rw [List.getElem?_set_ne h] at e ⊢; exact S.own j u e
  · by_cases h : i = j
    · subst h; rw [List.getElem?_set_self hi] at e; cases e
    · rw [List.getElem?_set_ne h] at e ⊢; exact S.slf j c ns ds e
  · rcases back h1 with ⟨e1, e2⟩ | ⟨h1, _⟩ <;> rcases back h2 with ⟨e3, e4⟩ | ⟨h2, _⟩
    · rw [e1, e3]
    · rw [e2] at h2; exact absurd (.inr ⟨_, h2⟩) n
    · rw [e4] at h1; exact absurd (.inr ⟨_, h1⟩) n
    · exact S.uniq _ _ _ h1 h2
  · rcases back h with ⟨_, rfl⟩ | ⟨h, _⟩
    · exact S.nof' n
    · exact S.nof q b h
theorem Ext.setOwn (x : Ext g0 env0 st0 σ0 H0 g env st σ H) (S : SR k g env st σ H) {i : Nat} {t : T} (hi : i < env.length) (h0 : H0 a ≠ none → Trk g0 env0 st0 σ0 H0 a) : Ext g0 env0 st0 σ0 H0 g (env.set i (.own t)) st (σ.set i (some (.ref a))) H := by
  have hi' : i < σ.length := by rw [← S.len]; exact hi
  refine ⟨x.le, fun b w e nt => ?_, x.there⟩
  have hb : b ≠ a := fun z => nt (by rw [z]; exact h0 (by rw [← z, e]; exact fun z => by cases z))
  obtain ⟨h1, n1⟩ := x.keep b w e nt
  refine ⟨h1, fun z => n1 ?_⟩
  rcases z with z | ⟨q, h⟩
  · exact .inl z
  · refine .inr ⟨q, ?_⟩
    cases q with
    | slot j =>
      by_cases e : i = j
      · subst e
        exfalso
        apply hb
        rcases h with ⟨u, h1, h2⟩ | ⟨c, ns, ds, h1, h2⟩
        · rw [List.getElem?_set_self hi'] at h2; cases h2; rfl
        · rw [List.getElem?_set_self hi'] at h2; cases h2; rfl
      · rcases h with ⟨u, h1, h2⟩ | ⟨c, ns, ds, h1, h2⟩
        · rw [List.getElem?_set_ne e] at h1 h2; exact .inl ⟨u, h1, h2⟩
        · rw [List.getElem?_set_ne e] at h1 h2; exact .inr ⟨c, ns, ds, h1, h2⟩
    | cell m => exact h
    | fld m j => exact h
    | sfld l j =>
      obtain ⟨c, ns, ds, b', h1, h2, h3⟩ := h
      by_cases e : i = l
      · subst e
        rw [List.getElem?_set_self hi] at h1; cases h1
      · rw [List.getElem?_set_ne e] at h1 h2
        exact ⟨c, ns, ds, b', h1, h2, h3⟩
/-- an own list changed in place -/
theorem SR.updOwn (S : SR k g env st σ H) {i : Nat} {t t' : T} {o u : HO} (e : env[i]? = some (.own t)) (ea : σ[i]? = some (some (.ref a))) (ho : H a = some o) (no : ∀ x, o ≠ .own x) (ni : ∀ C dx fs, u ≠ .ins C dx fs) (ow : Own k g (upd H a u) a t') :
    SR k g (env.set i (.own t')) st σ (upd H a u) ∧ Ext g env st σ H g (env.set i (.own t')) st σ (upd H a u) := by
  obtain ⟨S1, x1, n1, tr⟩ := S.dropOwn (v := .non) e ea
  obtain ⟨S2, n2⟩ := S1.updU (u := u) ho no ni n1
  have x2 := x1.updU S1 (u := u) ho no ni n1 (fun _ => tr)
  have hi : i < (env.set i .no).length := by rw [List.length_set]; exact (List.getElem?_eq_some_iff.mp e).1
  have S3 := S2.setOwn hi n2 ow
  have x3 := x2.setOwn (t := t') S2 hi (fun _ => tr)
  have e2 : (env.set i Slot.no).set i (.own t') = env.set i (.own t') := by simp
  rw [e2, set_same ea] at S3 x3
  exact ⟨S3, x3⟩
/-! ### cells -/
/-- a cell forgotten -/
theorem SR.dropCell (S : SR k g env st σ H) {n : Nat} {c : Cell} (e : st[n]? = some c) (hc : c.held) :
    SR k g env (st.set n .no) σ H ∧ Ext g env st σ H g env (st.set n .no) σ H ∧ ¬ Trk g env (st.set n .no) σ H (g.α n) ∧ Trk g env st σ H (g.α n) := by
  have hn : n < st.length := (List.getElem?_eq_some_iff.mp e).1
  have held : Held g env st σ H (.cell n) (g.α n) := ⟨c, e, hc, rfl⟩
  have back : ∀ {q : Tk} {b : Addr}, Held g env (st.set n .no) σ H q b → Held g env st σ H q b ∧ q ≠ .cell n := fun {q b} h => by
    cases q with
    | slot i => exact ⟨h, fun z => by cases z⟩
    | cell m =>
      obtain ⟨c', h1, h2, h3⟩ := h
      rw [set_get hn] at h1; split at h1
      · cases h1; exact h2.elim
      · rename_i hm; exact ⟨⟨c', h1, h2, h3⟩, fun z => hm (by cases z; rfl)⟩
    | fld m j =>
      obtain ⟨c', ns, ds, h1, h2⟩ := h
      rw [set_get hn] at h1; split at h1
      · cases h1
      · exact ⟨⟨c', ns, ds, h1, h2⟩, fun z => by cases z⟩
    | sfld i j => exact ⟨h, fun z => by cases z⟩
  refine ⟨⟨S.sub, by simp [S.sz], S.len, S.fr, S.own, S.slf, fun m c' h => ?_, fun q q' b h1 h2 => S.uniq q q' b (back h1).1 (back h2).1, fun q b h => S.nof q b (back h).1⟩, ⟨GLe.refl _, fun b o h n => ⟨h, fun z => n ?_⟩, fun _ h => h⟩, fun z => ?_, .of_held held⟩
  · rw [set_get hn] at h; split at h
    · cases h; trivial
    · exact S.cell m c' h
  · rcases z with z | ⟨q, z⟩
    · exact .inl z
    · exact .inr ⟨q, (back z).1⟩
  · rcases z with z | ⟨q, z⟩
    · exact z (S.nof _ _ held)
    · exact (back z).2 (S.uniq _ _ _ (back z).1 held)
/-- a cell without fields of its own -/
def Cell.plain : Cell → Prop
  | .lst _ => True
  | .tab _ => True
  | .ins _ _ ds => ∀ d ∈ ds, d.own = false
  | _ => False
theorem Cell.plain.no {c : Str} {ns : List Str} {ds : List Fd} (p : (Cell.ins c ns ds).plain) {H : Hp} {a b : Addr} {j : Nat} (o : OwnFd H a ds j b) : False := by
  obtain ⟨d, C, dx, fs, q, h1, h2, _⟩ := o
  have := p d (List.mem_of_getElem? h1)
  rw [h2] at this
  cases this
/-- an object that is nobody's becomes a cell's -/
theorem SR.setCellC (S : SR k g env st σ H) {n : Nat} {c0 : Cell} (pl : c0.plain) (hn : n < st.length) (nt : ¬ Trk g env st σ H (g.α n)) (o : CellOk k g H (g.α n) c0) : SR k g env (st.set n c0) σ H := by
  have back : ∀ {q : Tk} {b : Addr}, Held g env (st.set n c0) σ H q b → (q = .cell n ∧ b = g.α n) ∨ Held g env st σ H q b := fun {q b} h => by
    cases q with
    | slot i => exact .inr h
    | cell m =>
      obtain ⟨c', h1, h2, h3⟩ := h
      rw [set_get hn] at h1; split at h1
      · rename_i hm; subst hm; exact .inl ⟨rfl, h3.symm⟩
      · exact .inr ⟨c', h1, h2, h3⟩
    | fld m j =>
      obtain ⟨c', ns, ds, h1, h2⟩ := h
      rw [set_get hn] at h1; split at h1
      · cases h1; exact (Cell.plain.no pl h2).elim
      · exact .inr ⟨c', ns, ds, h1, h2⟩
    | sfld i j => exact .inr h
  refine ⟨S.sub, by simp [S.sz], S.len, S.fr, S.own, S.slf, fun m c' h => ?_, fun q q' b h1 h2 => ?_, fun q b h => ?_⟩
  · rw [set_get hn] at h; split at h
    · rename_i hm; subst hm; cases h; exact o
    · exact S.cell m c' h
  · rcases back h1 with ⟨e1, e2⟩ | h1 <;> rcases back h2 with ⟨e3, e4⟩ | h2
    · rw [e1, e3]
    · rw [e2] at h2; exact absurd (.inr ⟨_, h2⟩) nt
    · rw [e4] at h1; exact absurd (.inr ⟨_, h1⟩) nt
    · exact S.uniq _ _ _ h1 h2
  · rcases back h with ⟨_, rfl⟩ | h
    · exact S.nof' nt
    · exact S.nof q b h
theorem Ext.setCellC (x : Ext g0 env0 st0 σ0 H0 g env st σ H) {n : Nat} {c0 : Cell} (pl : c0.plain) (hn : n < st.length) (h0 : H0 (g.α n) ≠ none → Trk g0 env0 st0 σ0 H0 (g.α n)) : Ext g0 env0 st0 σ0 H0 g env (st.set n c0) σ H := by
  refine ⟨x.le, fun b w e nt => ?_, x.there⟩
  have hb : b ≠ g.α n := fun z => nt (by rw [z]; exact h0 (by rw [← z, e]; exact fun z => by cases z))
  obtain ⟨h1, n1⟩ := x.keep b w e nt
  refine ⟨h1, fun z => n1 ?_⟩
  rcases z with z | ⟨q, h⟩
  · exact .inl z
  · refine .inr ⟨q, ?_⟩
    cases q with
    | slot i => exact h
    | cell m =>
      obtain ⟨c', h1, h2, h3⟩ := h
      rw [set_get hn] at h1; split at h1
      · rename_i hm; subst hm; exact absurd h3.symm hb
      · exact ⟨c', h1, h2, h3⟩
    | fld m j =>
      obtain ⟨c', ns, ds, h1, h2⟩ := h
      rw [set_get hn] at h1; split at h1
      · cases h1; exact (Cell.plain.no pl h2).elim
      · exact ⟨c', ns, ds, h1, h2⟩
    | sfld i j => exact h
theorem SR.setCell (S : SR k g env st σ H) {n : Nat} {xs : List T} (hn : n < st.length) (nt : ¬ Trk g env st σ H (g.α n)) (o : CellOk k g H (g.α n) (.lst xs)) : SR k g env (st.set n (.lst xs)) σ H := S.setCellC trivial hn nt o
theorem Ext.setCell (x : Ext g0 env0 st0 σ0 H0 g env st σ H) {n : Nat} {xs : List T} (hn : n < st.length) (h0 : H0 (g.α n) ≠ none → Trk g0 env0 st0 σ0 H0 (g.α n)) : Ext g0 env0 st0 σ0 H0 g env (st.set n (.lst xs)) σ H := x.setCellC trivial hn h0
/-- a list of the store changed in place -/
theorem SR.updCell (S : SR k g env st σ H) {n : Nat} {xs xs' : List T} {vs : List V} (e : st[n]? = some (.lst xs)) (r : RepL k g xs' vs) :
    SR k g env (st.set n (.lst xs')) σ (upd H (g.α n) (.lst vs)) ∧ Ext g env st σ H g env (st.set n (.lst xs')) σ (upd H (g.α n) (.lst vs)) := by
  obtain ⟨ws, hw, _⟩ := S.cell n _ e
  obtain ⟨S1, x1, n1, tr⟩ := S.dropCell e trivial
  have no : ∀ x, HO.lst ws ≠ .own x := fun x z => by cases z
  have ni : ∀ C dx fs, HO.lst vs ≠ .ins C dx fs := fun _ _ _ z => by cases z
  obtain ⟨S2, n2⟩ := S1.updU (u := .lst vs) hw no ni n1
  have x2 := x1.updU S1 (u := .lst vs) hw no ni n1 (fun _ => tr)
  have hn : n < (st.set n .no).length := by rw [List.length_set]; exact (List.getElem?_eq_some_iff.mp e).1
  have S3 := S2.setCell (xs := xs') hn n2 ⟨vs, upd_same, r⟩
  have x3 := x2.setCell (xs := xs') hn (fun _ => tr)
  have e2 : (st.set n Cell.no).set n (.lst xs') = st.set n (.lst xs') := by simp
  rw [e2] at S3 x3
  exact ⟨S3, x3⟩
/-- a new cell for a list that is nobody's -/
def Gh.cell (g : Gh) (a : Addr) : Gh := { g with α := fun n => if n = g.B then a else g.α n, B := g.B + 1 }
theorem SR.newCellC (S : SR k g env st σ H) {c0 : Cell} (pl : c0.plain) (nt : ¬ Trk g env st σ H a) (o : CellOk k g H a c0) : SR k (g.cell a) env (st ++ [c0]) σ H ∧ GLe g (g.cell a) ∧ (g.cell a).α st.length = a := by
  have le : GLe g (g.cell a) := ⟨FSub.refl _, fun n hn => if_neg (Nat.ne_of_lt hn), Nat.le_succ _⟩
  have αo : ∀ {n}, n < st.length → (g.cell a).α n = g.α n := fun h => if_neg (by rw [S.sz]; exact Nat.ne_of_lt h)
  have αn : (g.cell a).α st.length = a := if_pos S.sz.symm
  have lt : ∀ {n : Nat} {c : Cell}, st[n]? = some c → n < st.length := fun e => (List.getElem?_eq_some_iff.mp e).1
  have cases_ : ∀ {n : Nat} {c : Cell}, (st ++ [c0])[n]? = some c → (n < st.length ∧ st[n]? = some c) ∨ (n = st.length ∧ c = c0) := fun {n c} e => by
    by_cases hn : n < st.length
    · rw [List.getElem?_append_left hn] at e; exact .inl ⟨hn, e⟩
    · rw [List.getElem?_append_right (by omega)] at e
      have : n - st.length = 0 := by
        cases q : n - st.length with
        | zero => rfl
        | succ m => rw [q] at e; simp at e
      rw [this] at e
      exact .inr ⟨by omega, by simpa using e.symm⟩
  have back : ∀ {q : Tk} {b : Addr}, Held (g.cell a) env (st ++ [c0]) σ H q b → (q = .cell st.length ∧ b = a) ∨ (Held g env st σ H q b ∧ q ≠ .cell st.length) := fun {q b} h => by
    cases q with
    | slot i => exact .inr ⟨h, fun z => by cases z⟩
    | cell m =>
      obtain ⟨c', h1, h2, h3⟩ := h
      rcases cases_ h1 with ⟨hm, h1⟩ | ⟨rfl, rfl⟩
      · rw [αo hm] at h3; exact .inr ⟨⟨c', h1, h2, h3⟩, fun z => by cases z; omega⟩
      · rw [αn] at h3; exact .inl ⟨rfl, h3.symm⟩
    | fld m j =>
      obtain ⟨c', ns, ds, h1, h2⟩ := h
      rcases cases_ h1 with ⟨hm, h1⟩ | ⟨rfl, z⟩
      · rw [αo hm] at h2; exact .inr ⟨⟨c', ns, ds, h1, h2⟩, fun z => by cases z⟩
      · subst z; exact (Cell.plain.no pl h2).elim
    | sfld i j => exact .inr ⟨h, fun z => by cases z⟩
  refine ⟨⟨S.sub, ?_, S.len, fun i t e => ?_, fun i t e => ?_, fun i c ns ds e => ?_, fun m c e => ?_, fun q q' b h1 h2 => ?_, fun q b h => ?_⟩, le, αn⟩
  · show g.B + 1 = _
    rw [List.length_append, S.sz]; rfl
  · obtain ⟨v, e1, r⟩ := S.fr i t e
    exact ⟨v, e1, Rep.mono le _ _ r⟩
  · obtain ⟨b, e1, r⟩ := S.own i t e
    exact ⟨b, e1, Own.mono le rfl _ r⟩
  · obtain ⟨b, e1, r⟩ := S.slf i c ns ds e
    exact ⟨b, e1, r.mono le rfl fun _ _ _ => rfl⟩
  · rcases cases_ e with ⟨hm, e⟩ | ⟨rfl, rfl⟩
    · have := S.cell m c e
      rw [αo hm]
      cases c with
      | no => trivial
      | lst xs => obtain ⟨vs, e1, r⟩ := this; exact ⟨vs, e1, RepL.mono le _ _ r⟩
      | scr xs => obtain ⟨vs, e1, r⟩ := this; exact ⟨vs, Mp.SqL.fmono le.f e1, RepL.mono le _ _ r⟩
      | tab q => exact TabOk.mono le rfl this
      | ins c ns ds => exact InsOk.mono le rfl (fun _ _ _ => rfl) this
    · rw [αn]
      cases c with
      | lst xs => obtain ⟨vs, h, r⟩ := o; exact ⟨vs, h, RepL.mono le _ _ r⟩
      | ins c ns ds => exact InsOk.mono le rfl (fun _ _ _ => rfl) o
      | no => trivial
      | scr xs => exact pl.elim
      | tab q => exact TabOk.mono le rfl o
  · rcases back h1 with ⟨e1, e2⟩ | ⟨h1, _⟩ <;> rcases back h2 with ⟨e3, e4⟩ | ⟨h2, _⟩
    · rw [e1, e3]
    · rw [e2] at h2; exact absurd (.inr ⟨_, h2⟩) nt
    · rw [e4] at h1; exact absurd (.inr ⟨_, h1⟩) nt
    · exact S.uniq _ _ _ h1 h2
  · rcases back h with ⟨_, rfl⟩ | ⟨h, _⟩
    · exact S.nof' nt
    · exact S.nof q b h
theorem Ext.newCellC (x : Ext g0 env0 st0 σ0 H0 g env st σ H) (S : SR k g env st σ H) {c0 : Cell} (pl : c0.plain) (h0 : H0 a ≠ none → Trk g0 env0 st0 σ0 H0 a) : Ext g0 env0 st0 σ0 H0 (g.cell a) env (st ++ [c0]) σ H := by
  have le : GLe g (g.cell a) := ⟨FSub.refl _, fun n hn => if_neg (Nat.ne_of_lt hn), Nat.le_succ _⟩
  have αo : ∀ {n}, n < st.length → (g.cell a).α n = g.α n := fun h => if_neg (by rw [S.sz]; exact Nat.ne_of_lt h)
  have αn : (g.cell a).α st.length = a := if_pos S.sz.symm
  have cases_ : ∀ {n : Nat} {c : Cell}, (st ++ [c0])[n]? = some c → (n < st.length ∧ st[n]? = some c) ∨ (n = st.length ∧ c = c0) := fun {n c} e => by
    by_cases hn : n < st.length
    · rw [List.getElem?_append_left hn] at e; exact .inl ⟨hn, e⟩
    · rw [List.getElem?_append_right (by omega)] at e
      have : n - st.length = 0 := by
        cases q : n - st.length with
        | zero => rfl
        | succ m => rw [q] at e; simp at e
      rw [this] at e
      exact .inr ⟨by omega, by simpa using e.symm⟩
  refine ⟨x.le.trans le, fun b w e nt => ?_, x.there⟩
  have hb : b ≠ a := fun z => nt (by rw [z]; exact h0 (by rw [← z, e]; exact fun z => by cases z))
  obtain ⟨h1, n1⟩ := x.keep b w e nt
  refine ⟨h1, fun z => n1 ?_⟩
  rcases z with z | ⟨q, h⟩
  · exact .inl z
  · refine .inr ⟨q, ?_⟩
    cases q with
    | slot i => exact h
    | cell m =>
      obtain ⟨c', h1, h2, h3⟩ := h
      rcases cases_ h1 with ⟨hm, h1⟩ | ⟨rfl, rfl⟩
      · rw [αo hm] at h3; exact ⟨c', h1, h2, h3⟩
      · rw [αn] at h3; exact absurd h3.symm hb
    | fld m j =>
      obtain ⟨c', ns, ds, h1, h2⟩ := h
      rcases cases_ h1 with ⟨hm, h1⟩ | ⟨rfl, z⟩
      · rw [αo hm] at h2; exact ⟨c', ns, ds, h1, h2⟩
      · subst z; exact (Cell.plain.no pl h2).elim
    | sfld i j => exact h
theorem SR.newCell (S : SR k g env st σ H) {xs : List T} {vs : List V} (nt : ¬ Trk g env st σ H a) (h : H a = some (.lst vs)) (r : RepL k g xs vs) : SR k (g.cell a) env (st ++ [.lst xs]) σ H ∧ GLe g (g.cell a) ∧ (g.cell a).α st.length = a := S.newCellC trivial nt ⟨vs, h, r⟩
theorem Ext.newCell (x : Ext g0 env0 st0 σ0 H0 g env st σ H) (S : SR k g env st σ H) {xs : List T} (h0 : H0 a ≠ none → Trk g0 env0 st0 σ0 H0 a) : Ext g0 env0 st0 σ0 H0 (g.cell a) env (st ++ [.lst xs]) σ H := x.newCellC S trivial h0

/-! ### a part of the slots: a callee's (none), a block's -/
/-- env0 has some of env's slots -/
structure Sub (env0 : En) (σ0 : L2.St) (env : En) (σ : L2.St) : Prop where
  at_ : ∀ i : Nat, (env0[i]? = env[i]? ∧ σ0[i]? = σ[i]?) ∨ env0[i]? = none ∨ env0[i]? = some .no
theorem Sub.nil : Sub [] [] env σ := ⟨fun i => .inr (.inl (by simp))⟩
theorem Sub.refl : Sub env σ env σ := ⟨fun i => .inl ⟨rfl, rfl⟩⟩
theorem Sub.own {env0 : En} {σ0 : L2.St} (b : Sub env0 σ0 env σ) {i : Nat} {t : T} (e : env0[i]? = some (.own t)) : env[i]? = some (.own t) ∧ σ0[i]? = σ[i]? := by
  rcases b.at_ i with ⟨h1, h2⟩ | h | h
  · exact ⟨by rw [← h1]; exact e, h2⟩
  · rw [h] at e; cases e
  · rw [h] at e; cases e
theorem Sub.slf {env0 : En} {σ0 : L2.St} (b : Sub env0 σ0 env σ) {i : Nat} {c : Str} {ns : List Str} {ds : List Fd} (e : env0[i]? = some (.slf c ns ds)) : env[i]? = some (.slf c ns ds) ∧ σ0[i]? = σ[i]? := by
  rcases b.at_ i with ⟨h1, h2⟩ | h | h
  · exact ⟨by rw [← h1]; exact e, h2⟩
  · rw [h] at e; cases e
  · rw [h] at e; cases e
theorem Sub.set {env0 : En} {σ0 : L2.St} (b : Sub env0 σ0 env σ) (i : Nat) : Sub (env0.set i .no) (σ0.set i none) env σ := ⟨fun j => by
  by_cases h : i = j
  · subst h
    rw [List.getElem?_set_self']
    cases env0[i]? with
    | none => exact .inr (.inl rfl)
    | some w => exact .inr (.inr rfl)
  · rw [List.getElem?_set_ne h, List.getElem?_set_ne h]
    exact b.at_ j⟩
theorem Sub.wipe : ∀ vs : List Nat, Sub (wipeE vs env) (L2.wipe σ vs) env σ
  | [] => .refl
  | v :: vs => (Sub.wipe vs).set v
section
variable {env0 : En} {σ0 : L2.St}
theorem Held.up (b : Sub env0 σ0 env σ) {q : Tk} (h : Held g env0 st σ0 H q a) : Held g env st σ H q a := by
  cases q with
  | slot i =>
    rcases h with ⟨t, h1, h2⟩ | ⟨c, ns, ds, h1, h2⟩
    · obtain ⟨e1, e2⟩ := b.own h1
      exact .inl ⟨t, e1, by rw [← e2]; exact h2⟩
    · obtain ⟨e1, e2⟩ := b.slf h1
      exact .inr ⟨c, ns, ds, e1, by rw [← e2]; exact h2⟩
  | cell n => exact h
  | fld n j => exact h
  | sfld i j =>
    obtain ⟨c, ns, ds, b', h1, h2, h3⟩ := h
    obtain ⟨e1, e2⟩ := b.slf h1
    exact ⟨c, ns, ds, b', e1, by rw [← e2]; exact h2, h3⟩
theorem Trk.up (b : Sub env0 σ0 env σ) (h : Trk g env0 st σ0 H a) : Trk g env st σ H a := by
  rcases h with h | ⟨q, h⟩
  · exact .inl h
  · exact .inr ⟨q, h.up b⟩
theorem SR.part (S : SR k g env st σ H) (b : Sub env0 σ0 env σ) (hl : env0.length = σ0.length) : SR k g env0 st σ0 H := by
  refine ⟨S.sub, S.sz, hl, fun i t e => ?_, fun i t e => ?_, fun i c ns ds e => ?_, S.cell, fun q q' x h1 h2 => S.uniq q q' x (h1.up b) (h2.up b), fun q x h => S.nof q x (h.up b)⟩
  · rcases b.at_ i with ⟨h1, h2⟩ | h | h
    · rw [h2]; exact S.fr i t (by rw [← h1]; exact e)
    · rw [h] at e; cases e
    · rw [h] at e; cases e
  · obtain ⟨e1, e2⟩ := b.own e
    rw [e2]; exact S.own i t e1
  · obtain ⟨e1, e2⟩ := b.slf e
    rw [e2]; exact S.slf i c ns ds e1
theorem SR.bare (S : SR k g env st σ H) : SR k g [] st [] H := S.part .nil rfl
/-- behind a call, a block -/
theorem SR.back (S : SR k g env st σ H) (b : Sub env0 σ0 env σ) {st' : Store} (x : Ext g env0 st σ0 H g' env0 st' σ0 H') (S' : SR k g' env0 st' σ0 H') : SR k g' env st' σ H' ∧ Ext g env st σ H g' env st' σ H' := by
  -- what a slot aside holds is kept, and is nobody's there
  have mineS : ∀ {i : Nat} {c : Addr}, (env0[i]? = none ∨ env0[i]? = some .no) → Held g env st σ H (.slot i) c → H' c = H c ∧ ¬ Trk g' env0 st' σ0 H' c := fun {i c} hi h => by
    obtain ⟨o, e⟩ := h.there S
    obtain ⟨h1, h2⟩ := x.keep c o e fun z => by
      rcases z with z | ⟨q', z⟩
      · exact z (S.nof _ _ h)
      · have := S.uniq _ _ _ h (z.up b)
        subst this
        rcases z with ⟨t, z, _⟩ | ⟨_, _, _, z, _⟩ <;> (rcases hi with hi | hi <;> rw [hi] at z <;> cases z)
    exact ⟨h1.trans e.symm, h2⟩
  have mineF : ∀ {i j : Nat} {c : Addr}, (env0[i]? = none ∨ env0[i]? = some .no) → Held g env st σ H (.sfld i j) c → H' c = H c ∧ ¬ Trk g' env0 st' σ0 H' c := fun {i j c} hi h => by
    obtain ⟨o, e⟩ := h.there S
    obtain ⟨h1, h2⟩ := x.keep c o e fun z => by
      rcases z with z | ⟨q', z⟩
      · exact z (S.nof _ _ h)
      · have := S.uniq _ _ _ h (z.up b)
        subst this
        obtain ⟨_, _, _, _, z, _⟩ := z
        rcases hi with hi | hi <;> rw [hi] at z <;> cases z
    exact ⟨h1.trans e.symm, h2⟩
  have split_ : ∀ {q : Tk} {c : Addr}, Held g' env st' σ H' q c → (Held g' env0 st' σ0 H' q c) ∨ (Held g env st σ H q c ∧ H' c = H c ∧ ¬ Trk g' env0 st' σ0 H' c) := fun {q c} h => by
    cases q with
    | slot i =>
      rcases b.at_ i with ⟨h1, h2⟩ | hi
      · left
        rcases h with ⟨t, e1, e2⟩ | ⟨cc, ns, ds, e1, e2⟩
        · exact .inl ⟨t, by rw [h1]; exact e1, by rw [h2]; exact e2⟩
        · exact .inr ⟨cc, ns, ds, by rw [h1]; exact e1, by rw [h2]; exact e2⟩
      · exact .inr ⟨h, mineS hi h⟩
    | cell n => exact .inl h
    | fld n j => exact .inl h
    | sfld i j =>
      rcases b.at_ i with ⟨h1, h2⟩ | hi
      · left
        obtain ⟨cc, ns, ds, b', e1, e2, e3⟩ := h
        exact ⟨cc, ns, ds, b', by rw [h1]; exact e1, by rw [h2]; exact e2, e3⟩
      · have h' : Held g env st σ H (.sfld i j) c := by
          obtain ⟨cc, ns, ds, b', h1, h2, d, C, dx, fs, p, h3, h4, h5, h6, h7⟩ := h
          have hb := mineS (i := i) (c := b') hi (.inr ⟨cc, ns, ds, h1, h2⟩)
          rw [hb.1] at h5
          exact ⟨cc, ns, ds, b', h1, h2, d, C, dx, fs, p, h3, h4, h5, h6, h7⟩
        exact .inr ⟨h', mineF hi h'⟩
  refine ⟨⟨S'.sub, S'.sz, S.len, fun i t e => ?_, fun i t e => ?_, fun i c ns ds e => ?_, S'.cell, fun q q' c h1 h2 => ?_, fun q c h => ?_⟩, x.le, fun c o e n => ?_, x.there⟩
  · obtain ⟨v, e1, r⟩ := S.fr i t e
    exact ⟨v, e1, Rep.mono x.le _ _ r⟩
  · rcases b.at_ i with ⟨h1, h2⟩ | hi
    · rw [← h2]; exact S'.own i t (by rw [h1]; exact e)
    · obtain ⟨c, e1, r⟩ := S.own i t e
      exact ⟨c, e1, Own.mono x.le (mineS hi (.inl ⟨t, e, e1⟩)).1 _ r⟩
  · rcases b.at_ i with ⟨h1, h2⟩ | hi
    · rw [← h2]; exact S'.slf i c ns ds (by rw [h1]; exact e)
    · obtain ⟨b', e1, r⟩ := S.slf i c ns ds e
      exact ⟨b', e1, r.mono x.le (mineS hi (.inr ⟨c, ns, ds, e, e1⟩)).1 fun j b2 h => (mineF (j := j) hi ⟨c, ns, ds, b', e, e1, h⟩).1⟩
  · rcases split_ h1 with h1 | ⟨h1, _, n1⟩ <;> rcases split_ h2 with h2 | ⟨h2, _, n2⟩
    · exact S'.uniq _ _ _ h1 h2
    · exact absurd (.inr ⟨_, h1⟩) n2
    · exact absurd (.inr ⟨_, h2⟩) n1
    · exact S.uniq _ _ _ h1 h2
  · rcases split_ h with h | ⟨h, _, n⟩
    · exact S'.nof q c h
    · exact S'.nof' n
  · obtain ⟨h1, n1⟩ := x.keep c o e fun z => n (z.up b)
    refine ⟨h1, fun z => ?_⟩
    rcases z with z | ⟨q, z⟩
    · exact n1 (.inl z)
    · rcases split_ z with z | ⟨z, _⟩
      · exact n1 (.inr ⟨q, z⟩)
      · exact n (.inr ⟨q, z⟩)
/-- what is new and nobody's there is nobody's -/
theorem Trk.back (S : SR k g env st σ H) (b : Sub env0 σ0 env σ) {st' : Store} (x : Ext g env0 st σ0 H g' env0 st' σ0 H') (S' : SR k g' env0 st' σ0 H') (h0 : H a = none) (n : ¬ Trk g' env0 st' σ0 H' a) : ¬ Trk g' env st' σ H' a := fun z => by
  rcases z with z | ⟨q, h⟩
  · exact n (.inl z)
  · obtain ⟨S2, x2⟩ := S.back b x S'
    cases q with
    | cell m => exact n (.inr ⟨.cell m, h⟩)
    | fld m j => exact n (.inr ⟨.fld m j, h⟩)
    | slot i =>
      rcases b.at_ i with ⟨h1, h2⟩ | hi
      · refine n (.inr ⟨.slot i, ?_⟩)
        rcases h with ⟨t, e1, e2⟩ | ⟨cc, ns, ds, e1, e2⟩
        · exact .inl ⟨t, by rw [h1]; exact e1, by rw [h2]; exact e2⟩
        · exact .inr ⟨cc, ns, ds, by rw [h1]; exact e1, by rw [h2]; exact e2⟩
      · have h' : Held g env st σ H (.slot i) a := h
        obtain ⟨o, e⟩ := h'.there S
        rw [h0] at e; cases e
    | sfld i j =>
      rcases b.at_ i with ⟨h1, h2⟩ | hi
      · refine n (.inr ⟨.sfld i j, ?_⟩)
        obtain ⟨cc, ns, ds, b', e1, e2, e3⟩ := h
        exact ⟨cc, ns, ds, b', by rw [h1]; exact e1, by rw [h2]; exact e2, e3⟩
      · obtain ⟨cc, ns, ds, b', h1, h2, d, C, dx, fs, p, h3, h4, h5, h6, h7⟩ := h
        obtain ⟨b2, e1, dx', ws, e2, l, f⟩ := S.slf i cc ns ds h1
        rw [h2] at e1; cases e1
        obtain ⟨o, eo⟩ : ∃ o, H' b' = some o := ⟨_, h5⟩
        have keepb : H' b' = H b' := by
          have hh : Held g env st σ H (.slot i) b' := .inr ⟨cc, ns, ds, h1, h2⟩
          have := x.keep b' _ e2 fun z => by
            rcases z with z | ⟨q', z⟩
            · exact z (S.nof _ _ hh)
            · have := S.uniq _ _ _ hh (z.up b)
              subst this
              rcases z with ⟨t, z, _⟩ | ⟨_, _, _, z, _⟩ <;> (rcases hi with hi | hi <;> rw [hi] at z <;> cases z)
          rw [this.1, e2]
        rw [keepb] at h5
        have hh : Held g env st σ H (.sfld i j) a := ⟨cc, ns, ds, b', h1, h2, d, C, dx, fs, p, h3, h4, h5, h6, h7⟩
        obtain ⟨o2, e⟩ := hh.there S
        rw [h0] at e; cases e
theorem Ext.part (S : SR k g env st σ H) (b : Sub env0 σ0 env σ) : Ext g env st σ H g env0 st σ0 H := ⟨GLe.refl _, fun c o e n => ⟨e, fun z => n (z.up b)⟩, fun _ h => h⟩
end
end
end Mp


set_option Elab.async false
set_option linter.all false
set_option maxRecDepth 100000
set_option maxHeartbeats 1000000
/-! Cla: instances in the store: begun, filled, let stand. -/
namespace Mp
open PySem PySem.Spec PyProof.Rows L2
section
variable {k : Gk} {g g0 : Gh} {env env0 : En} {st st0 : Store} {σ σ0 : L2.St} {H H0 : Hp} {a : Addr}
theorem Ext.fresh (S : SR k g env st σ H) {p : Addr} {o : HO} (hp : H p = none) : SR k g env st σ (upd H p o) ∧ Ext g env st σ H g env st σ (upd H p o) := ⟨(S.skip hp).1, (S.skip hp).2.1⟩
/-- C(): an instance without fields as a new cell -/
theorem SR.begun (S : SR k g env st σ H) {x dx : Addr} {c : Str} (hx : H x = none) (hd : H dx = none) (ne : dx ≠ x) :
    SR k (g.cell x) env (st ++ [.ins c [] []]) σ (upd (upd H dx (.own x)) x (.ins (k.cl c) dx [])) ∧ Ext g env st σ H (g.cell x) env (st ++ [.ins c [] []]) σ (upd (upd H dx (.own x)) x (.ins (k.cl c) dx [])) ∧ (g.cell x).α st.length = x ∧ st.length < (g.cell x).B := by
  obtain ⟨S1, x1, _⟩ := S.skip (o := .own x) hd
  have hx1 : upd H dx (.own x) x = none := by rw [upd_ne (Ne.symm ne)]; exact hx
  obtain ⟨S2, x2, n2⟩ := S1.skip (o := .ins (k.cl c) dx []) hx1
  have pl : (Cell.ins c [] []).plain := fun d hd => by cases hd
  obtain ⟨S3, le, e⟩ := S2.newCellC pl n2 ⟨dx, [], upd_same, rfl, rfl⟩
  exact ⟨S3, (x1.trans x2).newCellC S2 pl (fun z => absurd hx z), e, by show st.length < g.B + 1; rw [S.sz]; omega⟩
/-- an instance of the store changed in place -/
theorem SR.updCellI (S : SR k g env st σ H) {n : Nat} {c : Str} {ns ns' : List Str} {ds ds' : List Fd} {o u : HO} (e : st[n]? = some (.ins c ns ds)) (pl : (Cell.ins c ns' ds').plain) (ho : H (g.α n) = some o) (no : ∀ x, o ≠ .own x)
    (new : InsOk k g (upd H (g.α n) u) (g.α n) c ns' ds') : SR k g env (st.set n (.ins c ns' ds')) σ (upd H (g.α n) u) ∧ Ext g env st σ H g env (st.set n (.ins c ns' ds')) σ (upd H (g.α n) u) := by
  obtain ⟨S1, x1, n1, tr⟩ := S.dropCell e trivial
  obtain ⟨S2, n2⟩ := S1.updV (u := u) ho no n1
  have x2 := x1.updV S1 (u := u) ho no n1 (fun _ => tr)
  have hn : n < (st.set n .no).length := by rw [List.length_set]; exact (List.getElem?_eq_some_iff.mp e).1
  have S3 := S2.setCellC pl hn n2 new
  have x3 := x2.setCellC pl hn (fun _ => tr)
  have e2 : (st.set n Cell.no).set n (.ins c ns' ds') = st.set n (.ins c ns' ds') := by simp
  rw [e2] at S3 x3
  exact ⟨S3, x3⟩
/-- one field more, or another value in its place -/
theorem put_zip {f : Str} {d : Fd} {v : V} (hv : FdOk k g H d v) : ∀ {ns : List Str} {ds : List Fd} {ws : List V}, ws.length = ns.length → ds.length = ns.length → FdsOk k g H ds ws →
    ∃ ws', L2.putF f v (ns.zip ws) = (Mp.putF f d ns ds).1.zip ws' ∧ ws'.length = (Mp.putF f d ns ds).1.length ∧ FdsOk k g H (Mp.putF f d ns ds).2 ws'
  | [], [], [], _, _, _ => ⟨[v], rfl, rfl, ⟨v, [], rfl, hv, rfl⟩⟩
  | n :: ns, d0 :: ds, w :: ws, h1, h2, r => by
    obtain ⟨w', r', e, q1, q2⟩ := r
    cases e
    have h1 : ws.length = ns.length := by simpa using h1
    have h2 : ds.length = ns.length := by simpa using h2
    by_cases hf : n = f
    · subst hf
      refine ⟨v :: ws, ?_, ?_, ?_⟩
      · simp [L2.putF, Mp.putF]
      · simp [Mp.putF, h1]
      · simp only [Mp.putF, beq_self_eq_true, if_true]
        exact ⟨v, ws, rfl, hv, q2⟩
    · obtain ⟨ws', e1, e2, e3⟩ := put_zip (f := f) hv h1 h2 q2
      have hb : (n == f) = false := by simpa using hf
      refine ⟨w :: ws', ?_, ?_, ?_⟩
      · simp [L2.putF, Mp.putF, hb, hf, e1]
      · simp [Mp.putF, hb, e2]
      · simp only [Mp.putF, hb]
        exact ⟨w, ws', rfl, q1, e3⟩
  | [], [], _ :: _, h, _, _ => by simp at h
  | [], _ :: _, _, _, h, _ => by simp at h
  | _ :: _, [], _, _, h, _ => by simp at h
  | _ :: _, _ :: _, [], h, _, _ => by simp at h
theorem put_plain {f : Str} {t : T} : ∀ {ns : List Str} {ds : List Fd}, (∀ d ∈ ds, d.own = false) → ∀ d ∈ (Mp.putF f ⟨false, t⟩ ns ds).2, d.own = false
  | [], _, _, d, hd => by
    have : d = ⟨false, t⟩ := by simpa [Mp.putF] using hd
    rw [this]
  | _ :: _, [], _, d, hd => by
    have : d = ⟨false, t⟩ := by simpa [Mp.putF] using hd
    rw [this]
  | n :: ns, d0 :: ds, h, d, hd => by
    by_cases hf : (n == f) = true
    · have hd : d ∈ (⟨false, t⟩ : Fd) :: ds := by simpa [Mp.putF, hf] using hd
      rcases List.mem_cons.mp hd with rfl | hd
      · rfl
      · exact h d (List.mem_cons_of_mem _ hd)
    · have hd : d ∈ d0 :: (Mp.putF f ⟨false, t⟩ ns ds).2 := by simpa [Mp.putF, hf] using hd
      rcases List.mem_cons.mp hd with rfl | hd
      · exact h _ List.mem_cons_self
      · exact put_plain (fun d hd => h d (List.mem_cons_of_mem _ hd)) d hd
theorem plainD_iff {ds : List Fd} : plainD ds = true ↔ ∀ d ∈ ds, d.own = false := by
  unfold plainD
  rw [List.all_eq_true]
  constructor
  · intro h d hd; simpa using h d hd
  · intro h d hd; simp [h d hd]
theorem fds_any {H' : Hp} : ∀ {ds : List Fd} {ws : List V}, (∀ d ∈ ds, d.own = false) → FdsOk k g H ds ws → FdsOk k g H' ds ws
  | [], ws, _, r => r
  | d :: ds, ws, h, r => by
    obtain ⟨w, r', e, q1, q2⟩ := r
    refine ⟨w, r', e, ?_, fds_any (fun d hd => h d (List.mem_cons_of_mem _ hd)) q2⟩
    have := h d List.mem_cons_self
    unfold FdOk at q1 ⊢
    rw [this] at q1 ⊢
    exact q1
theorem fds_rep : ∀ {ds : List Fd} {ws : List V}, (∀ d ∈ ds, d.own = false) → FdsOk k g H ds ws → RepL k g (ds.map (·.t)) ws
  | [], ws, _, r => RepL.nil.mpr r
  | d :: ds, ws, h, r => by
    obtain ⟨w, r', e, q1, q2⟩ := r
    refine RepL.cons.mpr ⟨w, r', e, ?_, fds_rep (fun d hd => h d (List.mem_cons_of_mem _ hd)) q2⟩
    have := h d List.mem_cons_self
    unfold FdOk at q1
    rw [this] at q1
    exact q1
/-- o.f = v -/
theorem SR.setFld (S : SR k g env st σ H) {f : Str} {t x : T} {v : V} {s' : Store} (e : Mp.setFld f st t x = some s') (rv : Rep k g t v) (rx : Rep k g x (.ref a)) :
    ∃ c dx fs, H a = some (.ins (k.cl c) dx fs) ∧ fs.length < 1000 ∧ (∃ n, x = .obj n ∧ clsOf st (.obj n) = some c) ∧ SR k g env s' σ (upd H a (.ins (k.cl c) dx (L2.putF f v fs))) ∧ Ext g env st σ H g env s' σ (upd H a (.ins (k.cl c) dx (L2.putF f v fs))) := by
  unfold Mp.setFld at e
  split at e
  rotate_left
  · cases e
  rename_i n
  split at e
  rotate_left
  · cases e
  rename_i c ns ds hn
  split at e
  rotate_left
  · cases e
  rename_i hh
  cases e
  rw [Bool.and_eq_true, Bool.and_eq_true, decide_eq_true_iff, decide_eq_true_iff, plainD_iff] at hh
  obtain ⟨⟨h1, h2⟩, h3⟩ := hh
  obtain ⟨ea, lt⟩ : V.ref a = .ref (g.α n) ∧ n < g.B := by unfold Rep at rx; exact rx
  cases ea
  obtain ⟨dx, ws, ho, hl, hf⟩ := S.cell n _ hn
  have hv : FdOk k g H ⟨false, t⟩ v := rv
  obtain ⟨ws', e1, e2, e3⟩ := put_zip (f := f) hv hl h3 hf
  have pl : (Cell.ins c (Mp.putF f ⟨false, t⟩ ns ds).1 (Mp.putF f ⟨false, t⟩ ns ds).2).plain := put_plain h2
  refine ⟨c, dx, ns.zip ws, ho, ?_, ⟨n, rfl, by simp [clsOf, hn]⟩, S.updCellI hn pl ho (fun x z => by cases z) ?_⟩
  · rw [List.length_zip]; omega
  · exact ⟨dx, ws', by rw [upd_same, e1], e2, fds_any pl e3⟩
/-- a filled instance is a value from here on -/
theorem SR.freezeI (S : SR k g env st σ H) {n : Nat} {c : Str} {ns : List Str} {ds : List Fd} (e : st[n]? = some (.ins c ns ds)) (pl : ∀ d ∈ ds, d.own = false) :
    ∃ g', SR k g' env (st.set n .no) σ H ∧ Ext g env st σ H g' env (st.set n .no) σ H ∧ Rep k g' (.ins c ns (ds.map (·.t))) (.ref (g.α n)) := by
  obtain ⟨dx, ws, ho, hl, hf⟩ := S.cell n _ e
  obtain ⟨S1, x1, n1, tr⟩ := S.dropCell e trivial
  obtain ⟨S2, le⟩ := S1.freeze ho n1
  refine ⟨_, S2, x1.freeze (fun _ => tr) (S1.nof' n1), ?_⟩
  unfold Rep
  exact ⟨g.α n, dx, ws, rfl, upd_same, hl, RepL.mono le _ _ (fds_rep pl hf)⟩
/-- a list of the store is a value from here on -/
theorem SR.freezeL (S : SR k g env st σ H) {n : Nat} {xs : List T} (e : st[n]? = some (.lst xs)) :
    ∃ g', SR k g' env (st.set n .no) σ H ∧ Ext g env st σ H g' env (st.set n .no) σ H ∧ ∃ vs, g'.F (g.α n) = some (.lst vs) ∧ RepL k g' xs vs := by
  obtain ⟨vs, ho, r⟩ := S.cell n _ e
  obtain ⟨S1, x1, n1, tr⟩ := S.dropCell e trivial
  obtain ⟨S2, le⟩ := S1.freeze ho n1
  exact ⟨_, S2, x1.freeze (fun _ => tr) (S1.nof' n1), vs, upd_same, RepL.mono le _ _ r⟩
/-- a field read -/
theorem fld_of (S : SR k g env st σ H) {f : Str} {x z : T} {v : V} (e : fldT f st x = some z) (r : Rep k g x v) : ∃ a c dx fs w, v = .ref a ∧ H a = some (.ins (k.cl c) dx fs) ∧ clsOf st x = some c ∧ fs.lookup f = some w ∧ Rep k g z w := by
  have look : ∀ {ns : List Str} {ts : List T} {ws : List V}, lookF f ns ts = some z → ws.length = ns.length → RepL k g ts ws → ∃ w, (ns.zip ws).lookup f = some w ∧ Rep k g z w := by
    intro ns
    induction ns with
    | nil => intro ts ws h; cases h
    | cons n ns ih =>
      intro ts ws h hl r
      cases ts with
      | nil => cases h
      | cons t ts =>
        obtain ⟨w, ws', rfl, r1, r2⟩ := RepL.cons.mp r
        have h : (if n == f then some t else lookF f ns ts) = some z := h
        have hl : ws'.length = ns.length := by simpa using hl
        by_cases hf : n = f
        · subst hf
          simp at h
          subst h
          exact ⟨w, by simp [List.lookup], r1⟩
        · have hb : (n == f) = false := by simpa using hf
          rw [hb] at h
          obtain ⟨u, e1, e2⟩ := ih h hl r2
          refine ⟨u, ?_, e2⟩
          have : (f == n) = false := by simpa using Ne.symm hf
          simp [List.lookup, this, e1]
  have lookD : ∀ {ns : List Str} {ds : List Fd} {ws : List V}, lookF f ns ds = some ⟨false, z⟩ → ws.length = ns.length → FdsOk k g H ds ws → ∃ w, (ns.zip ws).lookup f = some w ∧ Rep k g z w := by
    intro ns
    induction ns with
    | nil => intro ts ws h; cases h
    | cons n ns ih =>
      intro ts ws h hl r
      cases ts with
      | nil => cases h
      | cons t ts =>
        obtain ⟨w, ws', rfl, r1, r2⟩ := r
        have h : (if n == f then some t else lookF f ns ts) = some ⟨false, z⟩ := h
        have hl : ws'.length = ns.length := by simpa using hl
        by_cases hf : n = f
        · subst hf
          simp at h
          subst h
          exact ⟨w, by simp [List.lookup], r1⟩
        · have hb : (n == f) = false := by simpa using hf
          rw [hb] at h
          obtain ⟨u, e1, e2⟩ := ih h hl r2
          refine ⟨u, ?_, e2⟩
          have : (f == n) = false := by simpa using Ne.symm hf
          simp [List.lookup, this, e1]
  cases x with
  | ins c ns ts =>
    unfold Rep at r
    obtain ⟨a, dx, ws, rfl, h1, hl, r⟩ := r
    obtain ⟨w, e1, e2⟩ := look e hl r
    exact ⟨a, c, dx, ns.zip ws, w, rfl, S.sub _ _ h1, rfl, e1, e2⟩
  | obj n =>
    unfold Rep at r
    obtain ⟨rfl, hn⟩ := r
    have e : (match st[n]? with
      | some (.ins _ ns vs) => (match lookF f ns vs with
        | some ⟨false, t⟩ => some t
        | _ => none)
      | _ => none) = some z := e
    split at e
    · rename_i c ns ds h
      split at e
      · rename_i t ht
        cases e
        obtain ⟨dx, ws, ho, hl, hf⟩ := S.cell n _ h
        obtain ⟨w, e1, e2⟩ := lookD ht hl hf
        exact ⟨g.α n, c, dx, ns.zip ws, w, rfl, ho, by simp [clsOf, h], e1, e2⟩
      · cases e
    · cases e
  | _ => cases e
end
end Mp


set_option Elab.async false
set_option linter.all false
set_option maxRecDepth 100000
/-! Sx: the soundness of expressions: what is asked and told. -/
namespace Mp
open PySem PySem.Spec PyProof.Rows L2
/-- an exception: its class, its values -/
def ErrOk (k : Gk) (g : Gh) (H : Hp) (c : Str) (vs : List T) (cls : Value) (d : Option Addr) : Prop := cls = .ref (k.cl c) ∧ ∃ dx fs, d = some dx ∧ H dx = some (.xd fs) ∧ k.xn c = some (fs.map (·.1)) ∧ RepL k g vs (fs.map (·.2))
/-- how a result is to be read: the heap at the start, then what stands at the end -/
abbrev Rdg (α β : Type) := Hp → En → Store → L2.St → Gh → Hp → α → β → Prop
/-- what was there is there -/
def Dom (H H1 : Hp) : Prop := ∀ a, H a ≠ none → H1 a ≠ none
def Mono0 {α β : Type} (R : Rdg α β) : Prop := ∀ H0 H1 env st σ g H t v, Dom H0 H1 → R H1 env st σ g H t v → R H0 env st σ g H t v
section
variable (k : Gk) (W : L2.WX) {α β : Type}
def After (R : Rdg α β) (σ : L2.St) (env : En) (g : Gh) (st : Store) (H : Hp) (Q : β → Hp → Prop) : Out α → Prop
  | .ok t st' => ∀ v H' g', Ext g env st σ H g' env st' σ H' → SR k g' env st' σ H' → R H env st' σ g' H' t v → Q v H'
  | .err c vs st' => ∀ cls d H' g', Ext g env st σ H g' env st' σ H' → SR k g' env st' σ H' → ErrOk k g' H' c vs cls d → W cls d σ H'
  | .bad => False
def tR (R : Rdg α β) (f : Ev α) : L2.St → Hp → (β → Hp → Prop) → Prop := fun σ H Q => ∃ g env st, SR k g env st σ H ∧ After k W R σ env g st H Q (f env st)
/-- a value -/
def rV : Rdg T V := fun _ _ _ _ g _ t v => Rep k g t v
/-- .. or a list, a dict of a name's own -/
def rS : Rdg T V := fun _ env _ σ g _ t v => Rep k g t v ∨ ∃ i : Nat, env[i]? = some (Slot.own t) ∧ σ[i]? = some (some v)
/-- .. or any of one's own, as it stands -/
def RepB (g : Gh) (H : Hp) (t : T) (v : V) : Prop := Rep k g t v ∨ ∃ a, v = .ref a ∧ Own k g H a t
def rB : Rdg T V := fun _ _ _ _ g H t v => RepB k g H t v
/-- a new list, a new dict: nobody's yet -/
def rF : Rdg T V := fun H0 env st σ g H t v => match t with
  | .lst xs => ∃ a vs, v = .ref a ∧ H0 a = none ∧ H a = some (.lst vs) ∧ RepL k g xs vs ∧ ¬ Trk g env st σ H a
  | .dct kvs => ∃ a vs, v = .ref a ∧ H0 a = none ∧ H a = some (.dK vs) ∧ RepE k g kvs vs ∧ ¬ Trk g env st σ H a
  | t => Rep k g t v
def rL : Rdg (List T) (List V) := fun _ _ _ _ g _ t v => RepL k g t v
def rT : Rdg Bool Bool := fun _ _ _ _ _ _ b c => b = c
abbrev tV (f : EvT) : TE := tR k W (rV k) f
abbrev tS (f : EvT) : TE := tR k W (rS k) f
abbrev tB (f : EvT) : TE := tR k W (rB k) f
abbrev tF (f : EvT) : TE := tR k W (rF k) f
abbrev tL (fs : List EvT) : TA := tR k W (rL k) (evL fs)
abbrev tT (f : EvB) : TT := tR k W rT f
end
theorem PE.imp {X : Cx} {e : Expr} {t t' : TE} (h : PE X e t) (i : ∀ σ H Q, t' σ H Q → t σ H Q) : PE X e t' := ⟨fun pins s σ H Q I q => h.run pins s σ H Q I (i σ H Q q)⟩
theorem PT.imp {X : Cx} {e : Expr} {t t' : TT} (h : PT X e t) (i : ∀ σ H Q, t' σ H Q → t σ H Q) : PT X e t' := ⟨fun pins s σ H Q I q => h.run pins s σ H Q I (i σ H Q q)⟩
theorem PW.imp {X : Cx} {e : Expr} {t t' : TT} (h : PW X e t) (i : ∀ σ H Q, t' σ H Q → t σ H Q) : PW X e t' := ⟨fun wh pins s σ H Q I q => h.run wh pins s σ H Q I (i σ H Q q)⟩
theorem PA.imp {X : Cx} {e : List Expr} {t t' : TA} (h : PA X e t) (i : ∀ σ H Q, t' σ H Q → t σ H Q) : PA X e t' := ⟨fun pos pins s σ H Q I q => h.run pos pins s σ H Q I (i σ H Q q)⟩
theorem PS.imp {X : Cx} {e : Stmt} {t t' : TS} (h : PS X e t) (i : ∀ D σ H, t' D σ H → t D σ H) : PS X e t' := ⟨fun pins s σ H D I q => h.run pins s σ H D I (i D σ H q)⟩
theorem PSs.imp {X : Cx} {e : List Stmt} {t t' : TS} (h : PSs X e t) (i : ∀ D σ H, t' D σ H → t D σ H) : PSs X e t' := ⟨fun pins s σ H D I q => h.run pins s σ H D I (i D σ H q)⟩
theorem PI.imp {X : Cx} {tg e : Expr} {t t' : TI} (h : PI X tg e t) (i : ∀ σ H R, t' σ H R → t σ H R) : PI X tg e t' := ⟨fun pins s σ H R I q => h.run pins s σ H R I (i σ H R q)⟩
section
variable {k : Gk} {W : L2.WX} {X : Cx} {α β γ δ : Type} {R : Rdg α β} {R1 : Rdg γ δ} {g g1 : Gh} {env : En} {st st1 : Store} {σ : L2.St} {H H1 : Hp} {Q Q' : β → Hp → Prop}
theorem m0V : Mono0 (rV k) := fun _ _ _ _ _ _ _ _ _ _ q => q
theorem m0S : Mono0 (rS k) := fun _ _ _ _ _ _ _ _ _ _ q => q
theorem m0B : Mono0 (rB k) := fun _ _ _ _ _ _ _ _ _ _ q => q
theorem m0L : Mono0 (rL k) := fun _ _ _ _ _ _ _ _ _ _ q => q
theorem m0T : Mono0 rT := fun _ _ _ _ _ _ _ _ _ _ q => q
theorem Dom.none {H H1 : Hp} (d : Dom H H1) {a : Addr} (h : H1 a = none) : H a = none := by
  cases e : H a with
  | none => rfl
  | some o => exact absurd h (d a (by rw [e]; exact fun z => by cases z))
theorem m0F : Mono0 (rF k) := fun H0 H1 env st σ g H t v d q => by
  cases t with
  | lst xs =>
    obtain ⟨a, vs, e, h, r⟩ := q
    exact ⟨a, vs, e, d.none h, r⟩
  | dct xs =>
    obtain ⟨a, vs, e, h, r⟩ := q
    exact ⟨a, vs, e, d.none h, r⟩
  | _ => exact q
theorem After.imp {r : Out α} (h : After k W R σ env g st H Q r) (i : ∀ v H', Q v H' → Q' v H') : After k W R σ env g st H Q' r := by
  cases r with
  | ok t st' => exact fun v H' g' x S r => i _ _ (h v H' g' x S r)
  | err c vs st' => exact h
  | bad => exact h
/-- what is asked stays asked behind a step -/
theorem After.shift (m : Mono0 R) (x : Ext g env st σ H g1 env st1 σ H1) {r : Out α} (h : After k W R σ env g st H Q r) : After k W R σ env g1 st1 H1 Q r := by
  cases r with
  | ok t st' => exact fun v H' g' e S r => h v H' g' (x.trans e) S (m _ _ _ _ _ _ _ _ _ x.there r)
  | err c vs st' => exact fun cls d H' g' e S r => h cls d H' g' (x.trans e) S r
  | bad => exact h
/-- one step, then the rest -/
theorem After.bind (m : Mono0 R) {f : Ev γ} {h : γ → Ev α} (q : After k W R σ env g st H Q (Ev.bind f h env st)) :
    After k W R1 σ env g st H (fun v H1 => ∃ a st1 g1, Ext g env st σ H g1 env st1 σ H1 ∧ SR k g1 env st1 σ H1 ∧ R1 H env st1 σ g1 H1 a v ∧ After k W R σ env g1 st1 H1 Q (h a env st1)) (f env st) := by
  unfold Ev.bind at q
  cases e : f env st with
  | bad => rw [e] at q; exact q
  | err c vs st' => rw [e] at q; exact q
  | ok a st1 =>
    rw [e] at q
    exact fun v H1 g1 x S r => ⟨a, st1, g1, x, S, r, After.shift m x q⟩
theorem tR.bind (m : Mono0 R) {f : Ev γ} {h : γ → Ev α} (q : tR k W R (Ev.bind f h) σ H Q) :
    tR k W R1 f σ H (fun v H1 => ∃ g0 env st a st1 g1, Ext g0 env st σ H g1 env st1 σ H1 ∧ SR k g1 env st1 σ H1 ∧ R1 H env st1 σ g1 H1 a v ∧ After k W R σ env g1 st1 H1 Q (h a env st1)) := by
  obtain ⟨g, env, st, S, q⟩ := q
  exact ⟨g, env, st, S, (q.bind m).imp fun v H1 ⟨a, st1, g1, r⟩ => ⟨g, env, st, a, st1, g1, r⟩⟩
theorem After.then (m : Mono0 R) (S : SR k g env st σ H) {f : Ev γ} {h : γ → Ev α} (q : After k W R σ env g st H Q (Ev.bind f h env st)) :
    tR k W R1 f σ H (fun v H1 => ∃ a st1 g1, Ext g env st σ H g1 env st1 σ H1 ∧ SR k g1 env st1 σ H1 ∧ R1 H env st1 σ g1 H1 a v ∧ After k W R σ env g1 st1 H1 Q (h a env st1)) := ⟨g, env, st, S, q.bind m⟩
theorem After.pure (S : SR k g env st σ H) {a : α} {v : β} (q : After k W R σ env g st H Q (Ev.pure a env st)) (r : R H env st σ g H a v) : Q v H := q v H g Ext.refl S r
theorem After.opt {o : Option α} (q : After k W R σ env g st H Q (Ev.opt o env st)) : ∃ z, o = some z ∧ After k W R σ env g st H Q (.ok z st) := by
  cases o with
  | none => exact q.elim
  | some z => exact ⟨z, rfl, q⟩
/-- a narrower reading -/
theorem tR.imp {R' : Rdg α β} {f : Ev α} (i : ∀ env st σ g H0 H t v, SR k g env st σ H → R H0 env st σ g H t v → R' H0 env st σ g H t v) {σ : L2.St} {H : Hp} {Q : β → Hp → Prop} (h : tR k W R' f σ H Q) : tR k W R f σ H Q := by
  obtain ⟨g, env, st, S, q⟩ := h
  refine ⟨g, env, st, S, ?_⟩
  cases e : f env st with
  | ok t st' =>
    rw [e] at q
    exact fun v H' g' x S' r => q v H' g' x S' (i _ _ _ _ _ _ _ _ S' r)
  | err c vs st' => rw [e] at q; exact q
  | bad => rw [e] at q; exact q
theorem rS.b {H0 : Hp} {t : T} {v : V} (S : SR k g env st σ H) (h : rS k H0 env st σ g H t v) : RepB k g H t v := by
  rcases h with h | ⟨i, e1, e2⟩
  · exact .inl h
  · obtain ⟨a, e3, o⟩ := S.own i t e1
    rw [e2] at e3
    cases e3
    exact .inr ⟨a, rfl, o⟩
theorem rS.mono {H0 H0' : Hp} {t : T} {v : V} (h : GLe g g1) (q : rS k H0 env st σ g H t v) : rS k H0' env st1 σ g1 H1 t v := by
  rcases q with q | q
  · exact .inl (Rep.mono h _ _ q)
  · exact .inr q
/-- values are values that stand, too -/
theorem PE.toS {e : Expr} {f : EvT} (h : PE X e (tV k W f)) : PE X e (tS k W f) := Mp.PE.imp h fun σ H Q q => tR.imp (fun _ _ _ _ _ _ _ _ _ r => .inl r) q
theorem PE.toB {e : Expr} {f : EvT} (h : PE X e (tS k W f)) : PE X e (tB k W f) := Mp.PE.imp h fun σ H Q q => tR.imp (fun _ _ _ _ _ _ _ _ S r => rS.b S r) q
theorem PE.vB {e : Expr} {f : EvT} (h : PE X e (tV k W f)) : PE X e (tB k W f) := Mp.PE.toB (Mp.PE.toS h)
/-- what is new may be kept as a value -/
theorem rF.thaw {g0 : Gh} {env0 : En} {st0 : Store} {σ0 : L2.St} {H0 : Hp} {t : T} {v : V} (x : Ext g0 env0 st0 σ0 H0 g env st σ H) (S : SR k g env st σ H) (r : rF k H0 env st σ g H t v) :
    ∃ g', Ext g0 env0 st0 σ0 H0 g' env st σ H ∧ SR k g' env st σ H ∧ Rep k g' t v := by
  cases t with
  | lst xs =>
    obtain ⟨a, vs, rfl, h0, h, r, n⟩ := r
    obtain ⟨S1, le⟩ := S.freeze h n
    refine ⟨_, x.freeze (o := .lst vs) (fun z => absurd h0 z) (S.nof' n), S1, ?_⟩
    unfold Rep
    exact ⟨a, vs, rfl, upd_same, RepL.mono le _ _ r⟩
  | dct xs =>
    obtain ⟨a, vs, rfl, h0, h, r, n⟩ := r
    obtain ⟨S1, le⟩ := S.freeze h n
    refine ⟨_, x.freeze (o := .dK vs) (fun z => absurd h0 z) (S.nof' n), S1, ?_⟩
    unfold Rep
    exact ⟨a, vs, rfl, upd_same, RepE.mono le _ _ r⟩
  | _ => exact ⟨g, x, S, r⟩
theorem rd_thaw {f : EvT} {σ : L2.St} {H : Hp} {Q : VK} (q : tV k W f σ H Q) : tF k W f σ H Q := by
  obtain ⟨g, env, st, S, q⟩ := q
  refine ⟨g, env, st, S, ?_⟩
  cases e : f env st with
  | ok t st' =>
    rw [e] at q
    intro v H' g' x S' r
    obtain ⟨g2, x2, S2, r2⟩ := rF.thaw x S' r
    exact q v H' g2 x2 S2 r2
  | err c vs st' => rw [e] at q; exact q
  | bad => rw [e] at q; exact q
theorem PE.thaw {e : Expr} {f : EvT} (h : PE X e (tF k W f)) : PE X e (tV k W f) := Mp.PE.imp h fun σ H Q q => rd_thaw q
theorem pe_bad {e : Expr} : PE X e (tR k W (rV k) Ev.bad) := ⟨fun _ _ _ _ _ _ q => by obtain ⟨g, env, st, S, q⟩ := q; exact q.elim⟩
theorem pe_badF {e : Expr} : PE X e (tR k W (rF k) Ev.bad) := ⟨fun _ _ _ _ _ _ q => by obtain ⟨g, env, st, S, q⟩ := q; exact q.elim⟩

/-! ### names, constants -/
theorem sx_con {e : Expr} {v : V} {t : T} (h : PE X e (tC v)) (hr : ∀ g, Rep k g t v) : PE X e (tV k W (con t)) :=
  Mp.PE.imp h fun σ H Q ⟨g, env, st, S, q⟩ => q v H g Ext.refl S (hr g)
theorem sx_var {e : Expr} {i : Nat} (h : PE X e (tVar i)) : PE X e (tV k W (var i)) := by
  refine Mp.PE.imp h fun σ H Q ⟨g, env, st, S, q⟩ => ?_
  unfold var at q
  split at q
  · rename_i t e
    obtain ⟨v, e1, r⟩ := S.fr i t e
    exact ⟨v, e1, q v H g Ext.refl S r⟩
  · exact q.elim
theorem sx_peek {e : Expr} {i : Nat} (h : PE X e (tVar i)) : PE X e (tS k W (peek i)) := by
  refine Mp.PE.imp h fun σ H Q ⟨g, env, st, S, q⟩ => ?_
  unfold peek at q
  split at q
  · rename_i t e
    obtain ⟨v, e1, r⟩ := S.fr i t e
    exact ⟨v, e1, q v H g Ext.refl S (.inl r)⟩
  · rename_i t e
    obtain ⟨a, e1, r⟩ := S.own i t e
    exact ⟨.ref a, e1, q (.ref a) H g Ext.refl S (.inr ⟨i, e, e1⟩)⟩
  · exact q.elim

/-! ### operators -/
/-- a result: frozen, or new and nobody's -/
def pV (k : Gk) (g : Gh) (H : Hp) (z : T) (u : V) (H' : Hp) : Prop := ∃ g', Grow g H g' H' ∧ Rep k g' z u
def pF (k : Gk) (g : Gh) (H : Hp) (z : T) (u : V) (H' : Hp) : Prop := match z with
  | .lst xs => ∃ a vs, u = .ref a ∧ H a = none ∧ H' = upd H a (.lst vs) ∧ RepL k g xs vs
  | .dct xs => ∃ a vs, u = .ref a ∧ H a = none ∧ H' = upd H a (.dK vs) ∧ RepE k g xs vs
  | z => ∃ g', Grow g H g' H' ∧ Rep k g' z u
abbrev Post := Gh → Hp → T → V → Hp → Prop
def PostOk (k : Gk) (p : Post) (R : Rdg T V) : Prop := ∀ (g : Gh) (env : En) (st : Store) (σ : L2.St) (H0 H : Hp) (z : T) (u : V) (H' : Hp), SR k g env st σ H → Dom H0 H → p g H z u H' → ∃ g', Ext g env st σ H g' env st σ H' ∧ SR k g' env st σ H' ∧ R H0 env st σ g' H' z u
theorem post_V : PostOk k (pV k) (rV k) := fun g env st σ H0 H z u H' S d ⟨g', gr, r⟩ => ⟨g', Ext.grow S gr, S.grow gr, r⟩
theorem post_F : PostOk k (pF k) (rF k) := fun g env st σ H0 H z u H' S d p => by
  cases z with
  | lst xs =>
    obtain ⟨a, vs, rfl, h, rfl, r⟩ := p
    obtain ⟨S1, x1, n1⟩ := S.skip (o := .lst vs) h
    exact ⟨g, x1, S1, a, vs, rfl, d.none h, upd_same, r, n1⟩
  | dct xs =>
    obtain ⟨a, vs, rfl, h, rfl, r⟩ := p
    obtain ⟨S1, x1, n1⟩ := S.skip (o := .dK vs) h
    exact ⟨g, x1, S1, a, vs, rfl, d.none h, upd_same, r, n1⟩
  | _ => obtain ⟨g', gr, r⟩ := p; exact ⟨g', Ext.grow S gr, S.grow gr, r⟩
theorem dom_of {g0 g : Gh} {env0 env : En} {st0 st : Store} {σ0 σ : L2.St} {H0 H : Hp} (x : Ext g0 env0 st0 σ0 H0 g env st σ H) : Dom H0 H := x.there
/-- what an operator of the model does where op tells -/
def OpOk (k : Gk) (p : Post) (r : R2) (op : Store → T → T → Option T) : Prop := ∀ st x y z, op st x y = some z → ∀ (g : Gh) (env : En) (σ : L2.St) (H : Hp) (v w : V) (Q : VK), SR k g env st σ H → RepB k g H x v → RepB k g H y w →
  (∀ u H', p g H z u H' → Q u H') → r v w H Q
def OpOk1 (k : Gk) (p : Post) (r : V → Hp → VK → Prop) (op : Store → T → Option T) : Prop := ∀ st x z, op st x = some z → ∀ (g : Gh) (env : En) (σ : L2.St) (H : Hp) (v : V) (Q : VK), SR k g env st σ H → RepB k g H x v →
  (∀ u H', p g H z u H' → Q u H') → r v H Q
theorem ev2_S (op : T → T → Option T) (fa fb : EvT) : ev2 op fa fb = ev2S (fun _ => op) fa fb := rfl
theorem ev1_S (op : T → Option T) (fa : EvT) : ev1 op fa = ev1S (fun _ => op) fa := rfl
theorem rd_ev2S {p : Post} {R : Rdg T V} (m : Mono0 R) (hp : PostOk k p R) {fa fb : EvT} {op : Store → T → T → Option T} {r : R2} (ho : OpOk k p r op) {σ : L2.St} {H : Hp} {Q : VK} (q : tR k W R (ev2S op fa fb) σ H Q) : tOp r (tS k W fa) (tB k W fb) σ H Q := by
  obtain ⟨g, env, st, S, q⟩ := q
  refine ⟨g, env, st, S, (q.bind (R1 := rS k) m).imp fun v H1 ⟨x, st1, g1, x1, S1, r1, q1⟩ => ⟨g1, env, st1, S1, (q1.bind (R1 := rB k) m).imp fun w H2 ⟨y, st2, g2, x2, S2, r2, q2⟩ => ?_⟩⟩
  obtain ⟨z, eo, q3⟩ := After.opt (o := op st2 x y) q2
  refine ho st2 x y z eo g2 env σ H2 v w Q S2 (rS.b S2 (rS.mono (st1 := st2) (H0' := H) (H1 := H2) x2.le r1)) r2 fun u H' pz => ?_
  obtain ⟨g', x3, S3, r3⟩ := hp g2 env st2 σ H2 H2 z u H' S2 (fun _ h => h) pz
  exact q3 u H' g' x3 S3 r3
theorem sx_ev2S {p : Post} {R : Rdg T V} (m : Mono0 R) (hp : PostOk k p R) {fa fb : EvT} {op : Store → T → T → Option T} {r : R2} {e : Expr} (ho : OpOk k p r op) (h : PE X e (tOp r (tS k W fa) (tB k W fb))) : PE X e (tR k W R (ev2S op fa fb)) :=
  Mp.PE.imp h fun σ H Q q => rd_ev2S m hp ho q
theorem sx_ev1S {p : Post} {R : Rdg T V} (m : Mono0 R) (hp : PostOk k p R) {fa : EvT} {op : Store → T → Option T} {r : V → Hp → VK → Prop} {e : Expr} (ho : OpOk1 k p r op) (h : PE X e (fun σ H Q => tB k W fa σ H fun x H1 => r x H1 Q)) : PE X e (tR k W R (ev1S op fa)) := by
  refine Mp.PE.imp h fun σ H Q ⟨g, env, st, S, q⟩ => ⟨g, env, st, S, (q.bind (R1 := rB k) m).imp fun v H1 ⟨x, st1, g1, x1, S1, r1, q1⟩ => ?_⟩
  obtain ⟨z, eo, q3⟩ := After.opt (o := op st1 x) q1
  refine ho st1 x z eo g1 env σ H1 v Q S1 r1 fun u H' pz => ?_
  obtain ⟨g', x3, S3, r3⟩ := hp g1 env st1 σ H1 H1 z u H' S1 (fun _ h => h) pz
  exact q3 u H' g' x3 S3 r3

/-! ### several values -/
theorem sx_nil {e : List Expr} (h : PA X e tNil) : PA X e (tL k W []) :=
  Mp.PA.imp h fun σ H Q ⟨g, env, st, S, q⟩ => q [] H g Ext.refl S (RepL.nil.mpr rfl)
theorem rd_cons {f : EvT} {fs : List EvT} {σ : L2.St} {H : Hp} {Q : List V → Hp → Prop} (q : tL k W (f :: fs) σ H Q) : tCons (tV k W f) (tL k W fs) σ H Q := by
  obtain ⟨g, env, st, S, q⟩ := q
  refine ⟨g, env, st, S, (q.bind (R1 := rV k) m0L).imp fun v H1 ⟨x, st1, g1, x1, S1, r1, q1⟩ => ⟨g1, env, st1, S1, (q1.bind (R1 := rL k) m0L).imp fun w H2 ⟨y, st2, g2, x2, S2, r2, q2⟩ => ?_⟩⟩
  exact q2.pure S2 (RepL.cons.mpr ⟨v, w, rfl, Rep.mono x2.le _ _ r1, r2⟩)
theorem sx_cons {e : List Expr} {f : EvT} {fs : List EvT} (h : PA X e (tCons (tV k W f) (tL k W fs))) : PA X e (tL k W (f :: fs)) := Mp.PA.imp h fun σ H Q q => rd_cons q
/-- a display, a call of a built-in upon values -/
def OpOkL (k : Gk) (p : Post) (r : List V → Hp → VK → Prop) (op : List T → Option T) : Prop := ∀ xs z, op xs = some z → ∀ (g : Gh) (env : En) (st : Store) (σ : L2.St) (H : Hp) (vs : List V) (Q : VK), SR k g env st σ H → RepL k g xs vs →
  (∀ u H', p g H z u H' → Q u H') → r vs H Q
theorem sx_evN {p : Post} {R : Rdg T V} (m : Mono0 R) (hp : PostOk k p R) {fs : List EvT} {op : List T → Option T} {r : List V → Hp → VK → Prop} {e : Expr} (ho : OpOkL k p r op) (h : PE X e (fun σ H Q => tL k W fs σ H fun xs H1 => r xs H1 Q)) : PE X e (tR k W R (evN op fs)) := by
  refine Mp.PE.imp h fun σ H Q ⟨g, env, st, S, q⟩ => ⟨g, env, st, S, (q.bind (R1 := rL k) m).imp fun v H1 ⟨x, st1, g1, x1, S1, r1, q1⟩ => ?_⟩
  obtain ⟨z, eo, q3⟩ := q1.opt
  refine ho x z eo g1 env st1 σ H1 v Q S1 r1 fun u H' pz => ?_
  obtain ⟨g', x3, S3, r3⟩ := hp g1 env st1 σ H1 H1 z u H' S1 (fun _ h => h) pz
  exact q3 u H' g' x3 S3 r3

/-! ### tests -/
theorem rep_bl' {g : Gh} {b : Bool} : Rep k g (.bl b) (.bl b) := by unfold Rep; rfl
theorem bl_of {g : Gh} {b : Bool} {v : V} (h : Rep k g (.bl b) v) : v = .bl b := by unfold Rep at h; exact h
/-- a value as a test -/
theorem After.asB {R : Rdg Bool Bool} {Q : Bool → Hp → Prop} (S : SR k g env st σ H) {x : T} {v : V} (r : Rep k g x v) (q : After k W R σ env g st H Q (Mp.asB x env st)) : ∃ b, x = .bl b ∧ v = .bl b ∧ After k W R σ env g st H Q (.ok b st) := by
  cases x with
  | bl b => exact ⟨b, rfl, bl_of r, q⟩
  | _ => exact q.elim
theorem sx_testV {e : Expr} {f : EvT} (h : PT X e (tTest (tV k W f))) : PT X e (tT k W (testV f)) := by
  refine Mp.PT.imp h fun σ H Q ⟨g, env, st, S, q⟩ => ⟨g, env, st, S, (q.bind (R1 := rV k) m0T).imp fun v H1 ⟨x, st1, g1, x1, S1, r1, q1⟩ => ?_⟩
  obtain ⟨b, rfl, rfl, q2⟩ := After.asB S1 r1 q1
  exact ⟨b, rfl, q2 b H1 g1 Ext.refl S1 rfl⟩
theorem After.pick {f h : Ev α} {b : Bool} (S : SR k g env st σ H) (q : After k W R σ env g st H Q (Mp.pick f h b env st)) : if b = true then tR k W R f σ H Q else tR k W R h σ H Q := by
  cases b with
  | true => rw [if_pos rfl]; exact ⟨g, env, st, S, q⟩
  | false => rw [if_neg (by decide)]; exact ⟨g, env, st, S, q⟩
theorem tR_pure {a : α} {v : β} (hr : ∀ (H0 : Hp) (env : En) (st : Store) (σ : L2.St) (g : Gh) (H : Hp), R H0 env st σ g H a v) {σ : L2.St} {H : Hp} {Q : β → Hp → Prop} (q : tR k W R (Ev.pure a) σ H Q) : Q v H := by
  obtain ⟨g, env, st, S, q⟩ := q
  exact q.pure S (hr _ _ _ _ _ _)
theorem sx_andB {e : Expr} {f h' : EvB} (h : PW X e (tAnd (tT k W f) (tT k W h'))) : PW X e (tT k W (andB f h')) := by
  refine Mp.PW.imp h fun σ H Q ⟨g, env, st, S, q⟩ => ⟨g, env, st, S, (q.bind (R1 := rT) m0T).imp fun v H1 ⟨x, st1, g1, x1, S1, r1, q1⟩ => ?_⟩
  obtain rfl : x = v := r1
  have q2 := After.pick S1 q1
  cases x with
  | true => simpa using q2
  | false => rw [if_neg (by decide)] at q2 ⊢; exact tR_pure (v := false) (fun _ _ _ _ _ _ => rfl) q2
theorem sx_orB {e : Expr} {f h' : EvB} (h : PW X e (tOr (tT k W f) (tT k W h'))) : PW X e (tT k W (orB f h')) := by
  refine Mp.PW.imp h fun σ H Q ⟨g, env, st, S, q⟩ => ⟨g, env, st, S, (q.bind (R1 := rT) m0T).imp fun v H1 ⟨x, st1, g1, x1, S1, r1, q1⟩ => ?_⟩
  obtain rfl : x = v := r1
  have q2 := After.pick S1 q1
  cases x with
  | false => simpa using q2
  | true => rw [if_pos rfl] at q2 ⊢; exact tR_pure (v := true) (fun _ _ _ _ _ _ => rfl) q2
theorem sx_notT {e : Expr} {f : EvB} (h : PT X e (L2.tNot (tT k W f))) : PT X e (tT k W (Mp.notT f)) := by
  refine Mp.PT.imp h fun σ H Q ⟨g, env, st, S, q⟩ => ⟨g, env, st, S, (q.bind (R1 := rT) m0T).imp fun v H1 ⟨x, st1, g1, x1, S1, r1, q1⟩ => ?_⟩
  obtain rfl : x = v := r1
  exact q1.pure S1 rfl
/-! ### and, or, not as values; a if t else b -/
/-- a value as a test, read as a value -/
theorem tV_of_test {f : EvT} {h : Bool → Ev α} (m : Mono0 R) (q : tR k W R ((testV f).bind h) σ H Q) :
    tV k W f σ H (fun v H1 => ∃ b g1 env st1, v = .bl b ∧ SR k g1 env st1 σ H1 ∧ After k W R σ env g1 st1 H1 Q (h b env st1)) := by
  obtain ⟨g, env, st, S, q⟩ := q
  have e : (testV f).bind h env st = f.bind (fun x => (Mp.asB x).bind h) env st := by
    unfold testV Ev.bind
    cases f env st <;> rfl
  rw [e] at q
  refine ⟨g, env, st, S, (q.bind (R1 := rV k) m).imp fun v H1 ⟨x, st1, g1, x1, S1, r1, q1⟩ => ?_⟩
  cases x with
  | bl b => exact ⟨b, g1, env, st1, bl_of r1, S1, q1⟩
  | _ => exact q1.elim
theorem sx_andV {e : Expr} {f h' : EvT} (h : PE X e (tAndV (tV k W f) (tV k W h'))) : PE X e (tV k W (andV f h')) := by
  refine Mp.PE.imp h fun σ H Q q => ?_
  obtain ⟨g, env, st, S, q⟩ := tV_of_test m0V q
  refine ⟨g, env, st, S, q.imp fun v H1 ⟨b, g1, env1, st1, e, S1, q1⟩ => ⟨b, e, ?_⟩⟩
  have q2 := After.pick S1 q1
  cases b with
  | true => simpa using q2
  | false => rw [if_neg (by decide)] at q2 ⊢; exact tR_pure (v := V.bl false) (fun _ _ _ _ _ _ => rep_bl') q2
theorem sx_orV {e : Expr} {f h' : EvT} (h : PE X e (tOrV (tV k W f) (tV k W h'))) : PE X e (tV k W (orV f h')) := by
  refine Mp.PE.imp h fun σ H Q q => ?_
  obtain ⟨g, env, st, S, q⟩ := tV_of_test m0V q
  refine ⟨g, env, st, S, q.imp fun v H1 ⟨b, g1, env1, st1, e, S1, q1⟩ => ⟨b, e, ?_⟩⟩
  have q2 := After.pick S1 q1
  cases b with
  | false => simpa using q2
  | true => rw [if_pos rfl] at q2 ⊢; exact tR_pure (v := V.bl true) (fun _ _ _ _ _ _ => rep_bl') q2
theorem sx_notV {e : Expr} {f : EvT} (h : PE X e (tNotV (tV k W f))) : PE X e (tV k W (notV f)) := by
  refine Mp.PE.imp h fun σ H Q q => ?_
  obtain ⟨g, env, st, S, q⟩ := tV_of_test m0V q
  exact ⟨g, env, st, S, q.imp fun v H1 ⟨b, g1, env1, st1, e, S1, q1⟩ => ⟨b, e, q1.pure S1 rep_bl'⟩⟩
theorem sx_ite {e : Expr} {c : EvB} {f h' : EvT} (h : PE X e (tIf (tT k W c) (tV k W f) (tV k W h'))) : PE X e (tV k W (iteE c f h')) := by
  refine Mp.PE.imp h fun σ H Q ⟨g, env, st, S, q⟩ => ⟨g, env, st, S, (q.bind (R1 := rT) m0V).imp fun v H1 ⟨x, st1, g1, x1, S1, r1, q1⟩ => ?_⟩
  obtain rfl : x = v := r1
  exact After.pick S1 q1
/-- a < b < c -/
theorem rd_chain {fa fb fc : EvT} {op op' : T → T → Option T} {r r' : R2} (ho : OpOk k (pV k) r fun _ => op) (ho' : OpOk k (pV k) r' fun _ => op') {σ : L2.St} {H : Hp} {Q : VK} (q : tV k W (chain op op' fa fb fc) σ H Q) : tChain r r' (tV k W fa) (tV k W fb) (tV k W fc) σ H Q := by
  obtain ⟨g, env, st, S, q⟩ := q
  refine ⟨g, env, st, S, (q.bind (R1 := rV k) m0V).imp fun v H1 ⟨x, st1, g1, x1, S1, r1, q1⟩ => ⟨g1, env, st1, S1, (q1.bind (R1 := rV k) m0V).imp fun w H2 ⟨y, st2, g2, x2, S2, r2, q2⟩ => ?_⟩⟩
  cases eo : op x y with
  | none => rw [eo] at q2; exact q2.elim
  | some z =>
    rw [eo] at q2
    refine ho st2 x y z eo g2 env σ H2 v w _ S2 (.inl (Rep.mono x2.le _ _ r1)) (.inl r2) fun u H3 pz => ?_
    obtain ⟨g3, x3, S3, r3⟩ := post_V g2 env st2 σ H2 H2 z u H3 S2 (fun _ h => h) pz
    have q3 : After k W (rV k) σ env g2 st2 H2 Q (((Mp.asB z).bind (Mp.pick (fc.bind fun w => Ev.opt (op' y w)) (Ev.pure (.bl false)))) env st2) := q2
    cases z with
    | bl b =>
      refine ⟨b, bl_of r3, ?_⟩
      have q4 : After k W (rV k) σ env g2 st2 H2 Q (Mp.pick (fc.bind fun w => Ev.opt (op' y w)) (Ev.pure (.bl false)) b env st2) := q3
      have q5 := After.shift (R := rV k) m0V x3 q4
      cases b with
      | false => rw [if_neg (by decide)]; exact q5.pure S3 rep_bl'
      | true =>
        rw [if_pos rfl]
        refine ⟨g3, env, st2, S3, (After.bind (R1 := rV k) m0V q5).imp fun w' H4 ⟨t, st4, g4, x4, S4, r4, q6⟩ => ?_⟩
        obtain ⟨z', eo', q7⟩ := q6.opt
        refine ho' st4 y t z' eo' g4 env σ H4 w w' Q S4 (.inl (Rep.mono (x3.le.trans x4.le) _ _ r2)) (.inl r4) fun u' H' pz' => ?_
        obtain ⟨g5, x5, S5, r5⟩ := post_V g4 env st4 σ H4 H4 z' u' H' S4 (fun _ h => h) pz'
        exact q7 u' H' g5 x5 S5 r5
    | _ => exact q3.elim
theorem sx_chain {fa fb fc : EvT} {op op' : T → T → Option T} {r r' : R2} {e : Expr} (ho : OpOk k (pV k) r fun _ => op) (ho' : OpOk k (pV k) r' fun _ => op') (h : PE X e (tChain r r' (tV k W fa) (tV k W fb) (tV k W fc))) : PE X e (tV k W (chain op op' fa fb fc)) :=
  Mp.PE.imp h fun σ H Q q => rd_chain ho ho' q
end
end Mp


set_option Elab.async false
set_option linter.all false
set_option maxRecDepth 100000
/-! Fct: what is known of exceptions and of defs that call what they get. -/
namespace Mp
open PySem PySem.Spec PyProof.Rows L2
open LamX
def okN (x : Str) : Bool := !(x == ("__debug__" : Str)) && !(x == ("__classdict__" : Str))
/-- the promise of an __init__: from an exception without a dict to one with these fields -/
def spI (K : PySem.W.Frag) (n : Nat) (names : List Str) (mk : List V → List (Str × V)) : Sp := fun vs H Q _ => ∃ a C ys, vs = .ref a :: ys ∧ ys.length = n ∧ ExG K C ∧ (∀ x ∈ names, PySem.W.findIn K (.ref C) x = some none) ∧ H a = some (exo a C none) ∧
  ∀ dx, H dx = none → dx ≠ a → Q .non (upd (upd H dx (exd dx (mk ys))) a (exo a C (some dx)))
/-- what is known of the exceptions' classes: xn tells which -/
structure ExcOk (k : Gk) (mg : Str → Option Value) : Prop where
  xf : ∀ c ns, k.xn c = some ns → XfC k.K (k.cl c) ∧ ∀ f ∈ ns, PySem.W.findIn k.K (.ref (k.cl c)) f = some none
  at_ : ∀ c ns, k.xn c = some ns → mg c = some (.ref (k.cl c))
  sub : ∀ c d ns ms, k.xn c = some ns → k.xn d = some ms → PySem.W.exmOne k.K (.ref (k.cl c)) (.ref (k.cl d)) = some (c == d)
/-- the facts of such a def -/
structure TrD (k : Gk) (mg : Str → Option Value) (g : Addr) (fd : FuncData) (x act n w : Str) (hs : List HdD) (body : List Stmt) (sg : Scope) : Prop where
  F : ∃ qual params, FunD k.K x qual params body sg [] [] g fd
  S : FnScope [act, n] [act] sg
  loc : sg.names.lookup n = some .local
  ok : okN act = true ∧ okN n = true
  b : triedOf act n body = some (w, hs)
  cs : ∀ h ∈ hs, (h.cs.length ≤ 1000 ∧ h.fs.length ≤ 1000) ∧ ∀ c ∈ h.cs, (∃ ns, k.xn c = some ns) ∧ sg.names.lookup c = some .globalImplicit ∧ (c == ("__debug__" : Str)) = false
  bnd : Binds k.K fd [act] []
/-- such a def's text -/
def isOf (act due : Str) : List Stmt → Option (Str × Str)
  | [.Return (some (.Call (.Name l _) [.Call (.Name t _) [.Name a _] [] _, .Name d _] [] _)) _] => if a == act && d == due then some (l, t) else none
  | _ => none
/-- the facts of such a def -/
structure IsD (k : Gk) (mg : Str → Option Value) (g : Addr) (fd : FuncData) (y act due l t : Str) (body : List Stmt) (sg : Scope) : Prop where
  F : ∃ qual params, FunD k.K y qual params body sg [] [] g fd
  S : FnScope [act, due] [act, due] sg
  ok : okN act = true ∧ okN due = true
  b : isOf act due body = some (l, t)
  gl : sg.names.lookup l = some .globalImplicit ∧ (l == ("__debug__" : Str)) = false
  gt : sg.names.lookup t = some .globalImplicit ∧ (t == ("__debug__" : Str)) = false
  bnd : Binds k.K fd [act, due] []
/-- what the caller's text must keep -/
structure LamAt (k : Gk) (X : Cx) (q : Str) : Prop where
  e : q = X.env.qual ++ "<lambda>"
  t : ∃ c, X.env.code = .ref c ∧ TabB X.base X.mg c (k.tb q)
/-- a class of exceptions may be raised -/
structure RaiseOk (k : Gk) (P : Program) (w : World) (mg : Str → Option Value) (base : Heap) (c : Str) (ns : List Str) : Prop where
  ex : ExG k.K (k.cl c)
  at_ : mg c = some (.ref (k.cl c))
  ok : ∃ fI fd ps names mk, PySem.W.findIn k.K (.ref (k.cl c)) "__init__" = some (some (.ref fI)) ∧ PySem.W.typeIn k.K (.ref fI) = some (.type "function") ∧ (∀ x ∈ names, PySem.W.findIn k.K (.ref (k.cl c)) x = some none) ∧
    FnOk P w k.K mg base (L2.CX P w) 2 fI fd ps (spI k.K (ns.length - 1) names mk) ∧ Binds k.K fd ps [] ∧ ns.length ≤ 1000 ∧ ∀ ys : List V, ys.length + 1 = ns.length → (mk ys).map (·.1) = ns ∧ (mk ys).map (·.2) = ys.reverse ++ [V.str c]
end Mp


set_option Elab.async false
set_option linter.all false
set_option maxRecDepth 100000
set_option maxHeartbeats 1000000
/-! Ops: the operators. -/
namespace Mp
open PySem PySem.Spec PyProof.Rows L2
theorem sizeB {n : Nat} (h : n ≤ 100000) : n ≤ sizeLine := by rw [sizeLine_eq]; omega
section
variable {k : Gk} {g : Gh} {v : V}
theorem Rep.non (h : Rep k g .non v) : v = .non := by unfold Rep at h; exact h
theorem Rep.bl {b : Bool} (h : Rep k g (.bl b) v) : v = .bl b := by unfold Rep at h; exact h
theorem Rep.int {i : Int} (h : Rep k g (.int i) v) : v = .int i := by unfold Rep at h; exact h
theorem Rep.str {i : Str} (h : Rep k g (.str i) v) : v = .str i := by unfold Rep at h; exact h
theorem Rep.tup {xs : List T} (h : Rep k g (.tup xs) v) : ∃ a vs, v = .ref a ∧ SqT k.K g.F a vs ∧ RepL k g xs vs := by unfold Rep at h; exact h
theorem Rep.lst {xs : List T} (h : Rep k g (.lst xs) v) : ∃ a vs, v = .ref a ∧ g.F a = some (.lst vs) ∧ RepL k g xs vs := by unfold Rep at h; exact h
theorem Rep.dct {xs : List T} (h : Rep k g (.dct xs) v) : ∃ a vs, v = .ref a ∧ g.F a = some (.dK vs) ∧ RepE k g xs vs := by unfold Rep at h; exact h
theorem Rep.obj {n : Nat} (h : Rep k g (.obj n) v) : v = .ref (g.α n) ∧ n < g.B := by unfold Rep at h; exact h
theorem rep_non : Rep k g .non .non := by unfold Rep; rfl
theorem rep_bl {b : Bool} : Rep k g (.bl b) (.bl b) := by unfold Rep; rfl
theorem rep_int {i : Int} : Rep k g (.int i) (.int i) := by unfold Rep; rfl
theorem rep_str {i : Str} : Rep k g (.str i) (.str i) := by unfold Rep; rfl
theorem rep_tup {xs : List T} {a : Addr} {vs : List V} (h : SqT k.K g.F a vs) (r : RepL k g xs vs) : Rep k g (.tup xs) (.ref a) := by unfold Rep; exact ⟨a, vs, rfl, h, r⟩
theorem rep_lst {xs : List T} {a : Addr} {vs : List V} (h : g.F a = some (.lst vs)) (r : RepL k g xs vs) : Rep k g (.lst xs) (.ref a) := by unfold Rep; exact ⟨a, vs, rfl, h, r⟩
theorem rep_dct {xs : List T} {a : Addr} {vs : List (Key × V)} (h : g.F a = some (.dK vs)) (r : RepE k g xs vs) : Rep k g (.dct xs) (.ref a) := by unfold Rep; exact ⟨a, vs, rfl, h, r⟩
section
variable {H : Hp}
theorem RepB.non (h : RepB k g H .non v) : v = .non := h.elim Rep.non fun ⟨_, _, o⟩ => o.elim
theorem RepB.bl {b : Bool} (h : RepB k g H (.bl b) v) : v = .bl b := h.elim Rep.bl fun ⟨_, _, o⟩ => o.elim
theorem RepB.int {i : Int} (h : RepB k g H (.int i) v) : v = .int i := h.elim Rep.int fun ⟨_, _, o⟩ => o.elim
theorem RepB.str {i : Str} (h : RepB k g H (.str i) v) : v = .str i := h.elim Rep.str fun ⟨_, _, o⟩ => o.elim
theorem RepB.tup {xs : List T} (h : RepB k g H (.tup xs) v) : ∃ a vs, v = .ref a ∧ SqT k.K g.F a vs ∧ RepL k g xs vs := h.elim Rep.tup fun ⟨_, _, o⟩ => o.elim
theorem RepB.obj {n : Nat} (h : RepB k g H (.obj n) v) : v = .ref (g.α n) ∧ n < g.B := h.elim Rep.obj fun ⟨_, _, o⟩ => o.elim
theorem RepB.lst {xs : List T} (hs : FSub g.F H) (h : RepB k g H (.lst xs) v) : ∃ a vs, v = .ref a ∧ H a = some (.lst vs) ∧ RepL k g xs vs := h.elim (fun h => let ⟨a, vs, e, f, r⟩ := h.lst; ⟨a, vs, e, hs _ _ f, r⟩) fun ⟨a, e, vs, o, r⟩ => ⟨a, vs, e, o, r⟩
theorem RepB.dct {xs : List T} (hs : FSub g.F H) (h : RepB k g H (.dct xs) v) : ∃ a vs, v = .ref a ∧ H a = some (.dK vs) ∧ RepE k g xs vs := h.elim (fun h => let ⟨a, vs, e, f, r⟩ := h.dct; ⟨a, vs, e, hs _ _ f, r⟩) fun ⟨a, e, vs, o, r⟩ => ⟨a, vs, e, o, r⟩
end
theorem put_at (g : Gh) (p : Addr) (o : HO) : (g.put p o).F p = some o := upd_same
end
section
variable {k : Gk} {g : Gh} {env : En} {st : Store} {σ : L2.St} {H : Hp}
/-- a new list, tuple -/
theorem new_lst (S : SR k g env st σ H) {p : Addr} (hp : H p = none) {xs : List T} {vs : List V} (r : RepL k g xs vs) : Grow g H (g.put p (.lst vs)) (upd H p (.lst vs)) ∧ Rep k (g.put p (.lst vs)) (.lst xs) (.ref p) :=
  have x := Grow.one (o := .lst vs) S hp
  ⟨x, rep_lst (put_at _ _ _) (RepL.mono x.le _ _ r)⟩
theorem new_tup (S : SR k g env st σ H) {p : Addr} (hp : H p = none) {xs : List T} {vs : List V} (r : RepL k g xs vs) : Grow g H (g.put p (.tup vs)) (upd H p (.tup vs)) ∧ Rep k (g.put p (.tup vs)) (.tup xs) (.ref p) :=
  have x := Grow.one (o := .tup vs) S hp
  ⟨x, rep_tup (.inl (.inl (put_at _ _ _))) (RepL.mono x.le _ _ r)⟩
theorem SR.tup (S : SR k g env st σ H) {a : Addr} {vs : List V} (h : SqT k.K g.F a vs) : SqT k.K H a vs := Mp.SqT.fmono S.sub h
theorem SR.lst (S : SR k g env st σ H) {a : Addr} {vs : List V} (h : g.F a = some (.lst vs)) : H a = some (.lst vs) := S.sub _ _ h
end

/-! ### + - * // % ** -/
section
variable {k : Gk} {X : Cx}
def rAddM (k : Gk) : R2 := fun x y H Q => rI0 (fun i j => .int (i + j)) x y H Q ∨ (∃ i j, x = .str i ∧ y = .str j ∧ i.length + j.length ≤ sizeLine ∧ Q (.str (i ++ j)) H) ∨ rCatA k.K x y H Q ∨ rCat x y H Q
theorem op_addM (hK : X.K = k.K) : OpR X (binaryOp .Add) (rAddM k) := by
  have h : OpR X (binaryOp .Add) (rCatA k.K) := by rw [← hK]; exact op_catA
  exact (op_add).or (op_add_str.or (h.or op_cat))
theorem ok_add : OpOk k (pF k) (rAddM k) (fun _ => opAdd) := by
  intro st x y z e g env σ H v w Q S rx ry q
  cases x <;> cases y <;> simp only [opAdd] at e <;> try (cases e; done)
  · cases e
    exact .inl ⟨_, _, rx.int, ry.int, q _ H ⟨g, Grow.refl S, rep_int⟩⟩
  · split at e
    · rename_i hz
      cases e
      exact .inr (.inl ⟨_, _, rx.str, ry.str, sizeB hz, q _ H ⟨g, Grow.refl S, rep_str⟩⟩)
    · cases e
  · split at e
    · rename_i xs ys hz
      cases e
      obtain ⟨a, vs, rfl, h1, r1⟩ := rx.tup
      obtain ⟨b, ws, rfl, h2, r2⟩ := ry.tup
      have l1 := r1.length
      have l2 := r2.length
      refine .inr (.inr (.inl ⟨a, b, vs, ws, rfl, rfl, S.tup h1, S.tup h2, sizeB (by omega), fun h0 => ?_, fun _ h0 => ?_, fun _ _ p hp => ?_⟩))
      · have : xs = [] := List.eq_nil_of_length_eq_zero (by rw [l1, h0]; rfl)
        subst this
        exact q _ H ⟨g, Grow.refl S, (rep_tup h2 r2)⟩
      · have : ys = [] := List.eq_nil_of_length_eq_zero (by rw [l2, h0]; rfl)
        subst this
        rw [List.append_nil] at q
        exact q _ H ⟨g, Grow.refl S, (rep_tup h1 r1)⟩
      · obtain ⟨x, r⟩ := new_tup S hp (r1.append r2)
        exact q _ _ ⟨_, x, r⟩
    · cases e
  · split at e
    · rename_i xs ys hz
      cases e
      obtain ⟨a, vs, rfl, h1, r1⟩ := rx.lst S.sub
      obtain ⟨b, ws, rfl, h2, r2⟩ := ry.lst S.sub
      have l1 := r1.length
      have l2 := r2.length
      refine .inr (.inr (.inr ⟨a, b, vs, ws, rfl, rfl, h1, h2, sizeB (by omega), fun p hp => ?_⟩))
      exact q _ _ ⟨p, _, rfl, hp, rfl, r1.append r2⟩
    · cases e
theorem ok_sub : OpOk k (pF k) (rI0 fun i j => .int (i - j)) (fun _ => opSub) := by
  intro st x y z e g env σ H v w Q S rx ry q
  cases x <;> cases y <;> simp only [opSub] at e <;> try (cases e; done)
  cases e
  exact ⟨_, _, rx.int, ry.int, q _ H ⟨g, Grow.refl S, rep_int⟩⟩
theorem ok_div : OpOk k (pF k) (rI CDivW fun i j => .int (i / j)) (fun _ => opDiv) := by
  intro st x y z e g env σ H v w Q S rx ry q
  cases x <;> cases y <;> simp only [opDiv] at e <;> try (cases e; done)
  split at e
  · rename_i h
    cases e
    exact ⟨_, _, rx.int, ry.int, wide_div (b := 2000) h.1 (by omega) (by decide) (by decide), q _ H ⟨g, Grow.refl S, rep_int⟩⟩
  · cases e
theorem ok_mod : OpOk k (pF k) (rI (fun _ j => 0 < j) fun i j => .int (i % j)) (fun _ => opMod) := by
  intro st x y z e g env σ H v w Q S rx ry q
  cases x <;> cases y <;> simp only [opMod] at e <;> try (cases e; done)
  split at e
  · rename_i h
    cases e
    exact ⟨_, _, rx.int, ry.int, h, q _ H ⟨g, Grow.refl S, rep_int⟩⟩
  · cases e
theorem ok_pow : OpOk k (pF k) (rI CPow fun i j => .int (i ^ j.toNat)) (fun _ => opPow) := by
  intro st x y z e g env σ H v w Q S rx ry q
  cases x <;> cases y <;> simp only [opPow] at e <;> try (cases e; done)
  split at e
  · rename_i h
    cases e
    exact ⟨_, _, rx.int, ry.int, ⟨h.1, by omega, h.2.2⟩, q _ H ⟨g, Grow.refl S, rep_int⟩⟩
  · cases e
/-- tuple * int: whatever the number -/
def rRepA (K : PySem.W.Frag) : R2 := fun x y H Q => ∃ l k xs, x = .ref l ∧ y = .int k ∧ SqT K H l xs ∧ -(2 ^ 62) < k ∧ k < 2 ^ 62 ∧ xs.length * k.toNat ≤ 100000 ∧
  (xs = [] ∨ k = 1 → Q (.ref l) H) ∧ ∀ p, H p = none → Q (.ref p) (upd H p (.tup (List.replicate k.toNat xs).flatten))
theorem tuple_mul_same (l : Addr) (items : Array Value) (n : Nat) (dd : Option Addr) (sl : Array (Option Value)) (x : Int) (u : Tok) (c0 : (decide (x < -(2 ^ 63)) || decide (x ≥ 2 ^ 63)) = false) (c1 : (items.isEmpty || x == 1) = true) :
    Meets (Builtin.«tuple.__mul__» ⟨[.ref l, .int x u], []⟩) (fun _ R s => s.heap.get? l = some { cls := .type "tuple", dict := dd, data := .seq items n, slots := sl } ∧
      R (.ok (.ret (Value.ref l))) s) :=
  .of_wp fun prog w A R s h => by
    obtain ⟨hp, g, d, tk, os⟩ := s
    obtain ⟨hl, h⟩ := h
    have f1 := AutoSeq1.idx_int
    wp_walk using wpAny_loadPart' hl
    repeat (first
      | (refine wpAny_ite_false (decide_eq_false (by rw [c0]; exact Bool.false_ne_true)) ?_; wp_walk using wpAny_loadPart' hl)
      | (refine wpAny_ite_true (decide_eq_true c1) ?_; wp_walk using wpAny_loadPart' hl))
    exact ⟨_, rfl, h⟩
theorem tuple_mul_none (l : Addr) (items : Array Value) (n : Nat) (dd : Option Addr) (sl : Array (Option Value)) (x : Int) (u : Tok) (c0 : (decide (x < -(2 ^ 63)) || decide (x ≥ 2 ^ 63)) = false) (c1 : (items.isEmpty || x == 1) = false) (c2 : (decide (x ≤ 0) || items.isEmpty) = true) :
    Meets (Builtin.«tuple.__mul__» ⟨[.ref l, .int x u], []⟩) (fun _ R s => s.heap.get? l = some { cls := .type "tuple", dict := dd, data := .seq items n, slots := sl } ∧
      R (.ok (.ret (Value.ref s.heap.objs.size))) { s with heap := s.heap.push { cls := Value.type "tuple", data := Data.seq #[] }, toks := s.toks }) :=
  .of_wp fun prog w A R s h => by
    obtain ⟨hp, g, d, tk, os⟩ := s
    obtain ⟨hl, h⟩ := h
    have f1 := AutoSeq1.idx_int
    wp_walk using wpAny_loadPart' hl
    repeat (first
      | (refine wpAny_ite_false (decide_eq_false (by rw [c0]; exact Bool.false_ne_true)) ?_; wp_walk using wpAny_loadPart' hl)
      | (refine wpAny_ite_false (decide_eq_false (by rw [c1]; exact Bool.false_ne_true)) ?_; wp_walk using wpAny_loadPart' hl)
      | (refine wpAny_ite_true (decide_eq_true c2) ?_; wp_walk using wpAny_loadPart' hl))
    exact ⟨_, rfl, h⟩
theorem vals_nil {vs : List V} {us : List Value} (r : Vals vs us) : us.isEmpty = vs.isEmpty := by cases r <;> rfl
theorem op_repA (hK : X.K = k.K) : OpR X (binaryOp .Mult) (rRepA k.K) := by
  intro pins s σ H x y v u Q I rx ry h
  obtain ⟨l, n, xs, rfl, rfl, hT, hlo, hhi, hz, q0, q⟩ := h
  rw [← hK] at hT
  cases rx
  obtain ⟨t, rfl⟩ := ry
  obtain ⟨its, r, ⟨⟨cls, dd, data, sl⟩, ho, hc, m, hd⟩, hs⟩ := I.tuple hT
  simp only at hc hd
  subst hc hd
  have hle : its.length = xs.length := r.length.symm
  have hemp : its.toArray.isEmpty = xs.isEmpty := by
    have := vals_nil r
    simpa using this
  have c0 : (decide (n < -(2 ^ 63)) || decide (n ≥ 2 ^ 63)) = false := by
    rw [decide_eq_false (by omega), decide_eq_false (by omega)] <;> rfl
  by_cases h1 : xs = [] ∨ n = 1
  · have c1 : (its.toArray.isEmpty || n == 1) = true := by
      rw [hemp]
      rcases h1 with h1 | h1
      · rw [h1]; rfl
      · rw [h1]; simp
    refine wpAny_binaryOp_repeat_ref (T := "tuple") (U := "int") (by decide) ⟨_, ho, rfl⟩ (fun s' => typeIs_int s' n t) noFill_tuple_mul F.fills_int_mul F.slot_int_rmul repeat_tuple F.slot_int_index.lookup
      (call_meets F.slot_int_rmul (typeIs_int s n t) F.entry_int_rmul (F.args_int_rmul_2 _ _) (int_rmul_tuple n t l its.toArray m dd sl)
        ⟨ho, rfl, ⟨_, ho, rfl⟩, call_meets F.slot_tuple_mul ⟨_, ho, rfl⟩ F.entry_tuple_mul (F.args_tuple_mul_2 _ _) (tuple_mul_same l its.toArray m dd sl n t c0 c1) ⟨ho, ?_⟩⟩)
    exact ⟨.ref l, H, I, rfl, q0 h1⟩
  · have hne : xs ≠ [] := fun e => h1 (.inl e)
    have hn1 : n ≠ 1 := fun e => h1 (.inr e)
    have hi : its.toArray.isEmpty = false := by
      rw [hemp]
      cases xs with
      | nil => exact absurd rfl hne
      | cons a b => rfl
    have c1 : (its.toArray.isEmpty || n == 1) = false := by
      rw [hi, Bool.false_or]
      exact beq_eq_false_iff_ne.mpr hn1
    by_cases h2 : n ≤ 0
    · have c2 : (decide (n ≤ 0) || its.toArray.isEmpty) = true := by rw [decide_eq_true h2]; rfl
      have e0 : n.toNat = 0 := by omega
      rw [e0] at q
      refine wpAny_binaryOp_repeat_ref (T := "tuple") (U := "int") (by decide) ⟨_, ho, rfl⟩ (fun s' => typeIs_int s' n t) noFill_tuple_mul F.fills_int_mul F.slot_int_rmul repeat_tuple F.slot_int_index.lookup
        (call_meets F.slot_int_rmul (typeIs_int s n t) F.entry_int_rmul (F.args_int_rmul_2 _ _) (int_rmul_tuple n t l its.toArray m dd sl)
          ⟨ho, rfl, ⟨_, ho, rfl⟩, call_meets F.slot_tuple_mul ⟨_, ho, rfl⟩ F.entry_tuple_mul (F.args_tuple_mul_2 _ _) (tuple_mul_none l its.toArray m dd sl n t c0 c1 c2) ⟨ho, ?_⟩⟩)
      have hf : H s.heap.objs.size = none := I.hok.fresh (Nat.le_refl _)
      refine ⟨.ref s.heap.objs.size, upd H s.heap.objs.size (.tup []), I.laid (t' := s.toks) (fun b u e => Heap.get?_push_of_some _ e) (Nat.le_refl _) ?_, rfl, q _ hf⟩
      exact ⟨Nat.zero_le _, [], .nil, _, Heap.get?_push_size _ rfl, rfl, 0, rfl⟩
    · have hm : ((its.toArray.size : Nat) : Int) * n ≤ 1000000 := by
        have e1 : (((xs.length * n.toNat : Nat)) : Int) = (xs.length : Int) * n := by
          rw [Int.natCast_mul, Int.toNat_of_nonneg (by omega)]
        rw [List.size_toArray, hle, ← e1]
        omega
      have flen : (List.replicate n.toNat its).flatten.length ≤ sizeLine := by
        rw [PyProof.Rows.lm_len_rep_flat, hle, Nat.mul_comm]
        exact sizeB hz
      have c2 : (decide (n ≤ 0) || its.toArray.isEmpty) = false := by
        rw [hi, Bool.or_false]
        exact decide_eq_false h2
      have c4 : Builtin.Tuple.tupleTooMany (((its.toArray.size : Nat) : Int) * n) = false := by
        unfold Builtin.Tuple.tupleTooMany
        rw [sizeLine_eq]
        exact decide_eq_false (by omega)
      refine wpAny_binaryOp_repeat_ref (T := "tuple") (U := "int") (by decide) ⟨_, ho, rfl⟩ (fun s' => typeIs_int s' n t) noFill_tuple_mul F.fills_int_mul F.slot_int_rmul repeat_tuple F.slot_int_index.lookup
        (call_meets F.slot_int_rmul (typeIs_int s n t) F.entry_int_rmul (F.args_int_rmul_2 _ _) (int_rmul_tuple n t l its.toArray m dd sl)
          ⟨ho, rfl, ⟨_, ho, rfl⟩, call_meets F.slot_tuple_mul ⟨_, ho, rfl⟩ F.entry_tuple_mul (F.args_tuple_mul_2 _ _) (tuple_mulW l its.toArray m dd sl n t c0 c1 c2 (by omega) c4 (by rw [size_rep, List.size_toArray]; exact flen)) ⟨ho, ?_⟩⟩)
      rw [size_rep]
      have hf : H s.heap.objs.size = none := I.hok.fresh (Nat.le_refl _)
      have rr : Vals (List.replicate n.toNat xs).flatten (List.replicate n.toNat its).flatten := by
        clear q q0 hlo hhi hz flen hm c0 c1 c2 c4 h1 h2 hn1
        generalize n.toNat = j
        induction j with
        | zero => exact .nil
        | succ j ih =>
          rw [List.replicate_succ, List.replicate_succ, List.flatten_cons, List.flatten_cons]
          exact r.append ih
      refine ⟨.ref s.heap.objs.size, upd H s.heap.objs.size (.tup _), I.laid (t' := s.toks) (fun b u e => Heap.get?_push_of_some _ e) (Nat.le_refl _) ?_, rfl, q _ hf⟩
      exact ⟨by rw [rr.length]; exact flen, _, rr, _, Heap.get?_push_size _ rfl, rfl, 0, rfl⟩
theorem rep_eq (xs : List T) : ∀ n, rep xs n = (List.replicate n xs).flatten
  | 0 => rfl
  | n + 1 => by
    rw [List.replicate_succ, List.flatten_cons, ← rep_eq xs n]
    rfl
theorem RepL.rep {g : Gh} {xs : List T} {vs : List V} (r : RepL k g xs vs) : ∀ n, RepL k g (rep xs n) (List.replicate n vs).flatten
  | 0 => by simp [Mp.rep, RepL.nil]
  | n + 1 => by
    rw [List.replicate_succ, List.flatten_cons]
    exact r.append (RepL.rep r n)
def rMulM (k : Gk) : R2 := fun x y H Q => rI CMulW (fun i j => .int (i * j)) x y H Q ∨ rRepA k.K x y H Q ∨ rRep x y H Q
theorem op_mulM (hK : X.K = k.K) : OpR X (binaryOp .Mult) (rMulM k) := op_mulW.or ((op_repA hK).or op_rep)
theorem bigI_lt {i : Int} (h : bigI i = true) : i.natAbs < 2 ^ 5000 := of_decide_eq_true h
theorem ok_mul : OpOk k (pF k) (rMulM k) (fun _ => opMul) := by
  intro st x y z e g env σ H v w Q S rx ry q
  cases x <;> cases y <;> simp only [opMul] at e <;> try (cases e; done)
  · split at e
    · rename_i h
      cases e
      rw [Bool.and_eq_true] at h
      exact .inl ⟨_, _, rx.int, ry.int, wide_mul (bigI_lt h.1) (bigI_lt h.2) (by decide) (by decide) (by decide), q _ H ⟨g, Grow.refl S, rep_int⟩⟩
    · cases e
  · split at e
    · rename_i xs n h
      cases e
      obtain ⟨a, vs, rfl, h1, r1⟩ := rx.tup
      have l1 := r1.length
      refine .inr (.inl ⟨a, n, vs, rfl, ry.int, S.tup h1, h.2.2, h.2.1, by rw [← l1]; exact h.1, fun h0 => ?_, fun p hp => ?_⟩)
      · have e1 : rep xs n.toNat = xs := by
          rcases h0 with h0 | h0
          · have : xs = [] := List.eq_nil_of_length_eq_zero (by rw [l1, h0]; rfl)
            subst this
            generalize n.toNat = j
            induction j with
            | zero => rfl
            | succ j ih => exact ih
          · rw [h0]
            exact List.append_nil _
        rw [e1] at q
        exact q _ H ⟨g, Grow.refl S, (rep_tup h1 r1)⟩
      · obtain ⟨x, r⟩ := new_tup S hp (r1.rep n.toNat)
        exact q _ _ ⟨_, x, r⟩
    · cases e
  · split at e
    · rename_i xs n h
      cases e
      obtain ⟨a, vs, rfl, h1, r1⟩ := rx.lst S.sub
      have l1 := r1.length
      refine .inr (.inr ⟨a, n, vs, rfl, ry.int, h1, by omega, by omega, sizeB (by rw [← l1]; exact h.1), fun p hp => ?_⟩)
      exact q _ _ ⟨p, _, rfl, hp, rfl, r1.rep n.toNat⟩
    · cases e

/-! ### comparisons -/
theorem ok_cmpI {p : Int → Int → Bool} {op : T → T → Option T} (ho : ∀ x y z, op x y = some z → ∃ i j, x = .int i ∧ y = .int j ∧ z = .bl (p i j)) : OpOk k (pF k) (rI0 fun i j => .bl (p i j)) (fun _ => op) := by
  intro st x y z e g env σ H v w Q S rx ry q
  obtain ⟨i, j, rfl, rfl, rfl⟩ := ho x y z e
  exact ⟨_, _, rx.int, ry.int, q _ H ⟨g, Grow.refl S, rep_bl⟩⟩
theorem ok_lt : OpOk k (pF k) (rI0 fun i j => .bl (decide (i < j))) (fun _ => opLt) := ok_cmpI fun x y z e => by
  cases x <;> cases y <;> simp only [opLt] at e <;> first | (cases e; done) | (cases e; exact ⟨_, _, rfl, rfl, rfl⟩)
theorem ok_le : OpOk k (pF k) (rI0 fun i j => .bl (decide (i ≤ j))) (fun _ => opLe) := ok_cmpI fun x y z e => by
  cases x <;> cases y <;> simp only [opLe] at e <;> first | (cases e; done) | (cases e; exact ⟨_, _, rfl, rfl, rfl⟩)
theorem ok_gt : OpOk k (pF k) (rI0 fun i j => .bl (decide (j < i))) (fun _ => opGt) := ok_cmpI fun x y z e => by
  cases x <;> cases y <;> simp only [opGt] at e <;> first | (cases e; done) | (cases e; exact ⟨_, _, rfl, rfl, rfl⟩)
theorem ok_ge : OpOk k (pF k) (rI0 fun i j => .bl (decide (j ≤ i))) (fun _ => opGe) := ok_cmpI fun x y z e => by
  cases x <;> cases y <;> simp only [opGe] at e <;> first | (cases e; done) | (cases e; exact ⟨_, _, rfl, rfl, rfl⟩)
mutual
def T.pd : T → PyData
  | .non => .none
  | .bl b => .bool b
  | .int i => .int i
  | .str s => .str s
  | .tup xs => .tuple (T.pdL xs)
  | .lst xs => .list (T.pdL xs)
  | .dct _ => .none
  | .set _ => .none
  | .ins _ _ _ => .none
  | .obj _ => .none
def T.pdL : List T → List PyData
  | [] => []
  | x :: xs => T.pd x :: T.pdL xs
end
mutual
theorem dp_of {g : Gh} {H : Hp} (hs : FSub g.F H) : ∀ (n : Nat) (t : T) (v : V), T.okd n t = true → Rep k g t v → Dp k.K H v (T.pd t)
  | 0, t, _, h, _ => by simp [T.okd] at h
  | n + 1, .non, v, _, r => by rw [r.non]; exact Dp.non
  | n + 1, .bl b, v, _, r => by rw [r.bl]; exact Dp.bl b
  | n + 1, .int b, v, _, r => by rw [r.int]; exact Dp.int b
  | n + 1, .str b, v, _, r => by rw [r.str]; exact Dp.str b
  | n + 1, .tup xs, v, h, r => by
    obtain ⟨a, vs, rfl, h1, r⟩ := r.tup
    exact Dp.tup (Mp.SqT.fmono hs h1) (dpL_of hs n xs vs (by simpa [T.okd] using h) r)
  | n + 1, .lst xs, v, h, r => by
    obtain ⟨a, vs, rfl, h1, r⟩ := r.lst
    exact Dp.lst (SqL.of (hs _ _ h1)) (dpL_of hs n xs vs (by simpa [T.okd] using h) r)
  | n + 1, .dct _, v, h, _ => by simp [T.okd] at h
  | n + 1, .set _, v, h, _ => by simp [T.okd] at h
  | n + 1, .ins _ _ _, v, h, _ => by simp [T.okd] at h
  | n + 1, .obj _, v, h, _ => by simp [T.okd] at h
theorem dpL_of {g : Gh} {H : Hp} (hs : FSub g.F H) : ∀ (n : Nat) (ts : List T) (vs : List V), T.okdL n ts = true → RepL k g ts vs → DpAll k.K H vs (T.pdL ts)
  | n, [], vs, _, r => by rw [RepL.nil] at r; subst r; exact DpAll.nil
  | n, t :: ts, vs, h, r => by
    obtain ⟨w, ws, rfl, r1, r2⟩ := RepL.cons.mp r
    have h' : T.okd n t = true ∧ T.okdL n ts = true := by simpa [T.okdL, Bool.and_eq_true] using h
    exact DpAll.cons (dp_of hs n t w h'.1 r1) (dpL_of hs n ts ws h'.2 r2)
end
theorem dp_ofB {g : Gh} {H : Hp} (hs : FSub g.F H) {n : Nat} {t : T} {v : V} (h : T.okd n t = true) (r : RepB k g H t v) : Dp k.K H v (T.pd t) := by
  rcases r with r | ⟨a, rfl, o⟩
  · exact dp_of hs n t v h r
  · cases t with
    | lst xs =>
      obtain ⟨vs, e, r⟩ := o
      cases n with
      | zero => simp [T.okd] at h
      | succ n => exact Dp.lst (SqL.of e) (dpL_of hs n xs vs (by simpa [T.okd] using h) r)
    | dct xs => cases n <;> simp [T.okd] at h
    | _ => exact o.elim
mutual
theorem depth_of : ∀ (n : Nat) (t : T), T.okd n t = true → (T.pd t).depth ≤ n
  | 0, t, h => by simp [T.okd] at h
  | n + 1, .non, _ => by simp [T.pd, PyData.depth]
  | n + 1, .bl b, _ => by simp [T.pd, PyData.depth]
  | n + 1, .int b, _ => by simp [T.pd, PyData.depth]
  | n + 1, .str b, _ => by simp [T.pd, PyData.depth]
  | n + 1, .tup xs, h => by
    have := depthL_of n xs (by simpa [T.okd] using h)
    simp only [T.pd, PyData.depth]
    omega
  | n + 1, .lst xs, h => by
    have := depthL_of n xs (by simpa [T.okd] using h)
    simp only [T.pd, PyData.depth]
    omega
  | n + 1, .dct _, h => by simp [T.okd] at h
  | n + 1, .set _, h => by simp [T.okd] at h
  | n + 1, .ins _ _ _, h => by simp [T.okd] at h
  | n + 1, .obj _, h => by simp [T.okd] at h
theorem depthL_of : ∀ (n : Nat) (ts : List T), T.okdL n ts = true → PyData.depthAll (T.pdL ts) ≤ n
  | n, [], _ => by simp [T.pdL, PyData.depthAll]
  | n, t :: ts, h => by
    have h' : T.okd n t = true ∧ T.okdL n ts = true := by simpa [T.okdL, Bool.and_eq_true] using h
    have h1 := depth_of n t h'.1
    have h2 := depthL_of n ts h'.2
    simp only [T.pdL, PyData.depthAll]
    omega
end
theorem shaped_of {t : T} (h : T.okd 12 t = true) : SeqAt.shaped (T.pd t) = true := by
  have hd := depth_of 12 t h
  unfold SeqAt.shaped
  rw [Bool.and_eq_true]
  refine ⟨?_, decide_eq_true (by omega)⟩
  have : ∀ n, (∀ t, T.okd n t = true → (T.pd t).canLay0 = true) ∧ (∀ ts, T.okdL n ts = true → PyData.canLayAll0 (T.pdL ts) = true) := by
    intro n
    induction n with
    | zero =>
      refine ⟨fun t h => by simp [T.okd] at h, fun ts => ?_⟩
      cases ts with
      | nil => intro _; rfl
      | cons a b => intro h; simp [T.okdL, T.okd] at h
    | succ n ih =>
      have h1 : ∀ t, T.okd (n + 1) t = true → (T.pd t).canLay0 = true := by
        intro t h
        cases t with
        | non => rfl
        | bl _ => rfl
        | int _ => rfl
        | str s => simpa [T.okd, T.pd, PyData.canLay0, PyData.strOk] using h
        | tup xs => simpa [T.pd, PyData.canLay0] using ih.2 xs (by simpa [T.okd] using h)
        | lst xs => simpa [T.pd, PyData.canLay0] using ih.2 xs (by simpa [T.okd] using h)
        | _ => simp [T.okd] at h
      refine ⟨h1, fun ts => ?_⟩
      induction ts with
      | nil => intro _; rfl
      | cons a b ih2 =>
        intro h
        have h' : T.okd (n + 1) a = true ∧ T.okdL (n + 1) b = true := by simpa [T.okdL, Bool.and_eq_true] using h
        simp [T.pdL, PyData.canLayAll0, h1 a h'.1, ih2 h'.2]
  exact (this 12).1 t h
theorem two_of (n : Nat) : (∀ x y, T.okd n x = true → T.okd n y = true → PyData.eqv (T.pd x) (T.pd y) = T.eqv x y) → (∀ xs ys, T.okdL n xs = true → T.okdL n ys = true → PyData.eqvAll (T.pdL xs) (T.pdL ys) = T.eqvL xs ys) := by
    intro h xs
    induction xs with
    | nil =>
      intro ys _ _
      cases ys <;> simp [T.pdL, PyData.eqvAll, T.eqvL]
    | cons x xs ih =>
      intro ys h1 h2
      cases ys with
      | nil => simp [T.pdL, PyData.eqvAll, T.eqvL]
      | cons y ys =>
        have a1 : T.okd n x = true ∧ T.okdL n xs = true := by simpa [T.okdL, Bool.and_eq_true] using h1
        have a2 : T.okd n y = true ∧ T.okdL n ys = true := by simpa [T.okdL, Bool.and_eq_true] using h2
        simp [T.pdL, PyData.eqvAll, T.eqvL, h x y a1.1 a2.1, ih ys a1.2 a2.2]
theorem okd_pd : ∀ (n : Nat), (∀ x y, T.okd n x = true → T.okd n y = true → PyData.eqv (T.pd x) (T.pd y) = T.eqv x y) ∧ (∀ xs ys, T.okdL n xs = true → T.okdL n ys = true → PyData.eqvAll (T.pdL xs) (T.pdL ys) = T.eqvL xs ys) := by
  intro n
  have two : ∀ n, (∀ x y, T.okd n x = true → T.okd n y = true → PyData.eqv (T.pd x) (T.pd y) = T.eqv x y) → (∀ xs ys, T.okdL n xs = true → T.okdL n ys = true → PyData.eqvAll (T.pdL xs) (T.pdL ys) = T.eqvL xs ys) := two_of
  induction n with
  | zero => exact ⟨fun x _ h => by simp [T.okd] at h, two _ fun x _ h => by simp [T.okd] at h⟩
  | succ n ih =>
    have ih2 : ∀ xs ys, T.okdL n xs = true → T.okdL n ys = true → PyData.eqvAll (T.pdL xs) (T.pdL ys) = T.eqvL xs ys := ih.2 
    have one : ∀ x y, T.okd (n + 1) x = true → T.okd (n + 1) y = true → PyData.eqv (T.pd x) (T.pd y) = T.eqv x y := by
      intro x y h1 h2
      cases x <;> cases y <;> first
        | (simp [T.okd] at h1; done)
        | (simp [T.okd] at h2; done)
        | (simp only [T.okd] at h1 h2; simp only [T.pd, PyData.eqv, T.eqv]; exact ih2 _ _ h1 h2)
        | (simp [T.pd, PyData.eqv, T.eqv]; done)
    exact ⟨one, two _ one⟩
theorem eqv_of {x y : T} (h1 : T.okd 12 x = true) (h2 : T.okd 12 y = true) : PyData.eqv (T.pd x) (T.pd y) = T.eqv x y := (okd_pd 12).1 x y h1 h2
theorem eq?_of {x y : T} {b : Bool} (h : T.eq? x y = some b) : T.okd 12 x = true ∧ T.okd 12 y = true ∧ T.eqv x y = b := by
  unfold T.eq? at h
  split at h
  · rename_i hh
    rw [Bool.and_eq_true] at hh
    exact ⟨hh.1, hh.2, Option.some.inj h⟩
  · cases h
theorem ok_eq : OpOk k (pF k) (rEqD k.K) (fun _ => opEq) := by
  intro st x y z e g env σ H v w Q S rx ry q
  have e : (T.eq? x y).map T.bl = some z := e
  cases h : T.eq? x y with
  | none => rw [h] at e; cases e
  | some b =>
    rw [h] at e
    cases e
    obtain ⟨h1, h2, rfl⟩ := eq?_of h
    exact ⟨_, _, dp_ofB S.sub h1 rx, dp_ofB S.sub h2 ry, shaped_of h1, shaped_of h2, by rw [eqv_of h1 h2]; exact q _ H ⟨g, Grow.refl S, rep_bl⟩⟩
theorem ok_ne : OpOk k (pF k) (rNeD k.K) (fun _ => opNe) := by
  intro st x y z e g env σ H v w Q S rx ry q
  have e : (T.eq? x y).map (fun b => T.bl (!b)) = some z := e
  cases h : T.eq? x y with
  | none => rw [h] at e; cases e
  | some b =>
    rw [h] at e
    cases e
    obtain ⟨h1, h2, rfl⟩ := eq?_of h
    exact ⟨_, _, dp_ofB S.sub h1 rx, dp_ofB S.sub h2 ry, shaped_of h1, shaped_of h2, by rw [eqv_of h1 h2]; exact q _ H ⟨g, Grow.refl S, rep_bl⟩⟩
/-! ### in -/
theorem mem_pd {x : T} (hx : T.okd 12 x = true) : ∀ {ys : List T}, T.okdL 12 ys = true → ((T.pdL ys).any fun z => PyData.eqv z (T.pd x)) = memT x ys
  | [], _ => rfl
  | y :: ys, h => by
    have h' : T.okd 12 y = true ∧ T.okdL 12 ys = true := by simpa [T.okdL, Bool.and_eq_true] using h
    simp only [T.pdL, List.any_cons, memT, eqv_of h'.1 hx, mem_pd hx h'.2]
mutual
theorem okd_succ : ∀ (n : Nat) (t : T), T.okd n t = true → T.okd (n + 1) t = true
  | 0, t, h => by simp [T.okd] at h
  | n + 1, .non, _ => rfl
  | n + 1, .bl _, _ => rfl
  | n + 1, .int _, _ => rfl
  | n + 1, .str s, h => by simpa [T.okd] using h
  | n + 1, .tup xs, h => by
    have h' : T.okdL n xs = true := by simpa [T.okd] using h
    show T.okdL (n + 1) xs = true
    exact okdL_succ n xs h'
  | n + 1, .lst xs, h => by
    have h' : T.okdL n xs = true := by simpa [T.okd] using h
    show T.okdL (n + 1) xs = true
    exact okdL_succ n xs h'
  | n + 1, .dct _, h => by simp [T.okd] at h
  | n + 1, .set _, h => by simp [T.okd] at h
  | n + 1, .ins _ _ _, h => by simp [T.okd] at h
  | n + 1, .obj _, h => by simp [T.okd] at h
theorem okdL_succ : ∀ (n : Nat) (ts : List T), T.okdL n ts = true → T.okdL (n + 1) ts = true
  | n, [], _ => rfl
  | n, t :: ts, h => by
    have h' : T.okd n t = true ∧ T.okdL n ts = true := by simpa [T.okdL, Bool.and_eq_true] using h
    simp [T.okdL, okd_succ n t h'.1, okdL_succ n ts h'.2]
end
/-- a flat value's V -/
def vOf : T → V
  | .non => .non
  | .bl b => .bl b
  | .int i => .int i
  | .str s => .str s
  | _ => .non
theorem vOf_eq {g : Gh} {H : Hp} {t : T} {v : V} (h : flatT t = true) (r : RepB k g H t v) : v = vOf t := by
  cases t with
  | non => exact r.non
  | bl b => exact r.bl
  | int i => exact r.int
  | str s => exact r.str
  | _ => simp [flatT] at h
theorem vOfL_eq {g : Gh} : ∀ {ts : List T} {vs : List V}, ts.all flatT = true → RepL k g ts vs → vs = ts.map vOf
  | [], vs, _, r => by rw [RepL.nil] at r; exact r
  | t :: ts, vs, h, r => by
    obtain ⟨w, ws, rfl, r1, r2⟩ := RepL.cons.mp r
    rw [List.all_cons, Bool.and_eq_true] at h
    have e1 : w = vOf t := vOf_eq (H := fun _ => none) h.1 (.inl r1)
    have e2 := vOfL_eq h.2 r2
    rw [e1, e2]
    rfl
theorem flat_vOf {t : T} (h : flatT t = true) : flatV (vOf t) = true := by cases t <;> first | rfl | (simp [flatT] at h; done)
theorem flat_vOfL : ∀ {ts : List T}, ts.all flatT = true → (ts.map vOf).all flatV = true
  | [], _ => rfl
  | t :: ts, h => by
    rw [List.all_cons, Bool.and_eq_true] at h
    simp [flat_vOf h.1]
    have := flat_vOfL h.2
    simpa using this
theorem eqV_vOf {x y : T} (hx : flatT x = true) (hy : flatT y = true) : eqV (vOf y) (vOf x) = T.eqv y x := by
  cases x <;> cases y <;> first | (simp [flatT] at hx; done) | (simp [flatT] at hy; done) | (simp [vOf, eqV, T.eqv]; done) | rfl
theorem mem_vOf {x : T} (hx : flatT x = true) : ∀ {ys : List T}, ys.all flatT = true → inV (vOf x) (ys.map vOf) = memT x ys
  | [], _ => rfl
  | y :: ys, h => by
    rw [List.all_cons, Bool.and_eq_true] at h
    have ih := mem_vOf hx h.2
    unfold inV at ih ⊢
    simp only [List.map_cons, List.any_cons, memT, eqV_vOf hx h.1]
    rw [ih]
end
end Mp


set_option Elab.async false
set_option linter.all false
set_option maxRecDepth 100000
set_option maxHeartbeats 1000000
/-! Ops2: items, slices, displays, built-ins. -/
namespace Mp
open PySem PySem.Spec PyProof.Rows L2
section
variable {k : Gk} {X : Cx} {g : Gh} {env : En} {st : Store} {σ : L2.St} {H H' : Hp} {z : T} {u : V}
theorem pV_of_F (S : SR k g env st σ H) (p : pF k g H z u H') : pV k g H z u H' := by
  cases z with
  | lst xs =>
    obtain ⟨a, vs, rfl, h, rfl, r⟩ := p
    obtain ⟨x, r⟩ := new_lst S h r
    exact ⟨_, x, r⟩
  | dct xs =>
    obtain ⟨a, vs, rfl, h, rfl, r⟩ := p
    have x := Grow.one (o := .dK vs) S h
    exact ⟨_, x, rep_dct (put_at _ _ _) (RepE.mono x.le _ _ r)⟩
  | _ => exact p
theorem OpOk.v {r : R2} {op : Store → T → T → Option T} (h : OpOk k (pF k) r op) : OpOk k (pV k) r op := fun st x y z e g env σ H v w Q S rx ry q => h st x y z e g env σ H v w Q S rx ry fun u H' p => q u H' (pV_of_F S p)
theorem OpOk1.v {r : V → Hp → VK → Prop} {op : Store → T → Option T} (h : OpOk1 k (pF k) r op) : OpOk1 k (pV k) r op := fun st x z e g env σ H v Q S rx q => h st x z e g env σ H v Q S rx fun u H' p => q u H' (pV_of_F S p)
theorem OpOkL.v {r : List V → Hp → VK → Prop} {op : List T → Option T} (h : OpOkL k (pF k) r op) : OpOkL k (pV k) r op := fun xs z e g env st σ H vs Q S rx q => h xs z e g env st σ H vs Q S rx fun u H' p => q u H' (pV_of_F S p)
/-- a result that is none of the new ones -/
theorem pF_same (S : SR k g env st σ H) (r : Rep k g z u) (h : match z with | .lst _ => False | .dct _ => False | _ => True) : pF k g H z u H := by
  cases z <;> first | exact h.elim | exact ⟨g, Grow.refl S, r⟩
theorem pV_same (S : SR k g env st σ H) (r : Rep k g z u) : pV k g H z u H := ⟨g, Grow.refl S, r⟩

/-! ### displays -/
theorem ok_tup : OpOkL k (pF k) (fun vs H Q => vs.length ≤ sizeLine ∧ ∀ p, H p = none → Q (.ref p) (upd H p (.tup vs))) mkTup := by
  intro xs z e g env st σ H vs Q S r q
  unfold mkTup at e
  split at e
  · rename_i h
    cases e
    refine ⟨by rw [← r.length]; exact sizeB h, fun p hp => ?_⟩
    obtain ⟨x, r⟩ := new_tup S hp r
    exact q _ _ ⟨_, x, r⟩
  · cases e
theorem ok_lst : OpOkL k (pF k) (fun vs H Q => vs.length ≤ sizeLine ∧ ∀ p, H p = none → Q (.ref p) (upd H p (.lst vs))) mkLst := by
  intro xs z e g env st σ H vs Q S r q
  unfold mkLst at e
  split at e
  · rename_i h
    cases e
    exact ⟨by rw [← r.length]; exact sizeB h, fun p hp => q _ _ ⟨p, _, rfl, hp, rfl, r⟩⟩
  · cases e

/-! ### items -/
/-- what a sequence is in the heap -/
theorem seq_of (S : SR k g env st σ H) {x : T} {xs : List T} {v : V} (r : RepB k g H x v) (e : seqOf st x = some xs) : ∃ a vs, v = .ref a ∧ (SqL k.K H a vs ∨ SqT k.K H a vs) ∧ RepL k g xs vs := by
  cases x with
  | lst ys =>
    cases e
    obtain ⟨a, vs, rfl, h, r⟩ := r.lst S.sub
    exact ⟨a, vs, rfl, .inl (SqL.of h), r⟩
  | tup ys =>
    cases e
    obtain ⟨a, vs, rfl, h, r⟩ := r.tup
    exact ⟨a, vs, rfl, .inr (S.tup h), r⟩
  | obj n =>
    obtain ⟨rfl, _⟩ := r.obj
    cases h : st[n]? with
    | none => simp [seqOf, h] at e
    | some c =>
      cases c with
      | lst ys =>
        simp [seqOf, h] at e
        subst e
        obtain ⟨vs, h, r⟩ := S.cell n _ h
        exact ⟨_, vs, rfl, .inl (SqL.of h), r⟩
      | _ => simp [seqOf, h] at e
  | _ => cases e
theorem ixN_of {i : Int} {n j : Nat} (h : ixOf i n = some j) : ixN n i = some j ∧ j < n := by
  unfold ixOf at h
  unfold ixN
  split at h
  · split at h
    · cases h
      rename_i h1 h2
      rw [if_pos h1, if_pos h2]
      exact ⟨rfl, by omega⟩
    · cases h
  · split at h
    · rename_i h1 h2
      cases h
      rw [if_neg h1, if_pos h2, Int.add_comm]
      exact ⟨rfl, by omega⟩
    · cases h
theorem atI_of {xs : List T} {vs : List V} {i : Int} {j : Nat} {t : T} (r : RepL k g xs vs) (h : ixOf i xs.length = some j) (e : xs[j]? = some t) : ∃ w, atI vs i = some w ∧ Rep k g t w := by
  obtain ⟨w, e1, r1⟩ := r.get e
  refine ⟨w, ?_, r1⟩
  unfold atI
  rw [← r.length, (ixN_of h).1]
  exact e1
theorem ok_ix : OpOk k (pV k) (rIx k.K) opIxS := by
  intro st x y z e g env σ H v w Q S rx ry q
  unfold opIxS at e
  split at e
  · rename_i s i
    split at e
    · rename_i hz
      cases h : ixOf i s.length with
      | none => rw [h] at e; cases e
      | some j =>
        rw [h] at e
        cases e
        have hj := ixN_of h
        have hs : s.cps.size = s.length := rfl
        refine .inr (.inr ⟨s, i, s.cps.getD j 0, rx.str, ry.int, sizeB hz, ?_, q _ H (pV_same S rep_str)⟩)
        unfold atI
        rw [show s.cps.toList.length = s.length from by simp [Str.length], hj.1]
        have : j < s.cps.size := by rw [hs]; exact hj.2
        simp [this]
    · cases e
  · rename_i i _
    split at e
    · rename_i xs hs
      split at e
      · rename_i j hj
        obtain ⟨a, vs, rfl, h, r⟩ := seq_of S rx hs
        obtain ⟨w', h1, r1⟩ := atI_of r hj e
        rcases h with h | h
        · exact .inl ⟨a, vs, i, w', rfl, ry.int, h, h1, q _ H (pV_same S r1)⟩
        · exact .inr (.inl ⟨a, vs, i, w', rfl, ry.int, h, h1, q _ H (pV_same S r1)⟩)
      · cases e
    · cases e
  · cases e

/-! ### slices -/
/-- a part of a slice -/
def PartO (t : T) (o : Option Int) : Prop := (t = .non ∧ o = none) ∨ ∃ i, t = .int i ∧ o = some i
theorem lim_sIx {n d a : Nat} {t : T} {o : Option Int} (r : PartO t o) (e : lim n t (some d) = some a) : HT.sIx n d o = a := by
  rcases r with ⟨rfl, rfl⟩ | ⟨i, rfl, rfl⟩
  · cases e; rfl
  · have e : (if -(2 ^ 60) < i ∧ i < 2 ^ 60 then some (if i < 0 then ((n : Int) + i).toNat else min i.toNat n) else none) = some a := e
    split at e
    · cases e
      show (if i < 0 then (i + (n : Int)).toNat else min i.toNat n) = _
      rw [Int.add_comm]
    · cases e
def rCutM (K : PySem.W.Frag) : V → Option Int → Option Int → Hp → VK → Prop := fun x lo hi H Q => rSlL K x lo hi H Q ∨ rSlA K x lo hi H Q ∨ rSlS x lo hi H Q
theorem sl_M (hK : X.K = k.K) : SlR X (rCutM k.K) := by
  rw [← hK]
  exact sl_list.or (sl_tupA.or sl_str)
theorem RepL.cut {ts : List T} {vs : List V} (r : RepL k g ts vs) (lo hi : Option Int) : RepL k g (cutT (HT.sIx ts.length 0 lo) (HT.sIx ts.length ts.length hi) ts) (cutV vs lo hi) := by
  unfold cutT cutV
  rw [r.length]
  exact (r.drop _).take _
theorem ok_cut {x lo hi z : T} {v : V} {ol oh : Option Int} {Q : VK} (S : SR k g env st σ H) (rx : RepB k g H x v) (rl : PartO lo ol) (rh : PartO hi oh) (e : opCut st x lo hi = some z)
    (q : ∀ u H', pF k g H z u H' → Q u H') : rCutM k.K v ol oh H Q := by
  have lsts : ∀ (xs : List T) (a : Addr) (vs : List V), v = .ref a → SqL k.K H a vs → RepL k g xs vs → (match lim xs.length lo (some 0), lim xs.length hi (some xs.length) with
      | some a, some b => some (T.lst (cutT a b xs))
      | _, _ => none) = some z → rCutM k.K v ol oh H Q := by
    intro xs a vs ev hq r e
    split at e
    · rename_i a' b' e1 e2
      cases e
      have s1 := lim_sIx rl e1
      have s2 := lim_sIx rh e2
      refine .inl ⟨a, vs, ev, hq, fun p hp => q _ _ ⟨p, _, rfl, hp, rfl, ?_⟩⟩
      rw [← s1, ← s2]
      exact r.cut ol oh
    · cases e
  cases x with
  | tup xs =>
    obtain ⟨a, vs, rfl, h, r⟩ := rx.tup
    unfold opCut at e
    simp only at e
    split at e
    · rename_i a' b' e1 e2
      cases e
      have s1 := lim_sIx rl e1
      have s2 := lim_sIx rh e2
      refine .inr (.inl ⟨a, vs, rfl, S.tup h, fun hw => q _ H ?_, fun _ p hp => ?_⟩)
      · rw [← r.length] at hw
        have e3 : cutT a' b' xs = xs := by
          rw [← s1, ← s2, hw.1, hw.2]
          unfold cutT
          simp
        rw [e3]
        exact ⟨g, Grow.refl S, rep_tup h r⟩
      · have r2 := r.cut ol oh
        rw [s1, s2] at r2
        obtain ⟨x, r3⟩ := new_tup S hp r2
        exact q _ _ ⟨_, x, r3⟩
    · cases e
  | lst xs =>
    obtain ⟨a, vs, rfl, h, r⟩ := rx.lst S.sub
    exact lsts xs a vs rfl (SqL.of h) r e
  | str s =>
    have hv := rx.str
    unfold opCut at e
    simp only at e
    split at e
    · rename_i a' b' e1 e2
      split at e
      · rename_i hz
        cases e
        have s1 := lim_sIx rl e1
        have s2 := lim_sIx rh e2
        refine .inr (.inr ⟨s, hv, sizeB hz, ?_⟩)
        have : cutS s ol oh = ⟨((s.cps.toList.drop a').take (b' - a')).toArray⟩ := by
          unfold cutS
          rw [s1, s2]
        rw [this]
        exact q _ H ⟨g, Grow.refl S, rep_str⟩
      · cases e
    · cases e
  | obj n =>
    obtain ⟨rfl, _⟩ := rx.obj
    unfold opCut at e
    simp only at e
    cases h : st[n]? with
    | none => rw [h] at e; cases e
    | some c =>
      rw [h] at e
      cases c with
      | lst xs =>
        obtain ⟨vs, h1, r⟩ := S.cell n _ h
        exact lsts xs _ vs rfl (SqL.of h1) r e
      | scr xs =>
        obtain ⟨vs, h1, r⟩ := S.cell n _ h
        exact lsts xs _ vs rfl (Mp.SqL.fmono S.sub h1) r e
      | _ => cases e
  | _ => cases e

/-! ### built-ins -/
theorem ok_len : OpOk1 k (pF k) (fun x H Q => (∃ p ys, x = .ref p ∧ (SqL k.K H p ys ∨ SqT k.K H p ys) ∧ Q (.int ys.length) H) ∨ (∃ z, x = .str z ∧ z.length ≤ sizeLine ∧ Q (.int z.length) H)) lenT := by
  intro st x z e g env σ H v Q S rx q
  have seq : ∀ xs, seqOf st x = some xs → z = .int xs.length → ∃ p ys, v = .ref p ∧ (SqL k.K H p ys ∨ SqT k.K H p ys) ∧ Q (.int ys.length) H := fun xs e1 e2 => by
    obtain ⟨a, vs, rfl, h, r⟩ := seq_of S rx e1
    refine ⟨a, vs, rfl, h, ?_⟩
    rw [← r.length]
    subst e2
    exact q _ H ⟨g, Grow.refl S, rep_int⟩
  cases x with
  | lst xs => exact .inl (seq xs rfl (by cases e; rfl))
  | tup xs => exact .inl (seq xs rfl (by cases e; rfl))
  | str s =>
    unfold lenT at e
    simp only at e
    split at e
    · rename_i hz
      cases e
      exact .inr ⟨s, rx.str, sizeB hz, q _ H ⟨g, Grow.refl S, rep_int⟩⟩
    · cases e
  | obj n =>
    unfold lenT at e
    cases h : st[n]? with
    | none => simp [h] at e
    | some c =>
      cases c with
      | lst ys =>
        simp [h] at e
        exact .inl (seq ys (by simp [seqOf, h]) e.symm)
      | _ => simp [h] at e
  | _ => cases e
theorem ok_list : OpOk1 k (pF k) (fun x H Q => ∃ p ys, x = .ref p ∧ (SqL k.K H p ys ∨ SqT k.K H p ys) ∧ ∀ l, H l = none → Q (.ref l) (upd H l (.lst ys))) listT := by
  intro st x z e g env σ H v Q S rx q
  unfold listT at e
  cases h : seqOf st x with
  | none => rw [h] at e; cases e
  | some xs =>
    rw [h] at e
    cases e
    obtain ⟨a, vs, rfl, h, r⟩ := seq_of S rx h
    exact ⟨a, vs, rfl, h, fun l hl => q _ _ ⟨l, _, rfl, hl, rfl, r⟩⟩
theorem ok_tuple : OpOk1 k (pF k) (fun x H Q => ∃ p ys, x = .ref p ∧ ((SqL k.K H p ys ∧ ∀ l, H l = none → Q (.ref l) (upd H l (.tup ys))) ∨ (SqT k.K H p ys ∧ Q (.ref p) H))) tupleT := by
  intro st x z e g env σ H v Q S rx q
  unfold tupleT at e
  cases h : seqOf st x with
  | none => rw [h] at e; cases e
  | some xs =>
    rw [h] at e
    cases e
    have lst : ∀ a vs, v = .ref a → SqL k.K H a vs → RepL k g xs vs → ∃ p ys, v = .ref p ∧ ((SqL k.K H p ys ∧ ∀ l, H l = none → Q (.ref l) (upd H l (.tup ys))) ∨ (SqT k.K H p ys ∧ Q (.ref p) H)) := fun a vs ev h r =>
      ⟨a, vs, ev, .inl ⟨h, fun l hl => by
        obtain ⟨x, r3⟩ := new_tup S hl r
        exact q _ _ ⟨_, x, r3⟩⟩⟩
    cases x with
    | tup ys =>
      cases h
      obtain ⟨a, vs, rfl, h, r⟩ := rx.tup
      exact ⟨a, vs, rfl, .inr ⟨S.tup h, q _ H ⟨g, Grow.refl S, rep_tup h r⟩⟩⟩
    | lst ys =>
      cases h
      obtain ⟨a, vs, ev, h, r⟩ := rx.lst S.sub
      exact lst a vs ev (SqL.of h) r
    | obj n =>
      obtain ⟨rfl, _⟩ := rx.obj
      cases h' : st[n]? with
      | none => simp [seqOf, h'] at h
      | some c =>
        cases c with
        | lst ys =>
          simp [seqOf, h'] at h
          subst h
          obtain ⟨vs, h2, r⟩ := S.cell n _ h'
          exact lst _ vs rfl (SqL.of h2) r
        | _ => simp [seqOf, h'] at h
    | _ => cases h
theorem bls_of : ∀ {xs : List T} {bs : List Bool} {vs : List V}, T.bls? xs = some bs → RepL k g xs vs → vs = bs.map V.bl
  | [], bs, vs, e, r => by cases e; rw [RepL.nil] at r; exact r
  | t :: xs, bs, vs, e, r => by
    obtain ⟨w, ws, rfl, r1, r2⟩ := RepL.cons.mp r
    cases t with
    | bl b =>
      simp only [T.bls?] at e
      cases h : T.bls? xs with
      | none => rw [h] at e; cases e
      | some cs =>
        rw [h] at e
        cases e
        rw [r1.bl, bls_of h r2]
        rfl
    | _ => simp [T.bls?] at e
theorem ok_all : OpOk1 k (pF k) (fun x H Q => rAll k.K [x] H Q) (fun _ => allT) := by
  intro st x z e g env σ H v Q S rx q
  cases x with
  | lst xs =>
    obtain ⟨a, vs, rfl, h, r⟩ := rx.lst S.sub
    have e : (T.bls? xs).map (fun bs => T.bl (bs.all id)) = some z := e
    cases hb : T.bls? xs with
    | none => rw [hb] at e; cases e
    | some bs =>
      rw [hb] at e
      cases e
      have := bls_of hb r
      subst this
      exact ⟨a, bs, rfl, SqL.of h, q _ H ⟨g, Grow.refl S, rep_bl⟩⟩
  | _ => cases e
theorem ok_any : OpOk1 k (pF k) (fun x H Q => rAny k.K [x] H Q) (fun _ => anyT) := by
  intro st x z e g env σ H v Q S rx q
  cases x with
  | lst xs =>
    obtain ⟨a, vs, rfl, h, r⟩ := rx.lst S.sub
    have e : (T.bls? xs).map (fun bs => T.bl (bs.any id)) = some z := e
    cases hb : T.bls? xs with
    | none => rw [hb] at e; cases e
    | some bs =>
      rw [hb] at e
      cases e
      have := bls_of hb r
      subst this
      exact ⟨a, bs, rfl, SqL.of h, q _ H ⟨g, Grow.refl S, rep_bl⟩⟩
  | _ => cases e
theorem ok_neg : OpOk1 k (pF k) (rU fun i => .int (-i)) (fun _ => opNeg) := by
  intro st x z e g env σ H v Q S rx q
  cases x with
  | int i => cases e; exact ⟨i, rx.int, q _ H ⟨g, Grow.refl S, rep_int⟩⟩
  | _ => cases e
theorem ne_non {x : T} {v : V} (hx : x ≠ .non) (r : RepB k g H x v) : v ≠ .non := by
  intro e
  subst e
  rcases r with r | ⟨a, h, _⟩
  · cases x with
    | non => exact hx rfl
    | bl b => cases r.bl
    | int i => cases r.int
    | str s => cases r.str
    | tup xs => obtain ⟨a, vs, h, _⟩ := r.tup; cases h
    | lst xs => obtain ⟨a, vs, h, _⟩ := r.lst; cases h
    | dct xs => obtain ⟨a, vs, h, _⟩ := r.dct; cases h
    | set xs => unfold Rep at r; exact r
    | ins c ns ts => unfold Rep at r; obtain ⟨a, dx, ws, h, _⟩ := r; cases h
    | obj n => cases r.obj.1
  · cases h
def isNon : T → Bool
  | .non => true
  | _ => false
theorem isN_of {x y z : T} (e : opIsN x y = some z) : y = .non ∧ z = .bl (isNon x) := by
  cases y <;> cases x <;> first | (cases e; exact ⟨rfl, rfl⟩) | (cases e; done)
theorem dec_isN {x : T} {v : V} (r : RepB k g H x v) : decide (v = .non) = isNon x := by
  cases x with
  | non => have := r.non; subst this; rfl
  | _ => exact decide_eq_false (ne_non (fun z => by cases z) r)
theorem ok_isN : OpOk k (pF k) (fun x y H Q => y = .non ∧ Q (.bl (decide (x = .non))) H) (fun _ => opIsN) := by
  intro st x y z e g env σ H v w Q S rx ry q
  obtain ⟨e1, e2⟩ := isN_of e
  subst e1 e2
  exact ⟨ry.non, by rw [dec_isN rx]; exact q _ H ⟨g, Grow.refl S, rep_bl⟩⟩
theorem ok_notN : OpOk k (pF k) (fun x y H Q => y = .non ∧ Q (.bl (!decide (x = .non))) H) (fun _ => opIsNotN) := by
  intro st x y z e g env σ H v w Q S rx ry q
  have e : notB (opIsN x y) = some z := e
  cases h : opIsN x y with
  | none => rw [h] at e; cases e
  | some z' =>
    rw [h] at e
    obtain ⟨e1, e2⟩ := isN_of h
    subst e1 e2
    cases e
    exact ⟨ry.non, by rw [dec_isN rx]; exact q _ H ⟨g, Grow.refl S, rep_bl⟩⟩

/-! ### isinstance -/
theorem kind_ty (S : SR k g env st σ H) {x : T} {v : V} {s : String} (r : RepB k g H x v) (e : kindOf st x = some s) : TyX k.K H v (.type s) := by
  cases x with
  | non => cases e; rw [r.non]; exact .base .non
  | bl b => cases e; rw [r.bl]; exact .base (.bl b)
  | int i => cases e; rw [r.int]; exact .base (.int i)
  | str i => cases e; rw [r.str]; exact .base (.str i)
  | tup xs =>
    cases e
    obtain ⟨a, vs, rfl, h, _⟩ := r.tup
    rcases S.tup h with (h | ⟨o, h⟩) | ⟨o, its, n, h, c, _⟩
    · exact .base (.tup h)
    · exact .fTuple h
    · exact .kTuple h c
  | lst xs =>
    cases e
    obtain ⟨a, vs, rfl, h, _⟩ := r.lst S.sub
    exact .base (.lst h)
  | dct xs =>
    cases e
    obtain ⟨a, vs, rfl, h, _⟩ := r.dct S.sub
    exact .base (.dK h)
  | obj n =>
    obtain ⟨rfl, _⟩ := r.obj
    cases h : st[n]? with
    | none => simp [kindOf, h] at e
    | some c =>
      cases c with
      | lst ys =>
        simp [kindOf, h] at e
        subst e
        obtain ⟨vs, h, r⟩ := S.cell n _ h
        exact .base (.lst h)
      | _ => simp [kindOf, h] at e
  | _ => cases e
def kinds5 : List String := ["bool", "int", "str", "tuple", "list"]
def kinds7 : List String := ["NoneType", "bool", "int", "str", "tuple", "list", "dict"]
theorem kit57 : (kinds7.all fun a => kinds5.all fun b => decide (kitB a b = some (subKind a b))) = true := by decide +kernel
theorem kit_sub {a b : String} (ha : a ∈ kinds7) (hb : b ∈ kinds5) : PySem.W.kitOne k.K (.type a) (.type b) = some (subKind a b) :=
  kit_ty (of_decide_eq_true (List.all_eq_true.mp (List.all_eq_true.mp kit57 a ha) b hb))
theorem kind_mem {st : Store} {x : T} {s : String} (e : kindOf st x = some s) : s ∈ kinds7 := by
  cases x with
  | obj n =>
    have e : (match st[n]? with | some (.lst _) => some "list" | _ => none) = some s := e
    split at e
    · cases e; decide
    · cases e
  | _ => first | (cases e; done) | (cases e; decide)
theorem kit_any {a : String} (ha : a ∈ kinds7) : ∀ {ns : List String}, (∀ b ∈ ns, b ∈ kinds5) → PySem.W.kitAny k.K (.type a) (ns.map Value.type) = some (ns.any (subKind a))
  | [], _ => kitAny_nil
  | b :: ns, h => by
    rw [List.map_cons, List.any_cons]
    refine kitAny_cons (kit_sub ha (h b List.mem_cons_self)) (fun e => ?_) (fun e => ?_)
    · rw [e, Bool.false_or]
      exact kit_any ha fun b hb => h b (List.mem_cons_of_mem _ hb)
    · rw [e, Bool.true_or]
end
end Mp


set_option Elab.async false
set_option linter.all false
set_option maxRecDepth 100000
set_option maxHeartbeats 2000000
/-! Tre: x[::-1] of a list or a tuple. -/
namespace Mp
open PySem PySem.Spec PyProof.Rows L2
section
variable {prog : Program} {w : World} {A : Around} {E : Value → Shared → Prop} {s : Shared}
theorem adjust_rev (n : Nat) : Builtin.Slice.sliceAdjust none none (-1) (n : Int) = ((n : Int) - 1, -1) := by
  unfold Builtin.Slice.sliceAdjust
  simp
theorem places_rev (n : Nat) : Builtin.Slice.slicePlaces ((n : Int) - 1) (-1) (-1) = n := by
  unfold Builtin.Slice.slicePlaces
  have h1 : ¬ ((-1 : Int) > 0) := by omega
  simp only [h1, if_false]
  split
  · rename_i h
    have : ((n : Int) - 1 - -1 - 1) / (- -1) = (n : Int) - 1 := by
      rw [show (- -1 : Int) = 1 from rfl, Int.ediv_one]
      omega
    rw [this]
    omega
  · omega
theorem fm_congr {α β : Type} {f g : α → Option β} : ∀ {l : List α}, (∀ x ∈ l, f x = g x) → l.filterMap f = l.filterMap g
  | [], _ => rfl
  | x :: l, h => by rw [List.filterMap_cons, List.filterMap_cons, h x List.mem_cons_self, fm_congr fun y hy => h y (List.mem_cons_of_mem _ hy)]
theorem pick_rev (xs : Array Value) : ((List.range xs.size).filterMap fun (m : Nat) => xs[(((xs.size : Int) - 1) + (m : Int) * (-1)).toNat]?).toArray = xs.toList.reverse.toArray := by
  have e : (List.range xs.size).filterMap (fun (m : Nat) => xs[(((xs.size : Int) - 1) + (m : Int) * (-1)).toNat]?) = ((List.range xs.size).map fun k => xs.size - 1 - k).filterMap (fun j => xs[j]?) := by
    rw [List.filterMap_map]
    refine fm_congr fun m hm => ?_
    have : (((xs.size : Int) - 1) + (m : Int) * (-1)).toNat = xs.size - 1 - m := by omega
    rw [this]
    rfl
  rw [e, PySem.W.krv_range, List.filterMap_reverse, PySem.W.krv_all]
theorem sliceApplied_rev {sl : Addr} {vs : Value} {n : Nat} {Q : Int × Int × Nat → Shared → Prop} (hs : s.heap.IsSliceOf sl .none .none vs) (ps : IsPart vs (some (-1)))
    (h : Q ((n : Int) - 1, -1, n) s) : wpAny (model prog w) A (Builtin.Slice.sliceApplied (.ref sl) (pure (n : Int))) Q E s := by
  obtain ⟨os, hos, hcs, hds⟩ := id hs
  unfold Builtin.Slice.sliceApplied Builtin.Slice.sliceFields
  refine wpAny_bind (wpAny_bind (wpAny_field hos hds (x := .none) rfl (wpAny_bind (wpAny_field hos hds (x := .none) rfl (wpAny_bind (wpAny_field hos hds (x := vs) rfl (wpAny_pure ?_)))))))
  refine wpAny_bind (HT.slicePart_ ps ?_)
  show wpAny _ _ (if ((-1 : Int) == 0) = true then _ else _) _ _ s
  rw [if_neg (by decide)]
  refine wpAny_bind (slicePart_none (wpAny_bind (slicePart_none (wpAny_bind (wpAny_pure ?_)))))
  show wpAny _ _ (match Builtin.Slice.sliceAdjust none none (-1) (n : Int) with | (lo, hi) => pure (lo, (-1 : Int), Builtin.Slice.slicePlaces lo hi (-1))) _ _ s
  rw [adjust_rev n]
  show wpAny _ _ (pure ((n : Int) - 1, (-1 : Int), Builtin.Slice.slicePlaces ((n : Int) - 1) (-1) (-1))) _ _ s
  rw [places_rev]
  exact wpAny_pure h
theorem getItem_tuple_rev {t sl : Addr} {items : Array Value} {vs : Value} {Q : Value → Shared → Prop} (ht : IsTup s.heap t items) (hs : s.heap.IsSliceOf sl .none .none vs) (ps : IsPart vs (some (-1)))
    (h : Q (.ref s.heap.objs.size) { s with heap := s.heap.push { cls := .type "tuple", data := .seq items.toList.reverse.toArray } })
    (hsz : items.size ≤ sizeLine) : wpAny (model prog w) A (getItem (.ref t) (.ref sl)) Q E s := by
  have htake : sizeOk (.seq items.toList.reverse.toArray) := by
    show items.toList.reverse.toArray.size ≤ sizeLine
    rw [List.size_toArray, List.length_reverse, Array.length_toList]
    exact hsz
  obtain ⟨os, hos, hcs, hds⟩ := id hs
  have hTs : s.TypeIs (.ref sl) "slice" := ⟨os, hos, hcs⟩
  unfold getItem
  try with_reducible refine wpAny_holding ?_
  first | refine wpAny_bind (wpAny_pure ?_) | skip
  refine wpAny_bind (wpAny_sequenceKey ht.typeIs (by decide) ?_)
  refine wpAny_bind (wpAny_callSpecial?_slot (name := Str.ofString "__getitem__") ht.typeIs PyProof.Rows.slot_tuple_getitem
    (wpAny_call_entry PyProof.Rows.slot_tuple_getitem ht.typeIs entry_tuple_getitem ?_ (args_tuple_getitem _ _)))
  show wpAny _ _ (Builtin.Tuple.tupleItemsOf (.ref t) >>= _) _ _ s
  refine wpAny_bind (tupleItemsOf_ ht ?_)
  refine wpAny_bind (wpAny_typeOf hTs ?_)
  rw [if_pos (by decide)]
  refine wpAny_bind (sliceApplied_rev hs ps ?_)
  show wpAny _ _ (if ((((items.size : Int) - 1) == 0) && (-1 : Int) == 1 && items.size == items.size) = true then _ else _) _ _ s
  rw [if_neg (by simp), pick_rev]
  first
    | exact wpAny_bind (m := Builtin.Tuple.tupleExact _) (wpAny_newObj_type (wpAny_pure ⟨_, rfl, wpAny_pure h⟩) htake)
    | exact wpAny_bind (m := Builtin.Tuple.tupleExact _) (wpAny_newObj_type (wpAny_bind (wpAny_pure (wpAny_pure ⟨_, rfl, wpAny_pure h⟩))) htake)
    | exact wpAny_bind (wpAny_bind (m := Builtin.Tuple.tupleExact _) (wpAny_newObj_type (wpAny_pure (wpAny_pure ⟨_, rfl, wpAny_pure h⟩)) htake))
    | exact wpAny_bind (wpAny_bind (m := Builtin.Tuple.tupleExact _) (wpAny_newObj_type (wpAny_pure ⟨_, rfl, wpAny_pure h⟩) htake))
end
def rRev (K : PySem.W.Frag) : V → Hp → VK → Prop := fun x H Q => (∃ a xs, x = .ref a ∧ SqL K H a xs ∧ ∀ p, H p = none → Q (.ref p) (upd H p (.lst xs.reverse))) ∨ ∃ a xs, x = .ref a ∧ SqT K H a xs ∧ ∀ p, H p = none → Q (.ref p) (upd H p (.tup xs.reverse))
theorem pe_rev {X : Cx} {e : Expr} {te : TE} {k : Nat} {p1 p2 p3 pos : Pos} (he : PE X e te) : PE X (.Subscript e (.Slice none none (some (.UnaryOp .USub (.Constant (.int 1) k p1) p2)) p3) pos) (fun σ H Q => te σ H fun x H1 => rRev X.K x H1 Q) := by
  refine ⟨fun pins s σ H Q I h => ?_⟩
  refine Subscript_ (thn (he.run pins s σ H _ I h) fun v s1 ⟨x, H1, I1, r1, q1⟩ => ?_)
  have hst : PO X (some (.UnaryOp .USub (.Constant (.int 1) k p1) p2)) (tPart (tUn (rU fun i => .int (-i)) (tC (.int 1)))) := po_some (pe_un un_neg pe_int)
  refine wpAny_Slice (thn (po_none.run pins s1 σ H1 (fun o H2 => o = none ∧ H2 = H1) I1 ⟨rfl, rfl⟩) fun vl s2 ⟨l, H2, I2, pl, el, e2⟩ => ?_)
  subst el e2
  refine thn (po_none.run pins s2 σ H2 (fun o H3 => o = none ∧ H3 = H2) I2 ⟨rfl, rfl⟩) fun vu s3 ⟨u, H3, I3, pu, eu, e3⟩ => ?_
  subst eu e3
  refine thn (hst.run pins s3 σ H3 (fun o H4 => o = some (-1) ∧ H4 = H3) I3 ⟨1, rfl, -1, rfl, rfl, rfl⟩) fun vs s4 ⟨o, H4, I4, ps, eo, e4⟩ => ?_
  subst eo e4
  have I5 : Inv X pins σ H4 { s4 with heap := s4.heap.push { cls := .type "slice", data := .fields #[vl, vu, vs] } } := I4.kept (t' := s4.toks) fun b ob q => Heap.get?_push_of_some _ q
  rcases q1 with ⟨a, xs, ex, hx, q⟩ | ⟨a, xs, ex, hx, q⟩
  · subst ex
    cases r1
    obtain ⟨its, r, ht, hz⟩ := I5.list hx
    have hlen := r.length
    show wpAny (model X.prog X.w) X.A (subscriptTail e (.Slice none none (some (.UnaryOp .USub (.Constant (.int 1) k p1) p2)) p3) (.ref a) (.ref s4.heap.objs.size)) (EP X pins σ Q) X.xe { s4 with heap := s4.heap.push { cls := .type "slice", data := .fields #[vl, vu, vs] } }
    refine tail_any (ops := [.ref a, .ref s4.heap.objs.size]) ht.isList.typeIs (PySem.slot_list_getitem.lookup) ?_ (by with_unfolding_all rfl)
    refine wpAny_getItem_list_slice ht.isList (Heap.IsSliceOf.new _ vl vu vs) pl pu ps (by decide) ?_ (by rw [List.size_toArray]; omega)
    rw [PySem.W.krv_pick]
    refine ⟨.ref _, _, I5.laid (t' := s4.toks) (o := .lst xs.reverse) (fun b ob q => Heap.get?_push_of_some _ q) (Nat.le_refl _) ?_, rfl, q _ (I5.hok.fresh (Nat.le_refl _))⟩
    exact ⟨by rw [List.length_reverse]; exact hz, _, 0, r.reverse, Heap.get?_push_size _ rfl⟩
  · subst ex
    cases r1
    cases pl
    cases pu
    obtain ⟨its, r, ht, hz⟩ := I5.tuple hx
    have hlen := r.length
    show wpAny (model X.prog X.w) X.A (subscriptTail e (.Slice none none (some (.UnaryOp .USub (.Constant (.int 1) k p1) p2)) p3) (.ref a) (.ref s4.heap.objs.size)) (EP X pins σ Q) X.xe { s4 with heap := s4.heap.push { cls := .type "slice", data := .fields #[.none, .none, vs] } }
    refine tail_any (ops := [.ref a, .ref s4.heap.objs.size]) ht.typeIs (PyProof.Rows.slot_tuple_getitem.lookup) ?_ (by with_unfolding_all rfl)
    refine getItem_tuple_rev ht (Heap.IsSliceOf.new _ .none .none vs) ps ?_ (by rw [List.size_toArray]; omega)
    refine ⟨.ref _, _, I5.laid (t' := s4.toks) (o := .tup xs.reverse) (fun b ob q => Heap.get?_push_of_some _ q) (Nat.le_refl _) ?_, rfl, q _ (I5.hok.fresh (Nat.le_refl _))⟩
    exact ⟨by rw [List.length_reverse]; exact hz, _, r.reverse, IsTup.new _ _⟩
section
variable {k : Gk} {X : Cx} {g : Gh} {env : En} {st : Store} {σ : L2.St} {H H' : Hp} {z : T} {u : V}
theorem RepL.rev {ts : List T} {vs : List V} (r : RepL k g ts vs) : RepL k g ts.reverse vs.reverse := by
  induction ts generalizing vs with
  | nil =>
    obtain rfl := RepL.nil.mp r
    exact RepL.nil.mpr rfl
  | cons t ts ih =>
    obtain ⟨w, ws, rfl, r1, r2⟩ := RepL.cons.mp r
    rw [List.reverse_cons, List.reverse_cons]
    exact (ih r2).append (RepL.one r1)
theorem ok_rev : OpOk1 k (pF k) (rRev k.K) opRev := by
  intro st x z e g env σ H v Q S rx q
  cases x with
  | tup xs =>
    cases e
    obtain ⟨a, vs, rfl, h, r⟩ := rx.tup
    refine .inr ⟨a, vs, rfl, S.tup h, fun p hp => ?_⟩
    obtain ⟨x, r3⟩ := new_tup S hp r.rev
    exact q _ _ ⟨_, x, r3⟩
  | lst xs =>
    cases e
    obtain ⟨a, vs, rfl, h, r⟩ := rx.lst S.sub
    exact .inl ⟨a, vs, rfl, SqL.of h, fun p hp => q _ _ ⟨p, _, rfl, hp, rfl, r.rev⟩⟩
  | _ => cases e
end
end Mp


set_option Elab.async false
set_option linter.all false
set_option maxRecDepth 100000
set_option maxHeartbeats 1000000
/-! Ops3: in, dicts. -/
namespace Mp
open PySem PySem.Spec PyProof.Rows L2
section
variable {k : Gk} {X : Cx} {g : Gh} {env : En} {st : Store} {σ : L2.St} {H : Hp}
/-! ### a dict's keys -/
theorem repK_eq {a b : Key} {s t : T} (h1 : RepK a s) (h2 : RepK b t) : decide (a = b) = T.eqv s t := by
  cases a <;> cases b <;> cases s <;> cases t <;> first | exact h1.elim | exact h2.elim | skip
  · cases h1; cases h2
    rename_i i j
    show decide (Sum.inl i = Sum.inl j) = (i == j)
    by_cases h : i = j
    · simp [h]
    · have : Sum.inl (β := Str) i ≠ Sum.inl j := fun z => h (Sum.inl.inj z)
      simp [h, this]
  · rfl
  · rfl
  · cases h1; cases h2
    rename_i i j
    show decide (Sum.inr i = Sum.inr j) = (i == j)
    by_cases h : i = j
    · subst h; simp
    · have : Sum.inr (α := Int) i ≠ Sum.inr j := fun z => h (Sum.inr.inj z)
      have h' : (i == j) = false := by simpa using h
      rw [h']
      simp [this]
theorem repK_of {t : T} {v : V} (h : keyT t = true) (r : RepB k g H t v) : ∃ kk, RepK kk t ∧ v = kV kk := by
  cases t with
  | int i => exact ⟨.inl i, rfl, r.int⟩
  | str s => exact ⟨.inr s, rfl, r.str⟩
  | _ => cases h
/-- what stands at a key -/
def OptRep (k : Gk) (g : Gh) : Option T → Option V → Prop
  | some t, some v => Rep k g t v
  | none, none => True
  | _, _ => False
theorem repE_get {kk : Key} {kt : T} (hk : RepK kk kt) : ∀ {kvs : List T} {gs : List (Key × V)}, RepE k g kvs gs → OptRep k g (dget kt kvs) (valV gs kk)
  | [], gs, r => by unfold RepE at r; subst r; trivial
  | .tup [k', v'] :: r, gs, q => by
    unfold RepE at q
    obtain ⟨k2, w, ws, rfl, q1, q2, q3⟩ := q
    have e := repK_eq q1 hk
    unfold dget valV
    rw [List.find?_cons]
    cases h : T.eqv k' kt with
    | true =>
      rw [h] at e
      simp only [e, Option.map_some, if_true]
      exact q2
    | false =>
      rw [h] at e
      simp only [e]
      exact repE_get hk q3
  | .tup [] :: _, _, q => by simp [RepE] at q
  | .tup [_] :: _, _, q => by simp [RepE] at q
  | .tup (_ :: _ :: _ :: _) :: _, _, q => by simp [RepE] at q
  | .non :: _, _, q => by simp [RepE] at q
  | .bl _ :: _, _, q => by simp [RepE] at q
  | .int _ :: _, _, q => by simp [RepE] at q
  | .str _ :: _, _, q => by simp [RepE] at q
  | .lst _ :: _, _, q => by simp [RepE] at q
  | .dct _ :: _, _, q => by simp [RepE] at q
  | .set _ :: _, _, q => by simp [RepE] at q
  | .ins _ _ _ :: _, _, q => by simp [RepE] at q
  | .obj _ :: _, _, q => by simp [RepE] at q
theorem repE_mem {kt : T} : ∀ {kvs : List T} {gs : List (Key × V)}, RepE k g kvs gs → memT kt (keysOf kvs) = (dget kt kvs).isSome
  | [], gs, r => rfl
  | .tup [k', v'] :: r, gs, q => by
    unfold RepE at q
    obtain ⟨k2, w, ws, rfl, q1, q2, q3⟩ := q
    show (T.eqv k' kt || memT kt (keysOf r)) = (if T.eqv k' kt then some v' else dget kt r).isSome
    rw [repE_mem q3]
    cases T.eqv k' kt <;> simp
  | .tup [] :: _, _, q => by simp [RepE] at q
  | .tup [_] :: _, _, q => by simp [RepE] at q
  | .tup (_ :: _ :: _ :: _) :: _, _, q => by simp [RepE] at q
  | .non :: _, _, q => by simp [RepE] at q
  | .bl _ :: _, _, q => by simp [RepE] at q
  | .int _ :: _, _, q => by simp [RepE] at q
  | .str _ :: _, _, q => by simp [RepE] at q
  | .lst _ :: _, _, q => by simp [RepE] at q
  | .dct _ :: _, _, q => by simp [RepE] at q
  | .set _ :: _, _, q => by simp [RepE] at q
  | .ins _ _ _ :: _, _, q => by simp [RepE] at q
  | .obj _ :: _, _, q => by simp [RepE] at q
theorem optRep_some {o : Option T} {o' : Option V} (h : OptRep k g o o') : o'.isSome = o.isSome := by
  cases o <;> cases o' <;> first | rfl | exact h.elim

/-! ### in -/
def rInDct (neg : Bool) : R2 := fun y x H Q => ∃ a o, x = .ref a ∧ DGet H a y o ∧ Q (.bl (if neg then !o.isSome else o.isSome)) H
theorem op_inDct (hu : X.A.units + 1 < cLine) : OpR X (compareOp .In) (rInDct false) := by
  intro pins s σ H y x v u Q I ry rx h
  obtain ⟨a, o, rfl, hg, q⟩ := h
  cases rx
  exact d_in hu I hg ry fun s' I' => ⟨.bl _, H, I', rfl, q⟩
theorem op_ninDct (hu : X.A.units + 1 < cLine) : OpR X (compareOp .NotIn) (rInDct true) := by
  intro pins s σ H y x v u Q I ry rx h
  obtain ⟨a, o, rfl, hg, q⟩ := h
  cases rx
  exact d_notIn hu I hg ry fun s' I' => ⟨.bl _, H, I', rfl, q⟩
def rInSg (neg : Bool) : R2 := fun x y H Q => ∃ (c : Nat) (z : Str), x = .str ⟨#[c]⟩ ∧ y = .str z ∧ Q (.bl (if neg then !decide (c ∈ z.cps.toList) else decide (c ∈ z.cps.toList))) H
def rInM (K : PySem.W.Frag) (neg : Bool) : R2 := fun x y H Q =>
  (∃ d ds, Dp K H x d ∧ Dp K H y (.list ds) ∧ SeqAt.shaped d = true ∧ SeqAt.shaped (.list ds) = true ∧ Q (.bl (if neg then !ds.any (fun z => PyData.eqv z d) else ds.any fun z => PyData.eqv z d)) H) ∨
  (rIn K neg x y H Q ∨ (rInDct neg x y H Q ∨ rInSg neg x y H Q))
theorem op_inM (hK : X.K = k.K) (hu : X.A.units + 70 < cLine) : OpR X (compareOp .In) (rInM k.K false) := by
  rw [← hK]
  exact (op_inD (by omega)).or (op_in_seq.or ((op_inDct (by omega)).or op_in_sign))
theorem op_notInM (hK : X.K = k.K) (hu : X.A.units + 70 < cLine) : OpR X (compareOp .NotIn) (rInM k.K true) := by
  rw [← hK]
  exact (op_notInD (by omega)).or (op_notIn_seq.or ((op_ninDct (by omega)).or op_notIn_sign))
theorem okL_of {ys : List T} (h : T.okd 12 (.lst ys) = true) : T.okdL 12 ys = true := okdL_succ 11 ys h
theorem sgn_of {x : Str} (h : x.length = 1) : x = ⟨#[x.cps.getD 0 0]⟩ := by
  obtain ⟨⟨l⟩⟩ := x
  match l, h with
  | [c], _ => rfl
theorem in_any {x y z : T} {neg : Bool} {v w : V} {Q : VK} (S : SR k g env st σ H) (e : opIn x y = some z) (rx : RepB k g H x v) (ry : RepB k g H y w) (q : ∀ b, z = .bl b → Q (.bl (if neg then !b else b)) H) : rInM k.K neg v w H Q := by
  cases y with
  | lst ys =>
    have e : (if T.okd 12 x && T.okd 12 (.lst ys) then some (T.bl (memT x ys)) else none) = some z := by cases x <;> exact e
    split at e
    · rename_i hh
      cases e
      rw [Bool.and_eq_true] at hh
      refine .inl ⟨T.pd x, T.pdL ys, dp_ofB S.sub hh.1 rx, dp_ofB S.sub hh.2 ry, shaped_of hh.1, shaped_of hh.2, ?_⟩
      rw [mem_pd hh.1 (okL_of hh.2)]
      exact q _ rfl
    · cases e
  | tup ys =>
    have e : (if flatT x && ys.all flatT then some (T.bl (memT x ys)) else none) = some z := by cases x <;> exact e
    split at e
    · rename_i hh
      cases e
      rw [Bool.and_eq_true] at hh
      obtain ⟨a, vs, rfl, h1, r1⟩ := RepB.tup ry
      have e1 := vOf_eq hh.1 rx
      have e2 := vOfL_eq hh.2 r1
      subst e1 e2
      refine .inr (.inl ⟨a, _, rfl, .inr (S.tup h1), flat_vOf hh.1, flat_vOfL hh.2, ?_⟩)
      rw [mem_vOf hh.1 hh.2]
      exact q _ rfl
    · cases e
  | dct kvs =>
    have e : (if keyT x then some (T.bl (memT x (keysOf kvs))) else none) = some z := by cases x <;> exact e
    split at e
    · rename_i hh
      cases e
      obtain ⟨a, gs, rfl, h1, r1⟩ := RepB.dct S.sub ry
      obtain ⟨kk, hk, rfl⟩ := repK_of hh rx
      refine .inr (.inr (.inl ⟨a, valV gs kk, rfl, DGet.k h1, ?_⟩))
      rw [optRep_some (repE_get hk r1), ← repE_mem r1]
      exact q _ rfl
    · cases e
  | str y =>
    cases x with
    | str x =>
      have e : (if x.length = 1 then some (T.bl (y.cps.toList.contains (x.cps.getD 0 0))) else none) = some z := e
      split at e
      · rename_i hh
        cases e
        obtain rfl := rx.str
        obtain rfl := ry.str
        refine .inr (.inr (.inr ⟨x.cps.getD 0 0, y, by rw [← sgn_of hh], rfl, ?_⟩))
        have : decide (x.cps.getD 0 0 ∈ y.cps.toList) = y.cps.toList.contains (x.cps.getD 0 0) := by simp
        rw [this]
        exact q _ rfl
      · cases e
    | _ => cases e
  | _ => cases x <;> cases e
theorem ok_in : OpOk k (pF k) (rInM k.K false) (fun _ => opIn) := by
  intro st x y z e g env σ H v w Q S rx ry q
  refine in_any S e rx ry fun b hb => ?_
  subst hb
  exact q _ H ⟨g, Grow.refl S, rep_bl⟩
theorem ok_notIn : OpOk k (pF k) (rInM k.K true) (fun _ => opNotIn) := by
  intro st x y z e g env σ H v w Q S rx ry q
  have e : notB (opIn x y) = some z := e
  cases h : opIn x y with
  | none => rw [h] at e; cases e
  | some z' =>
    rw [h] at e
    cases z' with
    | bl b =>
      cases e
      refine in_any S h rx ry fun b' hb => ?_
      cases hb
      exact q _ H ⟨g, Grow.refl S, rep_bl⟩
    | _ => cases e
/-! ### d[k] -/
def rIxDct : R2 := fun x y H Q => ∃ a v, x = .ref a ∧ DGet H a y (some v) ∧ Q v H
theorem ix_dct (hu : X.A.units + 1 < cLine) : IxR X rIxDct := by
  intro value slice pins s σ H x y v u Q I rx ry h hs
  obtain ⟨a, w, rfl, hg, q⟩ := h
  cases rx
  exact tail_any (dict_typeIs I hg) PySem.F.slot_dict_getitem.lookup (d_getItem hu I hg ry fun w' s' I' rw' => ⟨w, H, I', rw', q⟩) hs
def rIxM (K : PySem.W.Frag) : R2 := fun x y H Q => rIx K x y H Q ∨ rIxDct x y H Q
theorem ix_M (hK : X.K = k.K) (hu : X.A.units + 70 < cLine) : IxR X (rIxM k.K) := by
  rw [← hK]
  exact ix_seq.or (ix_dct (by omega))
theorem ok_ixM : OpOk k (pV k) (rIxM k.K) opIx := by
  intro st x y z e g env σ H v w Q S rx ry q
  cases x with
  | dct kvs =>
    have e : (if keyT y then dget y kvs else none) = some z := e
    split at e
    · rename_i hh
      obtain ⟨a, gs, rfl, h1, r1⟩ := RepB.dct S.sub rx
      obtain ⟨kk, hk, rfl⟩ := repK_of hh ry
      have := repE_get hk r1
      rw [e] at this
      cases hv : valV gs kk with
      | none => rw [hv] at this; exact this.elim
      | some u =>
        rw [hv] at this
        refine .inr ⟨a, u, rfl, by rw [← hv]; exact DGet.k h1, q u H ⟨g, Grow.refl S, this⟩⟩
    · cases e
  | _ => exact .inl (ok_ix st _ y z e g env σ H v w Q S rx ry q)
end
end Mp


set_option Elab.async false
set_option linter.all false
set_option maxRecDepth 100000
set_option maxHeartbeats 1000000
/-! Ops4: sum, max, min, sorted of numbers; int, str; dict of pairs. -/
namespace Mp
open PySem PySem.Spec PyProof.Rows L2
section
variable {k : Gk} {X : Cx} {g : Gh} {env : En} {st : Store} {σ : L2.St} {H : Hp}
theorem ints_rep : ∀ {xs : List T} {ns : List Int} {vs : List V}, T.ints? xs = some ns → RepL k g xs vs → vs = ns.map V.int
  | [], ns, vs, h, r => by
    cases h
    exact RepL.nil.mp r
  | x :: xs, ns, vs, h, r => by
    cases x with
    | int i =>
      have h : (T.ints? xs).map (i :: ·) = some ns := h
      cases hx : T.ints? xs with
      | none => rw [hx] at h; cases h
      | some ms =>
        rw [hx] at h
        cases h
        obtain ⟨w, ws, rfl, r1, r2⟩ := RepL.cons.mp r
        have e1 : w = .int i := Rep.int r1
        rw [e1, ints_rep hx r2]
        rfl
    | _ => cases h
/-- a list's numbers stand in the heap -/
theorem intsL_of {x : T} {ns : List Int} {v : V} (S : SR k g env st σ H) (h : intsL st x = some ns) (r : RepB k g H x v) : ∃ a, v = .ref a ∧ SqL k.K H a (ns.map V.int) := by
  cases x with
  | lst xs =>
    obtain ⟨a, vs, rfl, h1, r1⟩ := r.lst S.sub
    have := ints_rep h r1
    subst this
    exact ⟨a, rfl, SqL.of h1⟩
  | obj n =>
    have h : (match st[n]? with
      | some (.lst xs) => T.ints? xs
      | _ => none) = some ns := h
    split at h
    · rename_i xs e
      obtain ⟨vs, h1, r1⟩ := S.cell n _ e
      have := ints_rep h r1
      subst this
      rcases r with r | ⟨a, e1, ow⟩
      · obtain ⟨e1, _⟩ := Rep.obj r
        exact ⟨g.α n, e1, SqL.of h1⟩
      · exact ow.elim
    · cases h
  | _ => cases h
theorem ok_sum : OpOk1 k (pF k) (fun x H Q => rSum k.K [x] H Q) sumT := by
  intro st x z e g env σ H v Q S rx q
  unfold sumT at e
  cases hi : intsL st x with
  | none => rw [hi] at e; cases e
  | some ns =>
    rw [hi] at e
    cases e
    obtain ⟨a, rfl, h⟩ := intsL_of S hi rx
    exact ⟨a, ns, rfl, h, q _ H ⟨g, Grow.refl S, rep_int⟩⟩
theorem maxL_max : ∀ {ns : List Int} {m : Int}, maxL ns = some m → m ∈ ns ∧ ∀ y ∈ ns, y ≤ m
  | [], m, h => by cases h
  | [x], m, h => by cases h; exact ⟨List.mem_singleton.mpr rfl, fun y hy => by rw [List.mem_singleton.mp hy]; exact Int.le_refl _⟩
  | x :: y :: r, m, h => by
    have h : (maxL (y :: r)).map (fun m => if x < m then m else x) = some m := h
    cases hm : maxL (y :: r) with
    | none => rw [hm] at h; cases h
    | some m' =>
      rw [hm] at h
      obtain ⟨h1, h2⟩ := maxL_max hm
      have h : (if x < m' then m' else x) = m := Option.some.inj h
      subst h
      refine ⟨?_, fun z hz => ?_⟩
      · split
        · exact List.mem_cons_of_mem _ h1
        · exact List.mem_cons_self
      · rcases List.mem_cons.mp hz with rfl | hz
        · split <;> omega
        · have := h2 z hz
          split <;> omega
theorem minL_min : ∀ {ns : List Int} {m : Int}, minL ns = some m → m ∈ ns ∧ ∀ y ∈ ns, m ≤ y
  | [], m, h => by cases h
  | [x], m, h => by cases h; exact ⟨List.mem_singleton.mpr rfl, fun y hy => by rw [List.mem_singleton.mp hy]; exact Int.le_refl _⟩
  | x :: y :: r, m, h => by
    have h : (minL (y :: r)).map (fun m => if m < x then m else x) = some m := h
    cases hm : minL (y :: r) with
    | none => rw [hm] at h; cases h
    | some m' =>
      rw [hm] at h
      obtain ⟨h1, h2⟩ := minL_min hm
      have h : (if m' < x then m' else x) = m := Option.some.inj h
      subst h
      refine ⟨?_, fun z hz => ?_⟩
      · split
        · exact List.mem_cons_of_mem _ h1
        · exact List.mem_cons_self
      · rcases List.mem_cons.mp hz with rfl | hz
        · split <;> omega
        · have := h2 z hz
          split <;> omega
theorem ok_max1 : OpOk1 k (pF k) (fun x H Q => rMax k.K [x] H Q) max1 := by
  intro st x z e g env σ H v Q S rx q
  unfold max1 at e
  cases hi : intsL st x with
  | none => rw [hi] at e; cases e
  | some ns =>
    rw [hi] at e
    have e : (maxL ns).map T.int = some z := e
    cases hm : maxL ns with
    | none => rw [hm] at e; cases e
    | some m =>
      rw [hm] at e
      cases e
      obtain ⟨a, rfl, h⟩ := intsL_of S hi rx
      obtain ⟨h1, h2⟩ := maxL_max hm
      refine ⟨a, ns, rfl, h, List.length_pos_of_mem h1, fun m' h3 h4 => ?_⟩
      have : m' = m := Int.le_antisymm (h2 m' h3) (h4 m h1)
      subst this
      exact q _ H ⟨g, Grow.refl S, rep_int⟩
theorem ok_min1 : OpOk1 k (pF k) (fun x H Q => rMin k.K [x] H Q) min1 := by
  intro st x z e g env σ H v Q S rx q
  unfold min1 at e
  cases hi : intsL st x with
  | none => rw [hi] at e; cases e
  | some ns =>
    rw [hi] at e
    have e : (minL ns).map T.int = some z := e
    cases hm : minL ns with
    | none => rw [hm] at e; cases e
    | some m =>
      rw [hm] at e
      cases e
      obtain ⟨a, rfl, h⟩ := intsL_of S hi rx
      obtain ⟨h1, h2⟩ := minL_min hm
      refine ⟨a, ns, rfl, h, List.length_pos_of_mem h1, fun m' h3 h4 => ?_⟩
      have : m' = m := Int.le_antisymm (h4 m h1) (h2 m' h3)
      subst this
      exact q _ H ⟨g, Grow.refl S, rep_int⟩
/-! ### sorted -/
theorem insI_perm (x : Int) : ∀ ys : List Int, (insI x ys).Perm (x :: ys)
  | [] => List.Perm.refl _
  | y :: ys => by
    unfold insI
    split
    · exact ((insI_perm x ys).cons y).trans (List.Perm.swap x y ys)
    · exact List.Perm.refl _
theorem sortI_perm : ∀ xs : List Int, (sortI xs).Perm xs
  | [] => List.Perm.refl _
  | x :: xs => (insI_perm x (sortI xs)).trans ((sortI_perm xs).cons x)
theorem insI_srt (x : Int) : ∀ {ys : List Int}, ys.Pairwise (· ≤ ·) → (insI x ys).Pairwise (· ≤ ·)
  | [], _ => by unfold insI; simp
  | y :: ys, h => by
    rw [List.pairwise_cons] at h
    unfold insI
    split
    · rename_i hlt
      refine List.pairwise_cons.mpr ⟨fun z hz => ?_, insI_srt x h.2⟩
      rcases List.mem_cons.mp ((insI_perm x ys).mem_iff.mp hz) with rfl | hz
      · omega
      · exact h.1 z hz
    · rename_i hge
      refine List.pairwise_cons.mpr ⟨fun z hz => ?_, List.pairwise_cons.mpr h⟩
      rcases List.mem_cons.mp hz with rfl | hz
      · omega
      · have := h.1 z hz
        omega
theorem sortI_srt : ∀ xs : List Int, (sortI xs).Pairwise (· ≤ ·)
  | [] => List.Pairwise.nil
  | x :: xs => insI_srt x (sortI_srt xs)
theorem srt_uniq : ∀ {xs ys : List Int}, xs.Perm ys → xs.Pairwise (· ≤ ·) → ys.Pairwise (· ≤ ·) → xs = ys
  | [], ys, p, _, _ => (List.Perm.eq_nil p.symm).symm
  | x :: xs, [], p, _, _ => absurd p.length_eq (by simp)
  | x :: xs, y :: ys, p, h1, h2 => by
    rw [List.pairwise_cons] at h1 h2
    have e : x = y := by
      have m1 : x ∈ y :: ys := p.mem_iff.mp List.mem_cons_self
      have m2 : y ∈ x :: xs := p.mem_iff.mpr List.mem_cons_self
      rcases List.mem_cons.mp m1 with e | m1
      · exact e
      · rcases List.mem_cons.mp m2 with e | m2
        · exact e.symm
        · exact Int.le_antisymm (h1.1 y m2) (h2.1 x m1)
    subst e
    rw [srt_uniq (p.cons_inv) h1.2 h2.2]
theorem rep_intL : ∀ ns : List Int, RepL k g (ns.map T.int) (ns.map V.int)
  | [] => RepL.nil.mpr rfl
  | n :: ns => RepL.cons.mpr ⟨_, _, rfl, rep_int, rep_intL ns⟩
theorem ok_sort : OpOk1 k (pF k) (fun x H Q => rSortedI k.K [x] H Q) sortT := by
  intro st x z e g env σ H v Q S rx q
  unfold sortT at e
  cases hi : intsL st x with
  | none => rw [hi] at e; cases e
  | some ns =>
    rw [hi] at e
    cases e
    obtain ⟨a, rfl, h⟩ := intsL_of S hi rx
    refine ⟨a, ns, rfl, h, fun ns' p h1 h2 hp => ?_⟩
    have : ns' = sortI ns := srt_uniq (h1.trans (sortI_perm ns).symm) h2 (sortI_srt ns)
    subst this
    exact q _ _ ⟨p, _, rfl, hp, rfl, rep_intL _⟩
/-! ### int, str -/
theorem ok_int : OpOk1 k (pF k) (fun x H Q => (∃ i, [x] = [V.int i] ∧ Q (.int i) H) ∨ ∃ b, [x] = [V.bl b] ∧ Q (.int (if b then 1 else 0)) H) (fun _ => intT) := by
  intro st x z e g env σ H v Q S rx q
  cases x with
  | int i => cases e; exact .inl ⟨i, by rw [rx.int], q _ H ⟨g, Grow.refl S, rep_int⟩⟩
  | bl b => cases e; exact .inr ⟨b, by rw [rx.bl], q _ H ⟨g, Grow.refl S, rep_int⟩⟩
  | _ => cases e
theorem log_of {i : Int} (h : i.natAbs < 10 ^ 500) : i.natAbs.log2 < 1920 := by
  by_cases h0 : i.natAbs = 0
  · rw [h0]; decide
  · rw [Nat.log2_lt h0]
    exact Nat.lt_of_lt_of_le h (by decide +kernel)
theorem ok_str : OpOk1 k (pF k) (fun x H Q => (∃ i, [x] = [V.int i] ∧ i.natAbs.log2 < 1920 ∧ Q (.str (toString i)) H) ∨ ∃ a, [x] = [V.str a] ∧ Q (.str a) H) (fun _ => strT) := by
  intro st x z e g env σ H v Q S rx q
  cases x with
  | int i =>
    have e : (if i.natAbs < 10 ^ 500 then some (T.str (toString i)) else none) = some z := e
    split at e
    · rename_i h
      cases e
      exact .inl ⟨i, by rw [rx.int], log_of h, q _ H ⟨g, Grow.refl S, rep_str⟩⟩
    · cases e
  | str s => cases e; exact .inr ⟨s, by rw [rx.str], q _ H ⟨g, Grow.refl S, rep_str⟩⟩
  | _ => cases e
/-! ### dict of pairs -/
theorem repE_any {kk : Key} {kt : T} (hk : RepK kk kt) : ∀ {kvs : List T} {gs : List (Key × V)}, RepE k g kvs gs → (gs.any fun kv => decide (kv.1 = kk)) = memT kt (keysOf kvs)
  | [], gs, r => by unfold RepE at r; subst r; rfl
  | .tup [k', v'] :: r, gs, q => by
    unfold RepE at q
    obtain ⟨k2, w, ws, rfl, q1, q2, q3⟩ := q
    show (decide (k2 = kk) || _) = (T.eqv k' kt || memT kt (keysOf r))
    rw [repK_eq q1 hk, repE_any hk q3]
  | .tup [] :: _, _, q => by simp [RepE] at q
  | .tup [_] :: _, _, q => by simp [RepE] at q
  | .tup (_ :: _ :: _ :: _) :: _, _, q => by simp [RepE] at q
  | .non :: _, _, q => by simp [RepE] at q
  | .bl _ :: _, _, q => by simp [RepE] at q
  | .int _ :: _, _, q => by simp [RepE] at q
  | .str _ :: _, _, q => by simp [RepE] at q
  | .lst _ :: _, _, q => by simp [RepE] at q
  | .dct _ :: _, _, q => by simp [RepE] at q
  | .set _ :: _, _, q => by simp [RepE] at q
  | .ins _ _ _ :: _, _, q => by simp [RepE] at q
  | .obj _ :: _, _, q => by simp [RepE] at q
theorem repE_map {kk : Key} {kt vt : T} {w : V} (hk : RepK kk kt) (hv : Rep k g vt w) : ∀ {kvs : List T} {gs : List (Key × V)}, RepE k g kvs gs → RepE k g (dputM kt vt kvs) (gs.map fun kv => if kv.1 = kk then (kv.1, w) else kv)
  | [], gs, r => by unfold RepE at r; subst r; unfold dputM RepE; rfl
  | .tup [k', v'] :: r, gs, q => by
    unfold RepE at q
    obtain ⟨k2, u, ws, rfl, q1, q2, q3⟩ := q
    have e := repK_eq q1 hk
    unfold dputM
    rw [List.map_cons]
    cases h : T.eqv k' kt with
    | true =>
      rw [h] at e
      have e := of_decide_eq_true e
      simp only [if_pos e, if_true]
      unfold RepE
      exact ⟨k2, w, _, rfl, q1, hv, repE_map hk hv q3⟩
    | false =>
      rw [h] at e
      have e := of_decide_eq_false e
      simp only [if_neg e]
      unfold RepE
      exact ⟨k2, u, _, rfl, q1, q2, repE_map hk hv q3⟩
  | .tup [] :: _, _, q => by simp [RepE] at q
  | .tup [_] :: _, _, q => by simp [RepE] at q
  | .tup (_ :: _ :: _ :: _) :: _, _, q => by simp [RepE] at q
  | .non :: _, _, q => by simp [RepE] at q
  | .bl _ :: _, _, q => by simp [RepE] at q
  | .int _ :: _, _, q => by simp [RepE] at q
  | .str _ :: _, _, q => by simp [RepE] at q
  | .lst _ :: _, _, q => by simp [RepE] at q
  | .dct _ :: _, _, q => by simp [RepE] at q
  | .set _ :: _, _, q => by simp [RepE] at q
  | .ins _ _ _ :: _, _, q => by simp [RepE] at q
  | .obj _ :: _, _, q => by simp [RepE] at q
theorem repE_snoc {kk : Key} {kt vt : T} {w : V} (hk : RepK kk kt) (hv : Rep k g vt w) : ∀ {kvs : List T} {gs : List (Key × V)}, RepE k g kvs gs → RepE k g (kvs ++ [.tup [kt, vt]]) (gs ++ [(kk, w)])
  | [], gs, r => by
    unfold RepE at r
    subst r
    show RepE k g [.tup [kt, vt]] [(kk, w)]
    unfold RepE
    exact ⟨kk, w, [], rfl, hk, hv, by unfold RepE; rfl⟩
  | .tup [k', v'] :: r, gs, q => by
    unfold RepE at q
    obtain ⟨k2, u, ws, rfl, q1, q2, q3⟩ := q
    show RepE k g (.tup [k', v'] :: (r ++ [.tup [kt, vt]])) ((k2, u) :: (ws ++ [(kk, w)]))
    unfold RepE
    exact ⟨k2, u, _, rfl, q1, q2, repE_snoc hk hv q3⟩
  | .tup [] :: _, _, q => by simp [RepE] at q
  | .tup [_] :: _, _, q => by simp [RepE] at q
  | .tup (_ :: _ :: _ :: _) :: _, _, q => by simp [RepE] at q
  | .non :: _, _, q => by simp [RepE] at q
  | .bl _ :: _, _, q => by simp [RepE] at q
  | .int _ :: _, _, q => by simp [RepE] at q
  | .str _ :: _, _, q => by simp [RepE] at q
  | .lst _ :: _, _, q => by simp [RepE] at q
  | .dct _ :: _, _, q => by simp [RepE] at q
  | .set _ :: _, _, q => by simp [RepE] at q
  | .ins _ _ _ :: _, _, q => by simp [RepE] at q
  | .obj _ :: _, _, q => by simp [RepE] at q
theorem repE_put {kk : Key} {kt vt : T} {w : V} (hk : RepK kk kt) (hv : Rep k g vt w) {kvs : List T} {gs : List (Key × V)} (r : RepE k g kvs gs) : RepE k g (dput kt vt kvs) (putK gs kk w) := by
  unfold dput putK
  rw [repE_any hk r]
  split
  · exact repE_map hk hv r
  · exact repE_snoc hk hv r
theorem repE_all : ∀ {ps : List T} {kvs : List (Key × V)} {acc : List T} {gs : List (Key × V)}, RepE k g acc gs → RepE k g ps kvs → RepE k g (putAll acc ps) (mergeK gs kvs)
  | [], kvs, acc, gs, r, q => by unfold RepE at q; subst q; exact r
  | .tup [k', v'] :: r, kvs, acc, gs, ra, q => by
    unfold RepE at q
    obtain ⟨k2, u, ws, rfl, q1, q2, q3⟩ := q
    have := repE_all (repE_put q1 q2 ra) q3
    exact this
  | .tup [] :: _, _, _, _, _, q => by simp [RepE] at q
  | .tup [_] :: _, _, _, _, _, q => by simp [RepE] at q
  | .tup (_ :: _ :: _ :: _) :: _, _, _, _, _, q => by simp [RepE] at q
  | .non :: _, _, _, _, _, q => by simp [RepE] at q
  | .bl _ :: _, _, _, _, _, q => by simp [RepE] at q
  | .int _ :: _, _, _, _, _, q => by simp [RepE] at q
  | .str _ :: _, _, _, _, _, q => by simp [RepE] at q
  | .lst _ :: _, _, _, _, _, q => by simp [RepE] at q
  | .dct _ :: _, _, _, _, _, q => by simp [RepE] at q
  | .set _ :: _, _, _, _, _, q => by simp [RepE] at q
  | .ins _ _ _ :: _, _, _, _, _, q => by simp [RepE] at q
  | .obj _ :: _, _, _, _, _, q => by simp [RepE] at q
theorem pairs_of (S : SR k g env st σ H) : ∀ {xs ps : List T} {vs : List V}, pairs? xs = some ps → (keysOf ps).all keyT = true → RepL k g xs vs → ∃ as kvs, vs = as.map V.ref ∧ Paired (fun p kv => SqT k.K H p [kV kv.1, kv.2]) as kvs ∧ RepE k g ps kvs
  | [], ps, vs, h, _, r => by
    cases h
    have := RepL.nil.mp r
    subst this
    exact ⟨[], [], rfl, .nil, by unfold RepE; rfl⟩
  | x :: xs, ps, vs, h, ha, r => by
    obtain ⟨w, ws, rfl, r1, r2⟩ := RepL.cons.mp r
    match x, h with
    | .tup [kt, vt], h =>
      have h : (pairs? xs).map (.tup [kt, vt] :: ·) = some ps := h
      cases hp : pairs? xs with
      | none => rw [hp] at h; cases h
      | some qs =>
        rw [hp] at h
        cases h
        have ha : (keyT kt && (keysOf qs).all keyT) = true := ha
        rw [Bool.and_eq_true] at ha
        obtain ⟨as, kvs, rfl, p1, e1⟩ := pairs_of S hp ha.2 r2
        obtain ⟨a, us, rfl, hs, ru⟩ := Rep.tup r1
        obtain ⟨u1, us', rfl, ra, rb⟩ := RepL.cons.mp ru
        obtain ⟨u2, us'', rfl, rc, rd⟩ := RepL.cons.mp rb
        have := RepL.nil.mp rd
        subst this
        obtain ⟨kk, hk, rfl⟩ := repK_of (H := H) ha.1 (.inl ra)
        exact ⟨a :: as, (kk, u2) :: kvs, rfl, .cons (S.tup hs) p1, by unfold RepE; exact ⟨kk, u2, kvs, rfl, hk, rc, e1⟩⟩
def rDictP (K : PySem.W.Frag) : V → Hp → VK → Prop := fun x H Q => ∃ (a : Addr) (ps : List Addr) (kvs : List (Key × V)), [x] = [V.ref a] ∧ SqL K H a (ps.map V.ref) ∧ Paired (fun p kv => SqT K H p [kV kv.1, kv.2]) ps kvs ∧ ∀ p, H p = none → Q (.ref p) (upd H p (.dK (mergeK [] kvs)))
theorem ok_dict : OpOk1 k (pF k) (rDictP k.K) (fun _ => dictT) := by
  intro st x z e g env σ H v Q S rx q
  cases x with
  | lst xs =>
    have e : ((pairs? xs).bind fun ps => if (keysOf ps).all keyT && decide (ps.length ≤ 100000) then some (.dct (putAll [] ps)) else none) = some z := e
    cases hp : pairs? xs with
    | none => rw [hp] at e; cases e
    | some ps =>
      rw [hp] at e
      have e : (if (keysOf ps).all keyT && decide (ps.length ≤ 100000) then some (T.dct (putAll [] ps)) else none) = some z := e
      split at e
      · rename_i hh
        cases e
        rw [Bool.and_eq_true] at hh
        obtain ⟨a, vs, rfl, h, r⟩ := rx.lst S.sub
        obtain ⟨as, kvs, rfl, p1, e1⟩ := pairs_of S hp hh.1 r
        refine ⟨a, as, kvs, rfl, SqL.of h, p1, fun p hp => q _ _ ⟨p, _, rfl, hp, rfl, repE_all (acc := []) (gs := []) (by unfold RepE; rfl) e1⟩⟩
      · cases e
  | _ => cases e
end
end Mp


set_option Elab.async false
set_option linter.all false
set_option maxRecDepth 100000
set_option maxHeartbeats 1000000
/-! Sx2: slices, what is walked, comprehensions, calls. -/
namespace Mp
open PySem PySem.Spec PyProof.Rows L2
def rP : Rdg T (Option Int) := fun _ _ _ _ _ _ t o => PartO t o
theorem m0P : Mono0 rP := fun _ _ _ _ _ _ _ _ _ _ q => q
section
variable {k : Gk} {W : L2.WX} {X : Cx} {α β : Type} {g g1 : Gh} {env : En} {st st1 : Store} {σ : L2.St} {H H1 : Hp}
/-! ### slices -/
theorem PO.imp {X : Cx} {e : Option Expr} {t t' : TO} (h : PO X e t) (i : ∀ σ H Q, t' σ H Q → t σ H Q) : PO X e t' := ⟨fun pins s σ H Q I q => h.run pins s σ H Q I (i σ H Q q)⟩
theorem sx_none {e : Option Expr} (h : PO X e tNoPart) : PO X e (tR k W rP (con .non)) :=
  Mp.PO.imp h fun σ H Q ⟨g, env, st, S, q⟩ => q none H g Ext.refl S (.inl ⟨rfl, rfl⟩)
theorem sx_part {e : Option Expr} {f : EvT} (h : PO X e (tPart (tV k W f))) : PO X e (tR k W rP (f.bind asPart)) := by
  refine Mp.PO.imp h fun σ H Q ⟨g, env, st, S, q⟩ => ⟨g, env, st, S, (q.bind (R1 := rV k) m0P).imp fun v H1 ⟨x, st1, g1, x1, S1, r1, q1⟩ => ?_⟩
  cases x with
  | int i => exact ⟨i, Rep.int r1, After.pure (a := T.int i) (R := rP) S1 q1 (.inr ⟨i, rfl, rfl⟩)⟩
  | _ => exact q1.elim
theorem sx_cut {fa fl fh : EvT} {e : Expr} (h : PE X e (tSl (rCutM k.K) (tS k W fa) (tR k W rP fl) (tR k W rP fh))) : PE X e (tF k W (ev3S opCut fa fl fh)) := by
  refine Mp.PE.imp h fun σ H Q ⟨g, env, st, S, q⟩ => ⟨g, env, st, S, (q.bind (R1 := rS k) m0F).imp fun v H1 ⟨x, st1, g1, x1, S1, r1, q1⟩ => ⟨g1, env, st1, S1, (q1.bind (R1 := rP) m0F).imp fun ol H2 ⟨tl, st2, g2, x2, S2, r2, q2⟩ => ⟨g2, env, st2, S2, (q2.bind (R1 := rP) m0F).imp fun oh H3 ⟨th, st3, g3, x3, S3, r3, q3⟩ => ?_⟩⟩⟩
  obtain ⟨z, eo, q4⟩ := After.opt (o := opCut st3 x tl th) q3
  have rx : RepB k g3 H3 x v := rS.b S3 (rS.mono (st1 := st3) (H0' := H) (H1 := H3) (x2.le.trans x3.le) r1)
  refine ok_cut S3 rx r2 r3 eo fun u H' pz => ?_
  obtain ⟨g', x4, S4, r4⟩ := post_F g3 env st3 σ H3 H3 z u H' S3 (fun _ h => h) pz
  exact q4 u H' g' x4 S4 r4

/-! ### what is walked -/
/-- the walk J goes over the values of xs -/
def ItOk (k : Gk) (g : Gh) (xs : List T) (J : It) : Prop := ∀ (i : Nat) (g1 : Gh) (env1 : En) (st1 : Store) (σ1 : L2.St) (H1 : Hp), GLe g g1 → SR k g1 env1 st1 σ1 H1 →
  (∀ t, xs[i]? = some t → J.go i H1 ∧ ∀ v H2, J.yld i H1 v H2 → ∃ g2, Grow g1 H1 g2 H2 ∧ Rep k g2 t v) ∧ (xs.length ≤ i → J.stop i H1)
def rI (k : Gk) : Rdg (List T) It := fun _ _ _ _ g _ xs J => ItOk k g xs J
theorem m0I : Mono0 (rI k) := fun _ _ _ _ _ _ _ _ _ _ q => q
abbrev tI (k : Gk) (W : L2.WX) (f : EvI) : TI := tR k W (rI k) f
theorem ItOk.list {xs : List T} {a : Addr} {vs : List V} (h : g.F a = some (.lst vs)) (r : RepL k g xs vs) : ItOk k g xs (Itl k.K a) := by
  intro i g1 env1 st1 σ1 H1 le S
  have hH : SqL k.K H1 a vs := SqL.of (S.sub _ _ (le.f _ _ h))
  refine ⟨fun t e => ?_, fun hi => ⟨vs, hH, by rw [← r.length]; exact hi⟩⟩
  obtain ⟨w, e1, r1⟩ := r.get e
  refine ⟨⟨vs, w, hH, e1⟩, fun v H2 ⟨e2, y⟩ => ?_⟩
  have := y vs hH
  rw [e1] at this
  cases this
  rw [e2]
  exact ⟨g1, Grow.refl S, Rep.mono le _ _ r1⟩
theorem ItOk.tup {xs : List T} {a : Addr} {vs : List V} (h : SqT k.K g.F a vs) (r : RepL k g xs vs) : ItOk k g xs (Itt k.K a) := by
  intro i g1 env1 st1 σ1 H1 le S
  have hH : SqT k.K H1 a vs := S.tup (Mp.SqT.fmono le.f h)
  refine ⟨fun t e => ?_, fun hi => ⟨vs, hH, by rw [← r.length]; exact hi⟩⟩
  obtain ⟨w, e1, r1⟩ := r.get e
  refine ⟨⟨vs, w, hH, e1⟩, fun v H2 ⟨e2, y⟩ => ?_⟩
  have := y vs hH
  rw [e1] at this
  cases this
  rw [e2]
  exact ⟨g1, Grow.refl S, Rep.mono le _ _ r1⟩
theorem rangeL_get : ∀ {n : Nat} {lo : Int} {i : Nat} {t : T}, (rangeL lo n)[i]? = some t → i < n ∧ t = .int (lo + i)
  | 0, lo, i, t, e => by simp [rangeL] at e
  | n + 1, lo, 0, t, e => by
    simp [rangeL] at e
    subst e
    exact ⟨Nat.succ_pos n, by simp⟩
  | n + 1, lo, i + 1, t, e => by
    simp [rangeL] at e
    obtain ⟨h1, h2⟩ := rangeL_get e
    exact ⟨by omega, by rw [h2]; congr 1; omega⟩
theorem rangeL_length : ∀ (n : Nat) (lo : Int), (rangeL lo n).length = n
  | 0, lo => rfl
  | n + 1, lo => by simp [rangeL, rangeL_length n]
theorem ItOk.range {lo : Int} {n : Nat} : ItOk k g (rangeL lo n) (Itr lo n) := by
  intro i g1 env1 st1 σ1 H1 le S
  refine ⟨fun t e => ?_, fun hi => by rw [rangeL_length] at hi; exact hi⟩
  obtain ⟨h1, rfl⟩ := rangeL_get e
  refine ⟨h1, fun v H2 ⟨e2, y⟩ => ?_⟩
  rw [e2, y]
  exact ⟨g1, Grow.refl S, rep_int⟩
/-- a list or a tuple, by its value -/
def iSeq (K : PySem.W.Frag) (tl : TE) : TI := fun σ H R => tl σ H fun x H1 => (∃ a, x = .ref a ∧ (∃ xs, SqL K H1 a xs) ∧ R (Itl K a) H1) ∨ ∃ a, x = .ref a ∧ (∃ xs, SqT K H1 a xs) ∧ R (Itt K a) H1
theorem pi_seq {tg l : Expr} {tl : TE} (hl : PE X l tl) : PI X tg l (iSeq X.K tl) := by
  refine ⟨fun pins s σ H R I h => ?_⟩
  refine thn (hl.run pins s σ H _ I h) fun v s1 ⟨x, H1, I1, r1, q1⟩ => ?_
  rcases q1 with q1 | q1
  · obtain ⟨a, e, ⟨xs, hq⟩, q⟩ := q1
    subst e
    cases r1
    obtain ⟨its, rv, p, hz⟩ := I1.list hq
    refine wpAny_pyIter_list p.isList ?_
    refine ⟨s1.heap.objs.size, [s1.heap.objs.size], _, _, H1, rfl, I1.kept (t' := s1.toks) fun b o e => Heap.get?_push_of_some _ e, turn_list a _, ⟨_, Heap.get?_push_size _ rfl, rfl, rfl⟩, fun b hb => ?_, q⟩
    have e : b = s1.heap.objs.size := by simpa using hb
    subst e
    exact I1.fpOk (Nat.le_refl _) (I1.hok.fresh (Nat.le_refl _))
  · obtain ⟨a, e, ⟨xs, hq⟩, q⟩ := q1
    subst e
    cases r1
    obtain ⟨its, rv, p, hz⟩ := I1.tuple hq
    refine wpAny_pyIter_tuple (show s1.heap.IsTuple a its.toArray from p) ?_
    refine ⟨s1.heap.objs.size, [s1.heap.objs.size], _, _, H1, rfl, I1.kept (t' := s1.toks) fun b o e => Heap.get?_push_of_some _ e, turn_tuple a _, ⟨_, Heap.get?_push_size _ rfl, rfl, rfl⟩, fun b hb => ?_, q⟩
    have e : b = s1.heap.objs.size := by simpa using hb
    subst e
    exact I1.fpOk (Nat.le_refl _) (I1.hok.fresh (Nat.le_refl _))
theorem sx_itSeq {tg e : Expr} {f : EvT} (h : PI X tg e (iSeq k.K (tV k W f))) : PI X tg e (tI k W (itSeq f)) := by
  refine Mp.PI.imp h fun σ H Q ⟨g, env, st, S, q⟩ => ⟨g, env, st, S, (q.bind (R1 := rV k) m0I).imp fun v H1 ⟨x, st1, g1, x1, S1, r1, q1⟩ => ?_⟩
  cases x with
  | lst xs =>
    obtain ⟨a, vs, rfl, h, r⟩ := Rep.lst r1
    exact .inl ⟨a, rfl, ⟨vs, SqL.of (S1.sub _ _ h)⟩, After.pure (a := xs) (R := rI k) S1 q1 (ItOk.list h r)⟩
  | tup xs =>
    obtain ⟨a, vs, rfl, h, r⟩ := Rep.tup r1
    exact .inr ⟨a, rfl, ⟨vs, S1.tup h⟩, After.pure (a := xs) (R := rI k) S1 q1 (ItOk.tup h r)⟩
  | obj n =>
    obtain ⟨rfl, hn⟩ := Rep.obj r1
    have q1 : After k W (rI k) σ env g1 st1 H1 Q (match st1[n]? with
      | some (.lst xs) => (.ok xs (st1.set n .no) : Out (List T))
      | _ => .bad) := q1
    split at q1
    · rename_i xs hc
      obtain ⟨g2, S2, x2, vs, h, r⟩ := S1.freezeL hc
      exact .inl ⟨g1.α n, rfl, ⟨vs, SqL.of (S2.sub _ _ h)⟩, q1 _ H1 g2 x2 S2 (ItOk.list h r)⟩
    · exact q1.elim
  | _ => exact q1.elim
theorem enumL_get : ∀ {xs : List T} {j : Int} {i : Nat} {t : T}, (enumL j xs)[i]? = some t → ∃ x, xs[i]? = some x ∧ t = .tup [.int (j + i), x]
  | [], j, i, t, h => by simp [enumL] at h
  | x :: xs, j, 0, t, h => by
    simp [enumL] at h
    exact ⟨x, rfl, by rw [← h]; simp⟩
  | x :: xs, j, i + 1, t, h => by
    simp [enumL] at h
    obtain ⟨y, h1, h2⟩ := enumL_get h
    exact ⟨y, by simpa using h1, by rw [h2]; congr 2; congr 1; omega⟩
theorem enumL_length : ∀ (xs : List T) (j : Int), (enumL j xs).length = xs.length
  | [], _ => rfl
  | _ :: xs, j => by simp [enumL, enumL_length xs]
theorem ItOk.enum {xs : List T} {a : Addr} {vs : List V} (h : g.F a = some (.lst vs)) (r : RepL k g xs vs) : ItOk k g (enumL 0 xs) (Ite k.K a) := by
  intro i g1 env1 st1 σ1 H1 le S
  have hH : SqL k.K H1 a vs := SqL.of (S.sub _ _ (le.f _ _ h))
  refine ⟨fun t e => ?_, fun hi => ⟨vs, hH, by rw [enumL_length] at hi; rw [← r.length]; exact hi⟩⟩
  obtain ⟨x, ex, rfl⟩ := enumL_get e
  obtain ⟨w, e1, r1⟩ := r.get ex
  refine ⟨⟨vs, w, hH, e1⟩, fun v H2 ⟨p, y, ev, hp, eH, hy⟩ => ?_⟩
  have := hy vs hH
  rw [e1] at this
  cases this
  subst ev eH
  have G := Grow.one S (o := .tup [.int (i : Nat), w]) hp
  refine ⟨_, G, ?_⟩
  unfold Rep
  refine ⟨p, [.int (i : Nat), w], rfl, .inl (.inl upd_same), RepL.cons.mpr ⟨_, _, rfl, by simp; exact rep_int, RepL.one (Rep.mono (le.trans G.le) _ _ r1)⟩⟩
theorem sx_itRng1 {tg e : Expr} {f : EvT} (h : PI X tg e (iRng1 (tCons (tV k W f) tNil))) : PI X tg e (tI k W (itRng1 f)) := by
  refine Mp.PI.imp h fun σ H Q ⟨g, env, st, S, q⟩ => ⟨g, env, st, S, (q.bind (R1 := rV k) m0I).imp fun v H1 ⟨x, st1, g1, x1, S1, r1, q1⟩ => ?_⟩
  cases x with
  | int j =>
    have q1 : After k W (rI k) σ env g1 st1 H1 Q ((if j < 2 ^ 60 ∧ -(2 ^ 60) < j then Ev.pure (rangeL 0 j.toNat) else Ev.bad) env st1) := q1
    split at q1
    · rename_i hj
      obtain rfl := Rep.int r1
      exact ⟨j, rfl, by omega, by omega, After.pure (a := rangeL 0 j.toNat) (R := rI k) S1 q1 ItOk.range⟩
    · exact q1.elim
  | _ => exact q1.elim
theorem sx_itRng2 {tg e : Expr} {f f2 : EvT} (h : PI X tg e (iRng2 (tCons (tV k W f) (tCons (tV k W f2) tNil)))) : PI X tg e (tI k W (itRng2 f f2)) := by
  refine Mp.PI.imp h fun σ H Q ⟨g, env, st, S, q⟩ => ⟨g, env, st, S, (q.bind (R1 := rV k) m0I).imp fun v H1 ⟨x, st1, g1, x1, S1, r1, q1⟩ => ⟨g1, env, st1, S1, (q1.bind (R1 := rV k) m0I).imp fun w H2 ⟨y, st2, g2, x2, S2, r2, q2⟩ => ?_⟩⟩
  cases x with
  | int i =>
    cases y with
    | int j =>
      have q2 : After k W (rI k) σ env g2 st2 H2 Q ((if (j < 2 ^ 60 ∧ -(2 ^ 60) < j) ∧ i < 2 ^ 60 ∧ -(2 ^ 60) < i then Ev.pure (rangeL i (j - i).toNat) else Ev.bad) env st2) := q2
      split at q2
      · rename_i hj
        obtain rfl := Rep.int r1
        obtain rfl := Rep.int r2
        exact ⟨i, j, rfl, ⟨by omega, by omega, by omega, by omega⟩, After.pure (a := rangeL i (j - i).toNat) (R := rI k) S2 q2 ItOk.range⟩
      · exact q2.elim
    | _ => exact q2.elim
  | _ => exact q2.elim

/-! ### targets -/
/-- what a target's store does; P: the slots that it may set -/
def GOk (k : Gk) (P : Nat → Prop) (g : Tg) (t : TG) : Prop := ∀ (x : T) (env env' : En), Tg.put g x env = some env' → ∀ (g0 : Gh) (st : Store) (σ : L2.St) (H : Hp) (v : V) (Q : L2.St → Hp → Prop), SR k g0 env st σ H → Rep k g0 x v →
  (∀ σ', SR k g0 env' st σ' H → Ext g0 env st σ H g0 env' st σ' H → (∀ j, ¬ P j → σ'[j]? = σ[j]? ∧ env'[j]? = env[j]?) → σ'.length = σ.length → Q σ' H) → t v σ H Q
def GsOk (k : Gk) (P : Nat → Prop) (gs : List Tg) (t : TGs) : Prop := ∀ (xs : List T) (env env' : En), Tg.putL gs xs env = some env' → ∀ (g0 : Gh) (st : Store) (σ : L2.St) (H : Hp) (vs : List V) (Q : L2.St → Hp → Prop), SR k g0 env st σ H → RepL k g0 xs vs →
  (∀ σ', SR k g0 env' st σ' H → Ext g0 env st σ H g0 env' st σ' H → (∀ j, ¬ P j → σ'[j]? = σ[j]? ∧ env'[j]? = env[j]?) → σ'.length = σ.length → Q σ' H) → t vs σ H Q
section
variable {P : Nat → Prop}
theorem gok_name {i : Nat} (hi : P i) : GOk k P (.name i) (gName i) := by
  intro x env env' e g0 st σ H v Q S r q
  cases e
  obtain ⟨S', x'⟩ := S.setFr i r
  refine q _ S' x' (fun j hj => ?_) (by simp)
  have : i ≠ j := fun z => hj (z ▸ hi)
  rw [List.getElem?_set_ne this, List.getElem?_set_ne this]
  exact ⟨rfl, rfl⟩
theorem gsok_nil : GsOk k P [] gNil := by
  intro xs env env' e g0 st σ H vs Q S r q
  cases xs with
  | nil =>
    cases e
    exact ⟨RepL.nil.mp r, q σ S Ext.refl (fun _ _ => ⟨rfl, rfl⟩) rfl⟩
  | cons a b => cases e
theorem gsok_cons {g : Tg} {gs : List Tg} {t : TG} {u : TGs} (h1 : GOk k P g t) (h2 : GsOk k P gs u) : GsOk k P (g :: gs) (gCons t u) := by
  intro xs env env' e g0 st σ H vs Q S r q
  cases xs with
  | nil => cases e
  | cons a b =>
    have e : (Tg.put g a env).bind (fun env' => Tg.putL gs b env') = some env' := e
    cases h : Tg.put g a env with
    | none => rw [h] at e; cases e
    | some env1 =>
      rw [h] at e
      obtain ⟨w, ws, rfl, r1, r2⟩ := RepL.cons.mp r
      exact ⟨w, ws, rfl, h1 a env env1 h g0 st σ H w _ S r1 fun σ1 S1 x1 k1 l1 => h2 b env1 env' e g0 st σ1 H ws Q S1 r2 fun σ2 S2 x2 k2 l2 => q σ2 S2 (x1.trans x2) (fun j hj => ⟨(k2 j hj).1.trans (k1 j hj).1, (k2 j hj).2.trans (k1 j hj).2⟩) (l2.trans l1)⟩
theorem putL_len : ∀ (gs : List Tg) (ts : List T) (env env' : En), Tg.putL gs ts env = some env' → ts.length = gs.length
  | [], [], _, _, _ => rfl
  | [], _ :: _, _, _, e => by cases e
  | _ :: _, [], _, _, e => by cases e
  | g :: gs, t :: ts, env, env', e => by
    have e : (Tg.put g t env).bind (fun env' => Tg.putL gs ts env') = some env' := e
    cases h : Tg.put g t env with
    | none => rw [h] at e; cases e
    | some env1 =>
      rw [h] at e
      simp [putL_len gs ts env1 env' e]
theorem gok_tup {gs : List Tg} {u : TGs} {n : Nat} (h : GsOk k P gs u) (hn : n = gs.length) : GOk k P (.tup gs) (gTup k.K n u) := by
  intro x env env' e g0 st σ H v Q S r q
  cases x with
  | tup ts =>
    obtain ⟨a, vs, rfl, hs, r⟩ := r.tup
    have e : Tg.putL gs ts env = some env' := e
    exact ⟨a, vs, rfl, S.tup hs, by rw [hn, ← r.length, putL_len _ _ _ _ e], h ts env env' e g0 st σ H vs Q S r q⟩
  | _ => cases e
end

/-! ### comprehensions -/
theorem wipe_in {σ : L2.St} {i : Nat} : ∀ {vs : List Nat}, i ∈ vs → (L2.wipe σ vs)[i]? = none ∨ (L2.wipe σ vs)[i]? = some none
  | v :: vs, h => by
    unfold L2.wipe
    by_cases e : v = i
    · subst e
      rw [List.getElem?_set_self']
      cases (L2.wipe σ vs)[v]? with
      | none => exact .inl rfl
      | some w => exact .inr rfl
    · rw [List.getElem?_set_ne e]
      rcases List.mem_cons.mp h with z | z
      · exact absurd z.symm e
      · exact wipe_in z
theorem wipeE_in {env : En} {i : Nat} : ∀ {vs : List Nat}, i ∈ vs → (wipeE vs env)[i]? = none ∨ (wipeE vs env)[i]? = some .no
  | v :: vs, h => by
    unfold wipeE
    by_cases e : v = i
    · subst e
      rw [List.getElem?_set_self']
      cases (wipeE vs env)[v]? with
      | none => exact .inl rfl
      | some w => exact .inr rfl
    · rw [List.getElem?_set_ne e]
      rcases List.mem_cons.mp h with z | z
      · exact absurd z.symm e
      · exact wipeE_in z
theorem wipe_eq {σ σ2 : L2.St} {vs : List Nat} (hl : σ2.length = σ.length) (h : ∀ j, ¬ j ∈ vs → σ2[j]? = (L2.wipe σ vs)[j]?) : L2.wipe σ2 vs = L2.wipe σ vs := by
  apply List.ext_getElem?
  intro j
  by_cases hj : j ∈ vs
  · have l1 := L2.wipe_length σ vs
    have l2 := L2.wipe_length σ2 vs
    by_cases hlt : j < σ.length
    · rcases wipe_in (σ := σ2) hj with e | e
      · rw [List.getElem?_eq_none_iff] at e; omega
      · rcases wipe_in (σ := σ) hj with e' | e'
        · rw [List.getElem?_eq_none_iff] at e'; omega
        · rw [e, e']
    · rw [List.getElem?_eq_none (by omega), List.getElem?_eq_none (by omega)]
  · rw [L2.wipe_out hj]
    exact h j hj
abbrev WF : L2.WX := fun _ _ _ _ => False
/-- the walk as it stands within a block -/
def rIc (k : Gk) (vs : List Nat) : Rdg (List T) It := fun _ env _ σ g _ xs J => ∀ (i : Nat) (g1 : Gh) (st1 : Store) (H1 : Hp), GLe g g1 → SR k g1 (wipeE vs env) st1 (L2.wipe σ vs) H1 →
  (∀ t, xs[i]? = some t → J.go i H1 ∧ ∀ v H2, J.yld i H1 v H2 → ∃ g2, Grow g1 H1 g2 H2 ∧ Rep k g2 t v) ∧ (xs.length ≤ i → J.stop i H1)
theorem m0Ic {vs : List Nat} : Mono0 (rIc k vs) := fun _ _ _ _ _ _ _ _ _ _ q => q
theorem pi_toC {tg e : Expr} {f : EvI} {vs : List Nat} (h : PI X tg e (tI k W f)) : PI X tg e (tR k W (rIc k vs) f) :=
  Mp.PI.imp h fun σ H Q q => tR.imp (fun env st σ g H0 H t v S r i g1 st1 H1 le S1 => r i g1 _ st1 _ H1 le S1) q
theorem wipeE_out {env : En} {i : Nat} : ∀ {vs : List Nat}, ¬ i ∈ vs → (wipeE vs env)[i]? = env[i]?
  | [], _ => rfl
  | v :: vs, h => by
    unfold wipeE
    have hne : v ≠ i := fun z => h (by rw [z]; exact List.mem_cons_self)
    rw [List.getElem?_set_ne hne, wipeE_out fun z => h (List.mem_cons_of_mem _ z)]
/-- a list of one's own, walked where it stands -/
theorem pi_own {tg e : Expr} {i : Nat} {vs : List Nat} (hv : ¬ i ∈ vs) (h : PI X tg e (iSeq k.K (tVar i))) : PI X tg e (tR k W (rIc k vs) (itSeq (peek i))) := by
  refine Mp.PI.imp h fun σ H Q ⟨g, env, st, S, q⟩ => ?_
  cases e : env[i]? with
  | none => simp only [itSeq, Ev.bind, peek, e] at q; exact q.elim
  | some sl =>
    cases sl with
    | fr t =>
      simp only [itSeq, Ev.bind, peek, e] at q
      obtain ⟨v, e1, r⟩ := S.fr i t e
      refine ⟨v, e1, ?_⟩
      cases t with
      | lst xs =>
        obtain ⟨a, ws, rfl, h, r⟩ := Rep.lst r
        exact .inl ⟨a, rfl, ⟨ws, SqL.of (S.sub _ _ h)⟩, q _ H g Ext.refl S fun j g1 st1 H1 le S1 => ItOk.list h r j g1 _ st1 _ H1 le S1⟩
      | tup xs =>
        obtain ⟨a, ws, rfl, h, r⟩ := Rep.tup r
        exact .inr ⟨a, rfl, ⟨ws, S.tup h⟩, q _ H g Ext.refl S fun j g1 st1 H1 le S1 => ItOk.tup h r j g1 _ st1 _ H1 le S1⟩
      | obj n =>
        obtain ⟨rfl, hn⟩ := Rep.obj r
        have q : After k W (rIc k vs) σ env g st H Q (match st[n]? with
          | some (.lst xs) => (.ok xs (st.set n .no) : Out (List T))
          | _ => .bad) := q
        split at q
        · rename_i xs hc
          obtain ⟨g2, S2, x2, ws, h, r⟩ := S.freezeL hc
          exact .inl ⟨g.α n, rfl, ⟨ws, SqL.of (S2.sub _ _ h)⟩, q _ H g2 x2 S2 fun j g1 st1 H1 le S1 => ItOk.list h r j g1 _ st1 _ H1 le S1⟩
        · exact q.elim
      | _ => exact q.elim
    | own t =>
      simp only [itSeq, Ev.bind, peek, e] at q
      obtain ⟨a, e1, ow⟩ := S.own i t e
      refine ⟨.ref a, e1, ?_⟩
      cases t with
      | lst xs =>
        obtain ⟨ws, hw, r⟩ := ow
        refine .inl ⟨a, rfl, ⟨ws, SqL.of hw⟩, q _ H g Ext.refl S fun j g1 st1 H1 le S1 => ?_⟩
        obtain ⟨a', e2, us, hu, ru⟩ := S1.own i (.lst xs) (by rw [wipeE_out hv, e])
        rw [L2.wipe_out hv, e1] at e2
        cases e2
        have hH : SqL k.K H1 a us := SqL.of hu
        refine ⟨fun t et => ?_, fun hi => ⟨us, hH, by rw [← ru.length]; exact hi⟩⟩
        obtain ⟨w, w1, w2⟩ := ru.get et
        refine ⟨⟨us, w, hH, w1⟩, fun v H2 ⟨e2, y⟩ => ?_⟩
        have := y us hH
        rw [w1] at this
        cases this
        rw [e2]
        exact ⟨g1, Grow.refl S1, w2⟩
      | dct kvs => exact q.elim
      | _ => exact False.elim ow
    | no => simp only [itSeq, Ev.bind, peek, e] at q; exact q.elim
    | slf c ns ds => simp only [itSeq, Ev.bind, peek, e] at q; exact q.elim
theorem comp_loop {gT : TG} {gt : Tg} {fc : EvB} {fe : EvT} {vs : List Nat} {J : It} {xs : List T} {D : Addr} {R0 : Hp → Prop} (hg : GOk k (· ∈ vs) gt gT) (S : SR k g env st σ H) {H00 : Hp} (hJ : rIc k vs H00 env st σ g H xs J) (hD : H D = none) (hz : xs.length ≤ 100000) {ys : List T} {st' : Store}
    (e : compL gt fc fe (wipeE vs env) xs st = .ok ys st') (hQ : ∀ ws g' H', Ext g env st σ H g' env st' σ H' → SR k g' env st' σ H' → H' D = some (.lst ws) → ¬ Trk g' env st' σ H' D → RepL k g' ys ws → R0 H') :
    ∃ Wi : Nat → Nat → Hp → Prop, (∃ m, Wi 0 m (upd H D (.lst []))) ∧ ∀ i m H, Wi i m H → (J.stop i H ∧ R0 H) ∨ (J.go i H ∧ ∃ Nx : Hp → Prop, (∀ H', Nx H' → ∃ m', m' < m ∧ Wi (i + 1) m' H') ∧ ∀ x H', J.yld i H x H' → gT x (L2.wipe σ vs) H' fun σ2 H2 => L2.wipe σ2 vs = L2.wipe σ vs ∧
      tT k WF fc σ2 H2 fun b H3 => if b = true then tV k WF fe σ2 H3 fun y H4 => ∃ acc, H4 D = some (.lst acc) ∧ acc.length < sizeLine ∧ Nx (upd H4 D (.lst (acc ++ [y]))) else Nx H3) := by
  -- the block's own view
  have b : Sub (wipeE vs env) (L2.wipe σ vs) env σ := Sub.wipe vs
  have Sw0 : SR k g (wipeE vs env) st (L2.wipe σ vs) H := (S.wipe vs).1
  have lw : (wipeE vs env).length = (L2.wipe σ vs).length := Sw0.len
  obtain ⟨Sw, xw, nw⟩ := Sw0.skip (o := .lst []) hD
  refine ⟨fun i m H1 => m = xs.length - i ∧ i ≤ xs.length ∧ ∃ g1 st1 done ws ys2, Ext g (wipeE vs env) st (L2.wipe σ vs) H g1 (wipeE vs env) st1 (L2.wipe σ vs) H1 ∧ SR k g1 (wipeE vs env) st1 (L2.wipe σ vs) H1 ∧
    H1 D = some (.lst ws) ∧ ¬ Trk g1 (wipeE vs env) st1 (L2.wipe σ vs) H1 D ∧ RepL k g1 done ws ∧ ws.length ≤ i ∧ compL gt fc fe (wipeE vs env) (xs.drop i) st1 = .ok ys2 st' ∧ ys = done ++ ys2, ⟨xs.length, by simp, Nat.zero_le _, g, st, [], [], ys, xw, Sw, upd_same, nw, RepL.nil.mpr rfl, Nat.le_refl _, by simpa using e, rfl⟩, ?_⟩
  rintro i m H1 ⟨rfl, hi, g1, st1, done, ws, ys2, x1, S1, hD1, n1, r1, hw, e1, rfl⟩
  have it := hJ i g1 st1 H1 x1.le S1
  by_cases hlt : i < xs.length
  · right
    obtain ⟨go, yl⟩ := it.1 xs[i] (by simp [hlt])
    rw [List.drop_eq_getElem_cons hlt] at e1
    refine ⟨go, fun H' => ∃ g2 st2 done2 ws2 ys3, Ext g (wipeE vs env) st (L2.wipe σ vs) H g2 (wipeE vs env) st2 (L2.wipe σ vs) H' ∧ SR k g2 (wipeE vs env) st2 (L2.wipe σ vs) H' ∧
      H' D = some (.lst ws2) ∧ ¬ Trk g2 (wipeE vs env) st2 (L2.wipe σ vs) H' D ∧ RepL k g2 done2 ws2 ∧ ws2.length ≤ i + 1 ∧ compL gt fc fe (wipeE vs env) (xs.drop (i + 1)) st2 = .ok ys3 st' ∧ done ++ ys2 = done2 ++ ys3, fun H' h => ⟨xs.length - (i + 1), by omega, rfl, hlt, h⟩, fun x H' y => ?_⟩
    obtain ⟨g2, gr, rx⟩ := yl x H' y
    unfold compL at e1
    cases hp : Tg.put gt xs[i] (wipeE vs env) with
    | none => rw [hp] at e1; cases e1
    | some env2 =>
      rw [hp] at e1
      simp only at e1
      have S2 := S1.grow gr
      have x2 := x1.trans (Ext.grow S1 gr)
      have nD2 := (Ext.grow S1 gr).keep D _ hD1 n1
      refine hg xs[i] _ env2 hp g2 st1 (L2.wipe σ vs) H' x _ S2 rx fun σ2 S3 x3 same l3 => ?_
      have nD3 := x3.keep D _ nD2.1 nD2.2
      have w2 : L2.wipe σ2 vs = L2.wipe σ vs := wipe_eq (by rw [l3, L2.wipe_length]) fun j hj => (same j hj).1
      refine ⟨w2, g2, env2, st1, S3, ?_⟩
      -- back to the block's view
      have sb : Sub (wipeE vs env) (L2.wipe σ vs) env2 σ2 := ⟨fun j => by
        by_cases hj : j ∈ vs
        · exact .inr (wipeE_in hj)
        · exact .inl ⟨(same j hj).2.symm, (same j hj).1.symm⟩⟩
      cases ec : fc env2 st1 with
      | bad => rw [ec] at e1; cases e1
      | err c vs' st2 => rw [ec] at e1; cases e1
      | ok bb st2 =>
        rw [ec] at e1
        intro bv H3 g3 x4 S4 rb
        obtain rfl : bb = bv := rb
        have nD4 := x4.keep D _ nD3.1 nD3.2
        cases bb with
        | false =>
          rw [if_neg (by decide)]
          have S5 := S4.part sb lw
          have x5 := (((x2.trans x3).trans x4).trans (Ext.part S4 sb))
          exact ⟨g3, st2, done, ws, ys2, x5, S5, nD4.1, fun z => nD4.2 (z.up sb), RepL.mono (gr.le.trans x4.le) _ _ r1, by omega, e1, rfl⟩
        | true =>
          rw [if_pos rfl]
          simp only at e1
          refine ⟨g3, env2, st2, S4, ?_⟩
          cases ee : fe env2 st2 with
          | bad => rw [ee] at e1; cases e1
          | err c vs' st3 => rw [ee] at e1; cases e1
          | ok t st3 =>
            rw [ee] at e1
            simp only at e1
            intro v H4 g4 x5 S5 rv
            have nD5 := x5.keep D _ nD4.1 nD4.2
            cases er : compL gt fc fe (wipeE vs env) (xs.drop (i + 1)) st3 with
            | bad => rw [er] at e1; cases e1
            | err c vs' st4 => rw [er] at e1; cases e1
            | ok zs st4 =>
              rw [er] at e1
              cases e1
              have S6 := S5.part sb lw
              have x6 := ((((x2.trans x3).trans x4).trans x5).trans (Ext.part S5 sb))
              have n6 : ¬ Trk g4 (wipeE vs env) st3 (L2.wipe σ vs) H4 D := fun z => nD5.2 (z.up sb)
              have no : ∀ a, HO.lst ws ≠ .own a := fun a z => by cases z
              have ni : ∀ C dx fs, HO.lst (ws ++ [v]) ≠ .ins C dx fs := fun _ _ _ z => by cases z
              obtain ⟨S7, n7⟩ := S6.updU (u := .lst (ws ++ [v])) nD5.1 no ni n6
              have x7 := x6.updU S6 (u := .lst (ws ++ [v])) nD5.1 no ni n6 (fun z => absurd hD z)
              exact ⟨ws, nD5.1, by rw [sizeLine_eq]; omega, g4, st3, done ++ [t], ws ++ [v], zs, x7, S7, upd_same, n7, (RepL.mono ((gr.le.trans x4.le).trans x5.le) _ _ r1).append (RepL.one rv), by simp; omega, er, by simp⟩
  · have ei : i = xs.length := by omega
    subst ei
    left
    rw [List.drop_length] at e1
    cases e1
    obtain ⟨S2, x2⟩ := S.back b x1 S1
    exact ⟨it.2 (Nat.le_refl _), hQ ws g1 H1 x2 S2 hD1 (Trk.back S b x1 S1 hD n1) (by simpa using r1)⟩
/-- [elt for target in iter if ..]: a new list -/
theorem comp_tLc {fi : EvI} {gt : Tg} {gT : TG} {fc : EvB} {fe : EvT} {vs : List Nat} (hg : GOk k (· ∈ vs) gt gT) {Q : VK} (q : tF k W (comp1 vs fi gt fc fe) σ H Q) : tLc (tR k W (rIc k vs) fi) gT (tT k WF fc) (tV k WF fe) vs σ H Q := by
  obtain ⟨g, env, st, S, q⟩ := q
  refine ⟨g, env, st, S, (q.bind (R1 := rIc k vs) m0F).imp fun J H1 ⟨xs, st1, g1, x1, S1, r1, q1⟩ D hD => ?_⟩
  have q1 : After k W (rF k) σ env g1 st1 H1 Q (if xs.length ≤ 100000 then (match compL gt fc fe (wipeE vs env) xs st1 with
    | .ok ys st2 => .ok (.lst ys) st2
    | _ => .bad) else .bad) := q1
  split at q1
  · rename_i hz
    split at q1
    · rename_i ys st2 e
      exact comp_loop hg S1 r1 hD hz e fun ws g' H' x2 S2 hD2 n2 r2 => q1 (.ref D) H' g' x2 S2 ⟨D, ws, rfl, hD, hD2, r2, n2⟩
    · exact q1.elim
  · exact q1.elim

/-! ### calls -/
/-- the promise of a def by values: fr: it hands out a new list -/
def AfterF (k : Gk) (fr : Bool) (g : Gh) (st : Store) (H : Hp) (Q : VK) (E : XK) : Out T → Prop
  | .ok t st' => ∀ v H' g', Ext g [] st [] H g' [] st' [] H' → SR k g' [] st' [] H' → (if fr = true then rF k H [] st' [] g' H' t v else Rep k g' t v) → Q v H'
  | .err c vs st' => ∀ cls d H' g', Ext g [] st [] H g' [] st' [] H' → SR k g' [] st' [] H' → ErrOk k g' H' c vs cls d → E cls d H'
  | .bad => False
def spOf (k : Gk) (fr : Bool) (fn : FnD) : Sp := fun vs H Q E => ∃ g st ts, SR k g [] st [] H ∧ RepL k g ts vs ∧ AfterF k fr g st H Q E (fn ts st)
def rFn (k : Gk) (fr : Bool) : Rdg T V := if fr = true then rF k else rV k
theorem m0Fn {fr : Bool} : Mono0 (rFn k fr) := by
  cases fr with
  | true => exact m0F
  | false => exact m0V
theorem After.toF {fr : Bool} {Q : VK} (S : SR k g env st σ H) {r : Out T} (q : After k W (rFn k fr) σ env g st H Q r) : AfterF k fr g st H Q (fun cls d H' => W cls d σ H') r := by
  cases r with
  | ok t st' =>
    intro v H' g' x S' r
    obtain ⟨S2, x2⟩ := S.back .nil x S'
    refine q v H' g' x2 S2 ?_
    cases fr with
    | false => exact r
    | true =>
      have r : rF k H [] st' [] g' H' t v := r
      show rF k H env st' σ g' H' t v
      cases t with
      | lst xs =>
        obtain ⟨a, vs, e, h0, h1, h2, n⟩ := r
        exact ⟨a, vs, e, h0, h1, h2, Trk.back S .nil x S' h0 n⟩
      | dct xs =>
        obtain ⟨a, vs, e, h0, h1, h2, n⟩ := r
        exact ⟨a, vs, e, h0, h1, h2, Trk.back S .nil x S' h0 n⟩
      | _ => exact r
  | err c vs st' =>
    intro cls d H' g' x S' r
    obtain ⟨S2, x2⟩ := S.back .nil x S'
    exact q cls d H' g' x2 S2 r
  | bad => exact q
theorem sx_call {fr : Bool} {fn : FnD} {fs : List EvT} {e : Expr} (h : PE X e (fun σ H Q => tL k W fs σ H fun vs H1 => spOf k fr fn vs H1 Q (fun cls d H' => W cls d σ H'))) : PE X e (tR k W (rFn k fr) (callP fn fs)) := by
  refine Mp.PE.imp h fun σ H Q ⟨g, env, st, S, q⟩ => ⟨g, env, st, S, (q.bind (R1 := rL k) m0Fn).imp fun vs H1 ⟨ts, st1, g1, x1, S1, r1, q1⟩ => ?_⟩
  exact ⟨g1, st1, ts, S1.bare, r1, q1.toF S1⟩
theorem PE.thawFn {fr : Bool} {e : Expr} {f : EvT} (h : PE X e (tR k W (rFn k fr) f)) : PE X e (tV k W f) := by
  cases fr with
  | false => exact h
  | true => exact Mp.PE.thaw h
end
end Mp


set_option Elab.async false
set_option linter.all false
set_option maxRecDepth 100000
set_option maxHeartbeats 2000000
/-! Enu: enumerate over a tuple (and, as one rule, over a list). -/
namespace Mp
open PySem PySem.Spec PyProof.Rows L2
theorem new_enumT (t : Addr) (o : Obj) (items : Array Value) :
    Meets (Builtin.«enumerate.__new__» ⟨[.type "enumerate", .ref t], []⟩) (fun _ R s => s.heap.IsTuple t items ∧
      R (.ok (.ret (.ref (s.heap.push { cls := .type "tuple_iterator", data := .fields #[.ref t, .int 0 0] }).objs.size)))
        { s with heap := (s.heap.push { cls := .type "tuple_iterator", data := .fields #[.ref t, .int 0 0] }).push { cls := .type "enumerate", data := .fields #[.none, .bool false, .ref s.heap.objs.size, rawInt 0, .none, .none] } }) :=
  .of_wp fun prog w A R s h => by
    obtain ⟨hp, g, d, tk, os⟩ := s; obtain ⟨hl, h⟩ := h
    have hsub := sub_enumerate
    have q1 : ∀ {A' : Around} {E : Value → Shared → Prop} {Q : Value → Shared → Prop}, Q (.ref hp.objs.size) ⟨hp.push { cls := .type "tuple_iterator", data := .fields #[.ref t, .int 0 0] }, g, d, tk, os⟩ → wpAny (model prog w) A' (pyIter (.ref t)) Q E ⟨hp, g, d, tk, os⟩ :=
      fun q => wpAny_pyIter_tuple hl q
    wp_walk using q1
    refine wpAny_stack_any fun st => wpAny_pure ?_
    split
    · rename_i c _ _ _ _ _
      cases (c == Value.type "enumerate")
      · wp_walk using q1
        exact ⟨_, rfl, h⟩
      · wp_walk using q1
        exact ⟨_, rfl, h⟩
    · wp_walk using q1
      exact ⟨_, rfl, h⟩
section
variable {prog : Program} {w : World} {A : Around} {E : Value → Shared → Prop} {s : Shared}
theorem call_enumT {t : Addr} {items : Array Value} {Q : Value → Shared → Prop} (hT : s.heap.IsTuple t items)
    (h : ∀ h', IsEnum h' (s.heap.objs.size + 1) s.heap.objs.size 0 .none → h'.IsTupleIter s.heap.objs.size t 0 → h'.objs.size = s.heap.objs.size + 2 →
      (∀ b o, s.heap.get? b = some o → h'.get? b = some o) → Q (.ref (s.heap.objs.size + 1)) { s with heap := h' }) :
    wpAny (model prog w) A (call (.type "enumerate") [.ref t]) Q E s := by
  refine callType_new F.called_enumerate (by decide) (F.typeCall_enumerate_1 _) (F.newCall_enumerate_1 _) (fun obj => F.args_object_init_2 obj _) F.entry_enumerate_new
    (new_enumT t { cls := .none } items) ⟨hT, ?_⟩
  have hz : (s.heap.push { cls := .type "tuple_iterator", data := .fields #[.ref t, .int 0 0] }).objs.size = s.heap.objs.size + 1 := Heap.size_push ..
  show _ ∧ _
  rw [hz]
  have he : IsEnum ((s.heap.push { cls := .type "tuple_iterator", data := .fields #[.ref t, .int 0 0] }).push
      { cls := .type "enumerate", data := .fields #[.none, .bool false, .ref s.heap.objs.size, rawInt 0, .none, .none] }) (s.heap.objs.size + 1) s.heap.objs.size 0 .none := by
    have := Heap.get?_push_size (s.heap.push { cls := .type "tuple_iterator", data := .fields #[.ref t, .int 0 0] })
      (o := { cls := .type "enumerate", data := .fields #[.none, .bool false, .ref s.heap.objs.size, rawInt 0, .none, .none] }) rfl
    rw [hz] at this; exact this
  refine ⟨⟨_, he, rfl⟩, h _ he ⟨_, Heap.get?_push_of_some _ (Heap.get?_push_size _ rfl), rfl, rfl⟩ (by rw [Heap.size_push, hz]) fun b o x => Heap.get?_push_of_some _ (Heap.get?_push_of_some _ x)⟩
end
/-- the tuple at a, each item in a new pair -/
def Ieu (K : PySem.W.Frag) (a : Addr) : It :=
  ⟨fun i H => ∃ (xs : List V) (x : V), SqT K H a xs ∧ xs[i]? = some x, fun i H v H' => ∃ T x, v = .ref T ∧ H T = none ∧ H' = upd H T (.tup [.int (i : Nat), x]) ∧ ∀ xs, SqT K H a xs → xs[i]? = some x, fun i H => ∃ xs : List V, SqT K H a xs ∧ xs.length ≤ i⟩
theorem turn_enumT {P : Program} {w : World} {K : PySem.W.Frag} {elts : List Expr} {kk : Nat} {tpos : Pos} (a e it : Addr) (hae : a ≠ e) (hai : a ≠ it) :
    Turn P w K (.Tuple elts kk tpos) (Ieu K a) [e, it] e (fun i h => (∃ old, IsEnum h e it ((i : Nat) : Int) old) ∧ h.IsTupleIter it a i ∧ e ≠ it) where
  mem := by simp
  obj := fun i h st b hb => by
    obtain ⟨⟨old, he⟩, ⟨o, ho, hc, hd⟩, _⟩ := st
    have e' : b = e ∨ b = it := by simpa using hb
    rcases e' with z | z
    · rw [z]; exact ⟨_, he, fun v q => nomatch q⟩
    · rw [z]; exact ⟨o, ho, fun v q => by rw [hd] at q; cases q⟩
  keep := fun i h h' st k => let ⟨⟨old, he⟩, hi, hne⟩ := st; ⟨⟨old, k e (by simp) _ he⟩, hi.at fun o q => k it (by simp) o q, hne⟩
  item := by
    intro X hP hw hK hc i pins s σ H E I hf st hg
    subst hP hw hK
    obtain ⟨⟨old, he⟩, hit, hne⟩ := st
    obtain ⟨xs, x, hq, hx⟩ := hg
    obtain ⟨its, rv, p, hz⟩ := I.tuple hq
    obtain ⟨u, hu, ru⟩ := rv.get hx
    have hel : e < s.heap.objs.size := Heap.lt_size he
    have hil : it < s.heap.objs.size := by obtain ⟨_, q, _⟩ := hit; exact Heap.lt_size q
    have hu' : its.toArray[i]? = some u := by simpa using hu
    have hlt : i < its.toArray.size := (Array.getElem?_eq_some_iff.mp hu').1
    refine wpAny_pyNext_enum_itemD (Draws.tuple (show X.A.in1.handled = none from I.ok.hd hc) it a hai its.toArray) he ⟨hit, p⟩ hlt hne (by simp [hne, Ne.symm hae]) fun x' h' tk hx' ho hit' hT hsz hk => ?_
    obtain rfl : u = x' := Option.some.inj (hu'.symm.trans hx')
    refine ⟨_, rfl, wpAny_letOwnedTupleGo_enum (s := { s with heap := h', toks := tk + 1 }) ho fun h'' he' sb => ?_⟩
    have hT2 : h''.get? s.heap.objs.size = some { cls := .type "tuple", data := .seq #[.int i tk, u] } := (sb.2 _ (Nat.ne_of_gt hel)).trans hT
    have new : ObjOk X.prog X.w (upd H s.heap.objs.size (.tup [.int (i : Nat), x])) h'' s.heap.objs.size (.tup [.int (i : Nat), x]) :=
      ⟨by show 2 ≤ sizeLine; decide, [.int i tk, u], .cons ⟨_, rfl⟩ (.cons ru .nil), ⟨_, hT2, rfl, _, rfl⟩⟩
    have I1 : Inv X pins σ (upd H s.heap.objs.size (.tup [.int (i : Nat), x])) { s with heap := h'', toks := tk + 1 } :=
      I.turnedNew (ch := [e, it]) (fun b ob hb q => (sb.2 b (fun z => hb (by simp [z]))).trans (hk b ob (fun z => hb (by simp [z])) (fun z => hb (by simp [z])) q)) hf (Nat.le_refl _) new
    refine ⟨.ref s.heap.objs.size, _, I1, rfl, ⟨_, x, rfl, I.hok.fresh (Nat.le_refl _), rfl, fun ys hy => by rw [I.tuple_inj hy hq]; exact hx⟩, ⟨⟨u, ?_⟩, hit'.1.at fun o q => (sb.2 it (Ne.symm hne)).trans q, hne⟩, fun b hb => ?_⟩
    · have e1 : ((i + 1 : Nat) : Int) = (i : Int) + 1 := by omega
      rw [e1]; exact he'
    · have hb' : b < s.heap.objs.size := by
        have e' : b = e ∨ b = it := by simpa using hb
        rcases e' with z | z
        · rw [z]; exact hel
        · rw [z]; exact hil
      rw [upd_ne (Nat.ne_of_lt hb')]
      exact (hf b hb).1
  done := by
    intro X hP hw hK hc i pins s σ H E I hf st hg
    subst hP hw hK
    obtain ⟨⟨old, he⟩, hit, hne⟩ := st
    obtain ⟨xs, hq, hx⟩ := hg
    obtain ⟨its, rv, p, hz⟩ := I.tuple hq
    obtain ⟨f0, f1, f2, f3, f4, f5⟩ := hf it (by simp)
    have hl := rv.length
    have hT : s.TypeIs (.ref e) "enumerate" := ⟨_, he, rfl⟩
    unfold pyNext
    refine wpAny_bind (wpAny_attempt (wpAny_callSpecial?_slot (name := Str.ofString "__next__") hT F.slot_enumerate_next
      (wpAny_call_entry F.slot_enumerate_next hT F.entry_enumerate_next ?_ (F.args_enumerate_next_1 _))))
    show wpAny _ _ (field (.ref e) 2 >>= _) _ _ _
    refine wpAny_bind (wpAny_field he rfl (x := .ref it) rfl ?_)
    refine wpAny_bind (wpAny_nextOf_tuple_end (I.ok.hd hc) hit p (by simp; omega) fun h' x eb hx' => ?_)
    obtain ⟨o, ho, hc'⟩ := hx'
    refine wpAny_bind (wpAny_isInstance (T := "StopIteration") (b := true) ⟨o, ho, hc'⟩ isSubtype_stop ?_)
    exact wpAny_pure ⟨rfl, I.turned (t' := s.toks) (fun b o hb q => eb b o hb q) f0 f1 f3 f4 f5⟩
  self := fun A i s Q E st h => let ⟨⟨_, he⟩, _⟩ := st; wpAny_pyIter_enum he h
/-- enumerate of a list or a tuple -/
def iEnu (K : PySem.W.Frag) (ta : TA) : TI := fun σ H R => ta σ H fun vs H1 => (∃ a xs, vs = [.ref a] ∧ SqL K H1 a xs ∧ R (Ite K a) H1) ∨ ∃ a xs, vs = [.ref a] ∧ SqT K H1 a xs ∧ R (Ieu K a) H1
theorem pi_enu {X : Cx} {e : Expr} {ta : TA} {p pos tpos : Pos} {elts : List Expr} {kk : Nat} (hg : Gl X "enumerate") (hm : X.mg "enumerate" = none) (ha : PA X [e] ta) (hs : starEach [e] X.env = [(false, eval e X.env)] := by rfl) :
    PI X (.Tuple elts kk tpos) (.Call (.Name "enumerate" p) [e] [] pos) (iEnu X.K ta) := by
  refine ⟨fun pins s σ H R I h => ?_⟩
  refine Call_ (ld_blt I hg hm boot_enumerate (PyProof.Rows.callWith_type1 (thn (ha.run pos pins s σ H _ I h) fun us s1 ⟨vs, H1, I1, r1, q1⟩ => ?_) hs rfl))
  rcases q1 with ⟨a, xs, ex, hq, q⟩ | ⟨a, xs, ex, hq, q⟩
  · subst ex
    cases r1 with
    | cons r rr =>
      cases rr
      cases r
      obtain ⟨its, rv, p', hz⟩ := I1.list hq
      refine call_enumerate_list p'.isList fun h' he hit hsz hk => wpAny_pyIter_enum he ?_
      have I2 : Inv X pins σ H1 { s1 with heap := h' } := I1.kept (t' := s1.toks) hk
      refine ⟨s1.heap.objs.size + 1, [s1.heap.objs.size + 1, s1.heap.objs.size], _, _, H1, rfl, I2, turn_enum a (s1.heap.objs.size + 1) s1.heap.objs.size, ⟨⟨.none, he⟩, hit, Nat.succ_ne_self _⟩, fun b hb => ?_, q⟩
      have e' : b = s1.heap.objs.size + 1 ∨ b = s1.heap.objs.size := by simpa using hb
      have hle : s1.heap.objs.size ≤ b := by
        rcases e' with z | z
        · rw [z]; exact Nat.le_add_right _ _
        · rw [z]; exact Nat.le_refl _
      exact I1.fpOk hle (I1.hok.fresh hle)
  · subst ex
    cases r1 with
    | cons r rr =>
      cases rr
      cases r
      obtain ⟨its, rv, p', hz⟩ := I1.tuple hq
      have hal : a < s1.heap.objs.size := by obtain ⟨_, q, _⟩ := p'; exact Heap.lt_size q
      refine call_enumT p' fun h' he hit hsz hk => wpAny_pyIter_enum he ?_
      have I2 : Inv X pins σ H1 { s1 with heap := h' } := I1.kept (t' := s1.toks) hk
      refine ⟨s1.heap.objs.size + 1, [s1.heap.objs.size + 1, s1.heap.objs.size], _, _, H1, rfl, I2, turn_enumT a (s1.heap.objs.size + 1) s1.heap.objs.size (Nat.ne_of_lt (Nat.lt_succ_of_lt hal)) (Nat.ne_of_lt hal), ⟨⟨.none, he⟩, hit, Nat.succ_ne_self _⟩, fun b hb => ?_, q⟩
      have e' : b = s1.heap.objs.size + 1 ∨ b = s1.heap.objs.size := by simpa using hb
      have hle : s1.heap.objs.size ≤ b := by
        rcases e' with z | z
        · rw [z]; exact Nat.le_add_right _ _
        · rw [z]; exact Nat.le_refl _
      exact I1.fpOk hle (I1.hok.fresh hle)
section
variable {k : Gk} {W : L2.WX} {X : Cx} {g : Gh}
theorem ItOk.enumT {xs : List T} {a : Addr} {vs : List V} (h : SqT k.K g.F a vs) (r : RepL k g xs vs) : ItOk k g (enumL 0 xs) (Ieu k.K a) := by
  intro i g1 env1 st1 σ1 H1 le S
  have hH : SqT k.K H1 a vs := S.tup (Mp.SqT.fmono le.f h)
  refine ⟨fun t e => ?_, fun hi => ⟨vs, hH, by rw [enumL_length] at hi; rw [← r.length]; exact hi⟩⟩
  obtain ⟨x, ex, rfl⟩ := enumL_get e
  obtain ⟨w, e1, r1⟩ := r.get ex
  refine ⟨⟨vs, w, hH, e1⟩, fun v H2 ⟨p, y, ev, hp, eH, hy⟩ => ?_⟩
  have := hy vs hH
  rw [e1] at this
  cases this
  subst ev eH
  have G := Grow.one S (o := .tup [.int (i : Nat), w]) hp
  refine ⟨_, G, ?_⟩
  unfold Rep
  refine ⟨p, [.int (i : Nat), w], rfl, .inl (.inl upd_same), RepL.cons.mpr ⟨_, _, rfl, by simp; exact rep_int, RepL.one (Rep.mono (le.trans G.le) _ _ r1)⟩⟩
theorem sx_itEnu {tg e : Expr} {f : EvT} (h : PI X tg e (iEnu k.K (tCons (tV k W f) tNil))) : PI X tg e (tI k W (itEnum f)) := by
  refine Mp.PI.imp h fun σ H Q ⟨g, env, st, S, q⟩ => ⟨g, env, st, S, (q.bind (R1 := rV k) m0I).imp fun v H1 ⟨x, st1, g1, x1, S1, r1, q1⟩ => ?_⟩
  cases x with
  | lst xs =>
    obtain ⟨a, vs, rfl, h, r⟩ := Rep.lst r1
    exact .inl ⟨a, vs, rfl, SqL.of (S1.sub _ _ h), After.pure (a := enumL 0 xs) (R := rI k) S1 q1 (ItOk.enum h r)⟩
  | tup xs =>
    obtain ⟨a, vs, rfl, h, r⟩ := Rep.tup r1
    exact .inr ⟨a, vs, rfl, S1.tup h, After.pure (a := enumL 0 xs) (R := rI k) S1 q1 (ItOk.enumT h r)⟩
  | _ => exact q1.elim
end
end Mp


set_option Elab.async false
set_option linter.all false
set_option maxRecDepth 100000
set_option maxHeartbeats 1000000
/-! Stm: the soundness of statements. -/
namespace Mp
open PySem PySem.Spec PyProof.Rows L2
/-- own lists were made since H00 -/
def Born (H00 : Hp) (env : En) (σ : L2.St) : Prop := ∀ (i : Nat) (t : T) (a : Addr), env[i]? = some (Slot.own t) → σ[i]? = some (some (.ref a)) → H00 a = none
structure SB (k : Gk) (H00 : Hp) (g : Gh) (env : En) (st : Store) (σ : L2.St) (H : Hp) : Prop where
  s : SR k g env st σ H
  d : Dom H00 H
  b : Born H00 env σ
/-- what is handed out -/
def RetOk (k : Gk) (fr : Bool) (H00 : Hp) (g : Gh) (env : En) (st : Store) (σ : L2.St) (H : Hp) (t : T) (v : V) : Prop :=
  (∃ i : Nat, env[i]? = some (Slot.own t) ∧ σ[i]? = some (some v)) ∨ (if fr = true then rF k H00 env st σ g H t v else Rep k g t v)
section
variable (k : Gk) (W : L2.WX) (fr : Bool) (H00 : Hp)
def AfterS (g : Gh) (env : En) (st : Store) (σ : L2.St) (H : Hp) (D : L2.Ends) : OutS → Prop
  | .ok .nx env' st' => ∀ σ' H' g', Ext g env st σ H g' env' st' σ' H' → SB k H00 g' env' st' σ' H' → D.nx σ' H'
  | .ok .brk env' st' => ∀ σ' H' g', Ext g env st σ H g' env' st' σ' H' → SB k H00 g' env' st' σ' H' → D.bk σ' H'
  | .ok .ct env' st' => ∀ σ' H' g', Ext g env st σ H g' env' st' σ' H' → SB k H00 g' env' st' σ' H' → D.ct σ' H'
  | .ok (.ret t) env' st' => ∀ v σ' H' g', Ext g env st σ H g' env' st' σ' H' → SB k H00 g' env' st' σ' H' → RetOk k fr H00 g' env' st' σ' H' t v → D.rt v H'
  | .err c vs env' st' => ∀ cls d σ' H' g', Ext g env st σ H g' env' st' σ' H' → SB k H00 g' env' st' σ' H' → ErrOk k g' H' c vs cls d → W cls d σ' H'
  | .bad => False
def tSx (f : EvS) : TS := fun D σ H => ∃ g env st, SB k H00 g env st σ H ∧ AfterS k W fr H00 g env st σ H D (f env st)
end
section
variable {k : Gk} {W : L2.WX} {fr : Bool} {H00 : Hp} {X : Cx} {α γ : Type} {R1 : Rdg α γ} {g g1 : Gh} {env env1 : En} {st st1 : Store} {σ σ1 : L2.St} {H H1 : Hp} {D D' : L2.Ends}
theorem AfterS.shift (x : Ext g env st σ H g1 env1 st1 σ1 H1) {r : OutS} (q : AfterS k W fr H00 g env st σ H D r) : AfterS k W fr H00 g1 env1 st1 σ1 H1 D r := by
  cases r with
  | bad => exact q
  | err c vs e s => exact fun cls d σ' H' g' y S h => q cls d σ' H' g' (x.trans y) S h
  | ok f e s =>
    cases f with
    | nx => exact fun σ' H' g' y S => q σ' H' g' (x.trans y) S
    | brk => exact fun σ' H' g' y S => q σ' H' g' (x.trans y) S
    | ct => exact fun σ' H' g' y S => q σ' H' g' (x.trans y) S
    | ret t => exact fun v σ' H' g' y S h => q v σ' H' g' (x.trans y) S h
/-- an expression, then the rest -/
theorem sbind {f : Ev α} {kk : α → EvS} (B : SB k H00 g env st σ H) (q : AfterS k W fr H00 g env st σ H D (sBind f kk env st)) :
    After k W R1 σ env g st H (fun v H1 => ∃ a st1 g1, Ext g env st σ H g1 env st1 σ H1 ∧ SB k H00 g1 env st1 σ H1 ∧ R1 H env st1 σ g1 H1 a v ∧ AfterS k W fr H00 g1 env st1 σ H1 D (kk a env st1)) (f env st) := by
  unfold sBind at q
  cases e : f env st with
  | bad => rw [e] at q; exact q
  | err c vs st' =>
    rw [e] at q
    exact fun cls d H' g' x S h => q cls d σ H' g' x ⟨S, fun a ha => x.there a (B.d a ha), B.b⟩ h
  | ok a st1 =>
    rw [e] at q
    exact fun v H1 g1 x S r => ⟨a, st1, g1, x, ⟨S, fun a ha => x.there a (B.d a ha), B.b⟩, r, AfterS.shift x q⟩
/-- .. what is left told of the start -/
theorem sbind0 {f : Ev α} {kk : α → EvS} (B : SB k H00 g env st σ H) (q : AfterS k W fr H00 g env st σ H D (sBind f kk env st)) :
    After k W R1 σ env g st H (fun v H1 => ∃ a st1 g1, Ext g env st σ H g1 env st1 σ H1 ∧ SB k H00 g1 env st1 σ H1 ∧ R1 H env st1 σ g1 H1 a v ∧ AfterS k W fr H00 g env st σ H D (kk a env st1)) (f env st) := by
  unfold sBind at q
  cases e : f env st with
  | bad => rw [e] at q; exact q
  | err c vs st' =>
    rw [e] at q
    exact fun cls d H' g' x S h => q cls d σ H' g' x ⟨S, fun a ha => x.there a (B.d a ha), B.b⟩ h
  | ok a st1 =>
    rw [e] at q
    exact fun v H1 g1 x S r => ⟨a, st1, g1, x, ⟨S, fun a ha => x.there a (B.d a ha), B.b⟩, r, q⟩
theorem tSx.bind {f : Ev α} {kk : α → EvS} (q : tSx k W fr H00 (sBind f kk) D σ H) :
    tR k W R1 f σ H (fun v H1 => ∃ g0 H0 env st a st1 g1, Ext g0 env st σ H0 g1 env st1 σ H1 ∧ SB k H00 g1 env st1 σ H1 ∧ R1 H0 env st1 σ g1 H1 a v ∧ Dom H00 H0 ∧ AfterS k W fr H00 g1 env st1 σ H1 D (kk a env st1)) := by
  obtain ⟨g, env, st, B, q⟩ := q
  exact ⟨g, env, st, B.s, (sbind B q).imp fun v H1 ⟨a, st1, g1, x, B1, r, q1⟩ => ⟨g, H, env, st, a, st1, g1, x, B1, r, B.d, q1⟩⟩
theorem ps_bad {s : Stmt} : PS X s (tSx k W fr H00 sBad) := ⟨fun _ _ _ _ _ _ q => by obtain ⟨g, env, st, S, q⟩ := q; exact q.elim⟩
theorem st_nx {s : Stmt} (h : PS X s tNext) : PS X s (tSx k W fr H00 sNx) := Mp.PS.imp h fun D σ H ⟨g, env, st, B, q⟩ => q σ H g Ext.refl B
theorem sts_nx {s : List Stmt} (h : PSs X s tNext) : PSs X s (tSx k W fr H00 sNx) := Mp.PSs.imp h fun D σ H ⟨g, env, st, B, q⟩ => q σ H g Ext.refl B
theorem st_brk {s : Stmt} (h : PS X s tBreak) : PS X s (tSx k W fr H00 (sFl .brk)) := Mp.PS.imp h fun D σ H ⟨g, env, st, B, q⟩ => q σ H g Ext.refl B
theorem st_ct {s : Stmt} (h : PS X s tCont) : PS X s (tSx k W fr H00 (sFl .ct)) := Mp.PS.imp h fun D σ H ⟨g, env, st, B, q⟩ => q σ H g Ext.refl B
theorem sts_seq {s : List Stmt} {f h' : EvS} (h : PSs X s (tSeq (tSx k W fr H00 f) (tSx k W fr H00 h'))) : PSs X s (tSx k W fr H00 (sSeq f h')) := by
  refine Mp.PSs.imp h fun D σ H ⟨g, env, st, B, q⟩ => ⟨g, env, st, B, ?_⟩
  unfold sSeq at q
  cases e : f env st with
  | bad => rw [e] at q; exact q
  | err c vs e1 s1 => rw [e] at q; exact q
  | ok fl e1 s1 =>
    rw [e] at q
    cases fl with
    | nx => exact fun σ' H' g' x B' => ⟨g', e1, s1, B', AfterS.shift x q⟩
    | brk => exact q
    | ct => exact q
    | ret t => exact q
theorem st_if {s : Stmt} {c : EvB} {f h' : EvS} (h : PS X s (tIfS (tT k W c) (tSx k W fr H00 f) (tSx k W fr H00 h'))) : PS X s (tSx k W fr H00 (sIf c f h')) := by
  refine Mp.PS.imp h fun D σ H q => ?_
  obtain ⟨g, env, st, S, q⟩ := tSx.bind (R1 := rT) q
  refine ⟨g, env, st, S, q.imp fun b H1 ⟨g0, H0, env1, st0, b', st1, g1, x1, B1, r1, d0, q1⟩ => ?_⟩
  obtain rfl : b' = b := r1
  cases b' with
  | true => rw [if_pos rfl]; exact ⟨g1, env1, st1, B1, q1⟩
  | false => rw [if_neg (by decide)]; exact ⟨g1, env1, st1, B1, q1⟩
theorem st_retN {s : Stmt} (h : PS X s tRetN) : PS X s (tSx k W fr H00 (sRet (con .non))) := by
  refine Mp.PS.imp h fun D σ H ⟨g, env, st, B, q⟩ => q .non σ H g Ext.refl B (.inr ?_)
  split
  · exact (rep_non : Rep k g .non .non)
  · exact (rep_non : Rep k g .non .non)
/-- return of a value, of a new list, of one's own -/
theorem st_retV {s : Stmt} {f : EvT} (hf : fr = false) (h : PS X s (tRet (tV k W f))) : PS X s (tSx k W fr H00 (sRet f)) := by
  refine Mp.PS.imp h fun D σ H q => ?_
  obtain ⟨g, env, st, S, q⟩ := tSx.bind (R1 := rV k) q
  refine ⟨g, env, st, S, q.imp fun v H1 ⟨g0, H0, env1, st0, t, st1, g1, x1, B1, r1, d0, q1⟩ => ?_⟩
  exact q1 v σ H1 g1 Ext.refl B1 (.inr (by rw [hf]; exact r1))
theorem st_retF {s : Stmt} {f : EvT} (hf : fr = true) (h : PS X s (tRet (tF k W f))) : PS X s (tSx k W fr H00 (sRet f)) := by
  refine Mp.PS.imp h fun D σ H q => ?_
  obtain ⟨g, env, st, S, q⟩ := tSx.bind (R1 := rF k) q
  refine ⟨g, env, st, S, q.imp fun v H1 ⟨g0, H0, env1, st0, t, st1, g1, x1, B1, r1, d0, q1⟩ => ?_⟩
  exact q1 v σ H1 g1 Ext.refl B1 (.inr (by rw [hf]; exact m0F _ _ _ _ _ _ _ _ _ d0 r1))
/-- a slot read where it stands, handed out -/
theorem st_retP {s : Stmt} {i : Nat} (hf : fr = false) (h : PS X s (tRet (tVar i))) : PS X s (tSx k W fr H00 (sRet (peek i))) := by
  refine Mp.PS.imp h fun D σ H ⟨g, env, st, B, q⟩ => ?_
  cases e : env[i]? with
  | none => simp only [sRet, sBind, peek, e] at q; exact q.elim
  | some sl =>
    cases sl with
    | fr t =>
      simp only [sRet, sBind, peek, e] at q
      obtain ⟨v, e1, r⟩ := B.s.fr i t e
      exact ⟨v, e1, q v σ H g Ext.refl B (.inr (by rw [hf]; exact r))⟩
    | own t =>
      simp only [sRet, sBind, peek, e] at q
      obtain ⟨a, e1, r⟩ := B.s.own i t e
      exact ⟨_, e1, q _ σ H g Ext.refl B (.inl ⟨i, e, e1⟩)⟩
    | _ => simp only [sRet, sBind, peek, e] at q; exact q.elim
theorem st_retO {s : Stmt} {i : Nat} (h : PS X s (tRet (tVar i))) : PS X s (tSx k W fr H00 (sRet (ownV i))) := by
  refine Mp.PS.imp h fun D σ H ⟨g, env, st, B, q⟩ => ?_
  cases e : env[i]? with
  | none => simp only [sRet, sBind, ownV, e] at q; exact q.elim
  | some sl =>
    cases sl with
    | own t =>
      simp only [sRet, sBind, ownV, e] at q
      obtain ⟨a, e1, r⟩ := B.s.own i t e
      exact ⟨_, e1, q _ σ H g Ext.refl B (.inl ⟨i, e, e1⟩)⟩
    | _ => simp only [sRet, sBind, ownV, e] at q; exact q.elim

/-! ### names set -/
theorem Born.set {i : Nat} {s : Slot} {v : Option V} (b : Born H00 env σ) (h : ∀ t a, s = Slot.own t → v = some (.ref a) → H00 a = none) : Born H00 (env.set i s) (σ.set i v) := fun j t a e1 e2 => by
  by_cases hj : i = j
  · subst hj
    rw [List.getElem?_set_self'] at e1 e2
    cases h1 : env[i]? with
    | none => rw [h1] at e1; cases e1
    | some w =>
      cases h2 : σ[i]? with
      | none => rw [h2] at e2; cases e2
      | some u =>
        rw [h1] at e1
        rw [h2] at e2
        exact h t a (by simpa using e1) (by simpa using e2)
  · rw [List.getElem?_set_ne hj] at e1 e2
    exact b j t a e1 e2
mutual
theorem put_own : ∀ (gt : Tg) (x : T) (env env' : En), Tg.put gt x env = some env' → ∀ (j : Nat) (t : T), env'[j]? = some (Slot.own t) → env[j]? = some (Slot.own t)
  | .name i, x, env, env', e, j, t, h => by
    cases e
    by_cases hj : i = j
    · subst hj
      rw [List.getElem?_set_self'] at h
      cases h1 : env[i]? with
      | none => rw [h1] at h; cases h
      | some w => rw [h1] at h; simp at h
    · rw [List.getElem?_set_ne hj] at h; exact h
  | .tup gs, .tup ts, env, env', e, j, t, h => putL_own gs ts env env' e j t h
  | .tup _, .non, _, _, e, _, _, _ => by cases e
  | .tup _, .bl _, _, _, e, _, _, _ => by cases e
  | .tup _, .int _, _, _, e, _, _, _ => by cases e
  | .tup _, .str _, _, _, e, _, _, _ => by cases e
  | .tup _, .lst _, _, _, e, _, _, _ => by cases e
  | .tup _, .dct _, _, _, e, _, _, _ => by cases e
  | .tup _, .set _, _, _, e, _, _, _ => by cases e
  | .tup _, .ins _ _ _, _, _, e, _, _, _ => by cases e
  | .tup _, .obj _, _, _, e, _, _, _ => by cases e
theorem putL_own : ∀ (gs : List Tg) (xs : List T) (env env' : En), Tg.putL gs xs env = some env' → ∀ (j : Nat) (t : T), env'[j]? = some (Slot.own t) → env[j]? = some (Slot.own t)
  | [], [], env, env', e, j, t, h => by cases e; exact h
  | [], _ :: _, _, _, e, _, _, _ => by cases e
  | _ :: _, [], _, _, e, _, _, _ => by cases e
  | g :: gs, x :: xs, env, env', e, j, t, h => by
    have e : (Tg.put g x env).bind (fun env' => Tg.putL gs xs env') = some env' := e
    cases h1 : Tg.put g x env with
    | none => rw [h1] at e; cases e
    | some env1 =>
      rw [h1] at e
      exact put_own g x env env1 h1 j t (putL_own gs xs env1 env' e j t h)
end
theorem SB.ext (B : SB k H00 g env st σ H) (x : Ext g env st σ H g1 env1 st1 σ1 H1) (S : SR k g1 env1 st1 σ1 H1) (b : Born H00 env1 σ1) : SB k H00 g1 env1 st1 σ1 H1 := ⟨S, fun a ha => x.there a (B.d a ha), b⟩
/-- own slots are old ones -/
theorem Born.old (b : Born H00 env σ) (h : ∀ (i : Nat) (t : T), env1[i]? = some (Slot.own t) → env[i]? = some (Slot.own t) ∧ σ1[i]? = σ[i]?) : Born H00 env1 σ1 := fun i t a e1 e2 => by
  obtain ⟨h1, h2⟩ := h i t e1
  exact b i t a h1 (by rw [← h2]; exact e2)
theorem SR.ownAt (S : SR k g env st σ H) {i : Nat} {t : T} (e : env[i]? = some (Slot.own t)) : ∃ a, σ[i]? = some (some (V.ref a)) ∧ Own k g H a t := S.own i t e
/-- a target's store: the own slots are old ones -/
def GOwn (k : Gk) (gt : Tg) (t : TG) : Prop := ∀ (x : T) (env env' : En), Tg.put gt x env = some env' → ∀ (H00 : Hp) (g0 : Gh) (st : Store) (σ : L2.St) (H : Hp) (v : V) (Q : L2.St → Hp → Prop), SB k H00 g0 env st σ H → Rep k g0 x v →
  (∀ σ', SB k H00 g0 env' st σ' H → Ext g0 env st σ H g0 env' st σ' H → Q σ' H) → t v σ H Q
def GsOwn (k : Gk) (gs : List Tg) (t : TGs) : Prop := ∀ (xs : List T) (env env' : En), Tg.putL gs xs env = some env' → ∀ (H00 : Hp) (g0 : Gh) (st : Store) (σ : L2.St) (H : Hp) (vs : List V) (Q : L2.St → Hp → Prop), SB k H00 g0 env st σ H → RepL k g0 xs vs →
  (∀ σ', SB k H00 g0 env' st σ' H → Ext g0 env st σ H g0 env' st σ' H → Q σ' H) → t vs σ H Q
theorem gown_name {i : Nat} : GOwn k (.name i) (gName i) := by
  intro x env env' e H00 g0 st σ H v Q B r q
  cases e
  obtain ⟨S', x'⟩ := B.s.setFr i r
  exact q _ (B.ext x' S' (B.b.set fun t a h => by cases h)) x'
theorem gsown_nil : GsOwn k [] gNil := by
  intro xs env env' e H00 g0 st σ H vs Q S r q
  cases xs with
  | nil =>
    cases e
    exact ⟨RepL.nil.mp r, q σ S Ext.refl⟩
  | cons a b => cases e
theorem gsown_cons {g : Tg} {gs : List Tg} {t : TG} {u : TGs} (h1 : GOwn k g t) (h2 : GsOwn k gs u) : GsOwn k (g :: gs) (gCons t u) := by
  intro xs env env' e H00 g0 st σ H vs Q S r q
  cases xs with
  | nil => cases e
  | cons a b =>
    have e : (Tg.put g a env).bind (fun env' => Tg.putL gs b env') = some env' := e
    cases h : Tg.put g a env with
    | none => rw [h] at e; cases e
    | some env1 =>
      rw [h] at e
      obtain ⟨w, ws, rfl, r1, r2⟩ := RepL.cons.mp r
      exact ⟨w, ws, rfl, h1 a env env1 h H00 g0 st σ H w _ S r1 fun σ1 S1 x1 => h2 b env1 env' e H00 g0 st σ1 H ws Q S1 r2 fun σ2 S2 x2 => q σ2 S2 (x1.trans x2)⟩
theorem gown_tup {gs : List Tg} {u : TGs} {n : Nat} (h : GsOwn k gs u) (hn : n = gs.length) : GOwn k (.tup gs) (gTup k.K n u) := by
  intro x env env' e H00 g0 st σ H v Q S r q
  cases x with
  | tup ts =>
    obtain ⟨a, vs, rfl, hs, r⟩ := r.tup
    have e : Tg.putL gs ts env = some env' := e
    exact ⟨a, vs, rfl, S.s.tup hs, by rw [hn, ← r.length, putL_len _ _ _ _ e], h ts env env' e H00 g0 st σ H vs Q S r q⟩
  | _ => cases e
theorem AfterS.ofEnv {f : En → Option En} (q : AfterS k W fr H00 g env st σ H D (sEnv f env1 st1)) : ∃ env', f env1 = some env' ∧ AfterS k W fr H00 g env st σ H D (.ok .nx env' st1) := by
  unfold sEnv at q
  cases e : f env1 with
  | none => rw [e] at q; exact q.elim
  | some env' => rw [e] at q; exact ⟨env', rfl, q⟩
theorem st_asg {s : Stmt} {f : EvT} {gt : Tg} {gT : TG} (hg : GOwn k gt gT) (h : PS X s (tAsg (tV k W f) gT)) : PS X s (tSx k W fr H00 (sAsg gt f)) := by
  refine Mp.PS.imp h fun D σ H q => ?_
  obtain ⟨g, env, st, S, q⟩ := tSx.bind (R1 := rV k) q
  refine ⟨g, env, st, S, q.imp fun v H1 ⟨g0, H0, env1, st0, t, st1, g1, x1, B1, r1, d0, q1⟩ => ?_⟩
  obtain ⟨env', e, q2⟩ := AfterS.ofEnv q1
  exact hg t env1 env' e H00 g1 st1 σ H1 v D.nx B1 r1 fun σ' B2 x2 => q2 σ' H1 g1 x2 B2
theorem setSame {i : Nat} {α : Type} {l : List α} {x : α} (h : ¬ i < l.length) : l.set i x = l := by
  apply List.ext_getElem?
  intro j
  by_cases e : i = j
  · subst e
    rw [List.getElem?_eq_none (by simpa using h), List.getElem?_eq_none (by simpa using h)]
  · rw [List.getElem?_set_ne e]
theorem st_own {s : Stmt} {f : EvT} {i : Nat} (h : PS X s (tAsg (tF k W f) (gName i))) : PS X s (tSx k W fr H00 (sOwn i f)) := by
  refine Mp.PS.imp h fun D σ H ⟨g, env, st, B, q⟩ => ⟨g, env, st, B.s, (sbind0 (R1 := rF k) B q).imp fun v H1 ⟨t, st1, g1, x1, B1, r1, q1⟩ => ?_⟩
  obtain ⟨env', e, q2⟩ := AfterS.ofEnv q1
  have fin : ∀ (t : T) (a : Addr), v = .ref a → H a = none → Own k g1 H1 a t → ¬ Trk g1 env st1 σ H1 a → env' = env.set i (.own t) → D.nx (σ.set i (some v)) H1 := by
    intro t a ev h0 ow n ee
    subst ev ee
    by_cases hi : i < env.length
    · have S2 := B1.s.setOwn hi n ow
      have x2 : Ext g env st σ H g1 (env.set i (.own t)) st1 (σ.set i (some (.ref a))) H1 := x1.setOwn B1.s hi (fun z => absurd h0 z)
      exact q2 _ H1 g1 x2 (B.ext x2 S2 (B.b.set fun t' a' h h' => by cases h'; exact B.d.none h0))
    · have hi' : ¬ i < σ.length := by rw [← B.s.len]; exact hi
      rw [setSame hi] at q2
      rw [setSame hi']
      exact q2 _ H1 g1 x1 B1
  cases t with
  | lst xs =>
    obtain ⟨a, vs, rfl, h0, h1, r, n⟩ := r1
    exact fin (.lst xs) a rfl h0 ⟨vs, h1, r⟩ n (by cases e; rfl)
  | dct xs =>
    obtain ⟨a, vs, rfl, h0, h1, r, n⟩ := r1
    exact fin (.dct xs) a rfl h0 ⟨vs, h1, r⟩ n (by cases e; rfl)
  | _ => cases e
/-- x = a new list that stands in the store -/
theorem st_shr {s : Stmt} {f : EvT} {i : Nat} (h : PS X s (tAsg (tF k W f) (gName i))) : PS X s (tSx k W fr H00 (sShr i f)) := by
  refine Mp.PS.imp h fun D σ H ⟨g, env, st, B, q⟩ => ⟨g, env, st, B.s, (sbind0 (R1 := rF k) B q).imp fun v H1 ⟨t, st1, g1, x1, B1, r1, q1⟩ => ?_⟩
  cases t with
  | lst xs =>
    obtain ⟨a, vs, rfl, h0, h1, r, n⟩ := r1
    obtain ⟨S2, le, ea⟩ := B1.s.newCell n h1 r
    have x2 := x1.newCell (xs := xs) B1.s (fun z => absurd h0 z)
    have rp : Rep k (g1.cell a) (.obj st1.length) (.ref a) := by
      unfold Rep
      refine ⟨by rw [ea], ?_⟩
      rw [← B1.s.sz]
      exact Nat.lt_succ_self _
    obtain ⟨S3, x3⟩ := S2.setFr i rp
    have x4 := x2.trans x3
    exact q1 _ H1 _ x4 (B.ext x4 S3 (B.b.set fun t' a' h h' => by cases h))
  | _ => exact q1.elim
/-- a, b = e, f -/
theorem st_par {s : Stmt} {fs : List EvT} {i j : Nat} (h : PS X s (tPar i j (tL k W fs))) : PS X s (tSx k W fr H00 (sPar [i, j] fs)) := by
  refine Mp.PS.imp h fun D σ H ⟨g, env, st, B, q⟩ => ⟨g, env, st, B.s, (sbind0 (R1 := rL k) B q).imp fun vs H1 ⟨ts, st1, g1, x1, B1, r1, q1⟩ => ?_⟩
  obtain ⟨env', e, q2⟩ := AfterS.ofEnv q1
  cases ts with
  | nil => cases e
  | cons t ts =>
    cases ts with
    | nil => cases e
    | cons u ts =>
      cases ts with
      | cons _ _ => cases e
      | nil =>
        cases e
        obtain ⟨w, ws, rfl, ra, r2⟩ := RepL.cons.mp r1
        obtain ⟨w', ws', rfl, rb, r3⟩ := RepL.cons.mp r2
        obtain rfl := RepL.nil.mp r3
        obtain ⟨S2, x2⟩ := B1.s.setFr i ra
        obtain ⟨S3, x3⟩ := S2.setFr j rb
        have x4 := (x1.trans x2).trans x3
        exact ⟨w, w', rfl, q2 _ H1 g1 x4 (B.ext x4 S3 ((B.b.set fun t' a' h h' => by cases h).set fun t' a' h h' => by cases h))⟩

/-! ### changes in place -/
theorem isOwn_of {s : Option Slot} (h : isOwn s = true) : ∃ xs, s = some (Slot.own (.lst xs)) := by
  cases s with
  | none => cases h
  | some s => cases s with
    | own t => cases t with
      | lst xs => exact ⟨xs, rfl⟩
      | _ => cases h
    | _ => cases h
theorem AfterS.upd {i : Nat} {f : Ev (List T)} {op : T → List T → Option T} (q : AfterS k W fr H00 g env st σ H D (sUpd i f op env st)) : (∃ xs, env[i]? = some (Slot.own (.lst xs))) ∧ AfterS k W fr H00 g env st σ H D (sBind f (fun ts => sEnv (updOwn i op ts)) env st) := by
  unfold sUpd at q
  cases h : isOwn env[i]? with
  | false => rw [h] at q; exact q.elim
  | true => rw [h] at q; exact ⟨isOwn_of h, q⟩
/-- x.append(e), x one's own -/
theorem st_app {s : Stmt} {f : EvT} {i : Nat} (h : PS X s (tDrop (tBM k.K "list" rAppend (tVar i) (tL k W [f])))) : PS X s (tSx k W fr H00 (sUpd i (evL [f]) opApp)) := by
  refine Mp.PS.imp h fun D σ H ⟨g, env, st, B, q⟩ => ?_
  obtain ⟨⟨xs, e⟩, q⟩ := q.upd
  obtain ⟨a, ea, vs, hv, rv⟩ := B.s.own i _ e
  refine ⟨.ref a, ea, .inl ⟨rfl, vs, SqL.of hv⟩, g, env, st, B.s, (sbind (R1 := rL k) B q).imp fun ws H1 ⟨ts, st1, g1, x1, B1, r1, q1⟩ => ?_⟩
  obtain ⟨env', e1, q2⟩ := AfterS.ofEnv q1
  unfold updOwn at e1
  rw [e] at e1
  cases h1 : opApp (.lst xs) ts with
  | none => simp [h1] at e1
  | some t' =>
    simp [h1] at e1
    subst e1
    cases ts with
    | nil => cases h1
    | cons x ts => cases ts with
      | cons _ _ => cases h1
      | nil =>
        have h1 : (if xs.length < 100000 then some (T.lst (xs ++ [x])) else none) = some t' := h1
        split at h1
        · rename_i hz
          cases h1
          obtain ⟨w, ws, rfl, ra, r2⟩ := RepL.cons.mp r1
          obtain rfl := RepL.nil.mp r2
          obtain ⟨a', ea', us, hu, ru⟩ := B1.s.own i _ e
          rw [ea] at ea'
          cases ea'
          have S2 := B1.s.updOwn (t' := .lst (xs ++ [x])) e ea hu (fun _ z => by cases z) (u := .lst (us ++ [w])) (fun _ _ _ z => by cases z) ⟨_, upd_same, ru.append (RepL.one ra)⟩
          refine ⟨a, us, w, rfl, rfl, hu, by rw [← ru.length, sizeLine_eq]; omega, ?_⟩
          refine q2 σ _ g1 S2.2 (B1.ext S2.2 S2.1 ?_)
          have := B.b.set (i := i) (s := .own (.lst (xs ++ [x]))) (v := some (.ref a)) fun t' a' _ h' => by cases h'; exact B.b i _ a e ea
          rw [set_same ea] at this
          exact this
        · cases h1
theorem ixOf_ixN {i : Int} {n j : Nat} (h : ixOf i n = some j) : ixN n i = some j := (ixN_of h).1
/-- x[i] = e, x one's own -/
theorem st_put {s : Stmt} {f fi : EvT} {i : Nat} (h : PS X s (tAsg (tV k W f) (gSub (tVar i) (tV k W fi) rSetL))) : PS X s (tSx k W fr H00 (sUpd i (evL [f, fi]) opPut)) := by
  refine Mp.PS.imp h fun D σ H ⟨g, env, st, B, q⟩ => ?_
  obtain ⟨⟨xs, e⟩, q⟩ := q.upd
  have q' : AfterS k W fr H00 g env st σ H D (sBind f (fun x => sBind fi fun y => sEnv (updOwn i opPut [x, y])) env st) := by
    unfold sBind at q ⊢
    unfold evL Ev.bind evL Ev.bind at q
    cases e1 : f env st with
    | bad => rw [e1] at q; exact q
    | err c vs st1 => rw [e1] at q; exact q
    | ok x st1 =>
      rw [e1] at q
      simp only at q ⊢
      cases e2 : fi env st1 with
      | bad => simp only [e2] at q ⊢; exact q
      | err c vs st2 => simp only [e2] at q ⊢; exact q
      | ok y st2 => simp only [e2] at q ⊢; exact q
  refine ⟨g, env, st, B.s, (sbind (R1 := rV k) B q').imp fun v H1 ⟨x, st1, g1, x1, B1, r1, q1⟩ => ?_⟩
  obtain ⟨a, ea, vs, hv, rv⟩ := B1.s.own i _ e
  refine ⟨.ref a, ea, g1, env, st1, B1.s, (sbind (R1 := rV k) B1 q1).imp fun w H2 ⟨y, st2, g2, x2, B2, r2, q2⟩ => ?_⟩
  obtain ⟨env', e1, q3⟩ := AfterS.ofEnv q2
  unfold updOwn at e1
  rw [e] at e1
  cases h1 : opPut (.lst xs) [x, y] with
  | none => simp [h1] at e1
  | some t' =>
    simp [h1] at e1
    subst e1
    cases y with
    | int j =>
      have h1 : (match ixOf j xs.length with | some k => some (T.lst (xs.set k x)) | none => none) = some t' := h1
      cases hj : ixOf j xs.length with
      | none => rw [hj] at h1; cases h1
      | some p =>
        rw [hj] at h1
        cases h1
        obtain ⟨a', ea', us, hu, ru⟩ := B2.s.own i _ e
        rw [ea] at ea'
        cases ea'
        have S2 := B2.s.updOwn (t' := .lst (xs.set p x)) e ea hu (fun _ z => by cases z) (u := .lst (us.set p v)) (fun _ _ _ z => by cases z) ⟨_, upd_same, ru.set p (Rep.mono x2.le _ _ r1)⟩
        refine ⟨a, us, j, p, rfl, Rep.int r2, hu, by rw [← ru.length]; exact ixOf_ixN hj, ?_⟩
        refine q3 σ _ g2 S2.2 (B2.ext S2.2 S2.1 ?_)
        have := B.b.set (i := i) (s := .own (.lst (xs.set p x))) (v := some (.ref a)) fun t' a' _ h' => by cases h'; exact B.b i _ a e ea
        rw [set_same ea] at this
        exact this
    | _ => cases h1
/-- o[i] = e, o a list of the store -/
theorem st_ix {s : Stmt} {f fo fi : EvT} (h : PS X s (tAsg (tV k W f) (gSub (tV k W fo) (tV k W fi) rSetL))) : PS X s (tSx k W fr H00 (sIx f fo fi)) := by
  refine Mp.PS.imp h fun D σ H ⟨g, env, st, B, q⟩ => ⟨g, env, st, B.s, (sbind (R1 := rV k) B q).imp fun v H1 ⟨x, st1, g1, x1, B1, r1, q1⟩ => ⟨g1, env, st1, B1.s, (sbind (R1 := rV k) B1 q1).imp fun o H2 ⟨y, st2, g2, x2, B2, r2, q2⟩ => ⟨g2, env, st2, B2.s, (sbind (R1 := rV k) B2 q2).imp fun w H3 ⟨z, st3, g3, x3, B3, r3, q3⟩ => ?_⟩⟩⟩
  unfold sSto at q3
  cases h1 : setIx st3 x y z with
  | none => simp only [h1] at q3; exact q3.elim
  | some st4 =>
    simp only [h1] at q3
    cases y with
    | obj n =>
      cases z with
      | int j =>
        have h1 : (match st3[n]? with
          | some (.lst xs) => (match ixOf j xs.length with
            | some k => some (st3.set n (.lst (xs.set k x)))
            | none => none)
          | _ => none) = some st4 := h1
        cases hc : st3[n]? with
        | none => rw [hc] at h1; cases h1
        | some c =>
          rw [hc] at h1
          cases c with
          | lst xs =>
            simp only at h1
            cases hj : ixOf j xs.length with
            | none => rw [hj] at h1; cases h1
            | some p =>
              rw [hj] at h1
              cases h1
              obtain ⟨us, hu, ru⟩ := B3.s.cell n _ hc
              have S2 := B3.s.updCell (xs' := xs.set p x) hc (ru.set p (Rep.mono (x2.le.trans x3.le) _ _ r1))
              obtain ⟨eo, hn⟩ := Rep.obj r2
              have ea : g3.α n = g2.α n := x3.le.a n hn
              refine ⟨g3.α n, us, j, p, by rw [ea]; exact eo, Rep.int r3, hu, by rw [← ru.length]; exact ixOf_ixN hj, ?_⟩
              exact q3 σ _ g3 S2.2 (B3.ext S2.2 S2.1 B3.b)
          | _ => cases h1
      | _ => cases h1
    | _ => cases h1
/-- x op= e -/
theorem cellB {n : Nat} {xs : List T} {v : V} (B : SB k H00 g env st σ H) (r : Rep k g (.obj n) v) (h : st[n]? = some (.lst xs)) : ∃ us, v = .ref (g.α n) ∧ H (g.α n) = some (.lst us) ∧ RepL k g xs us := by
  obtain ⟨us, hu, ru⟩ := B.s.cell n _ h
  exact ⟨us, (Rep.obj r).1, hu, ru⟩
theorem chkB {x : T} {kk : Unit → EvS} (q : AfterS k W fr H00 g env st σ H D (sBind (chkL x) kk env st)) : ∃ n xs, x = .obj n ∧ st[n]? = some (.lst xs) ∧ AfterS k W fr H00 g env st σ H D (kk () env st) := by
  cases x with
  | obj n =>
    cases e : st[n]? with
    | none => simp only [sBind, chkL, e] at q; exact q.elim
    | some c =>
      cases c with
      | lst xs => simp only [sBind, chkL, e] at q; exact ⟨n, xs, rfl, e, q⟩
      | _ => simp only [sBind, chkL, e] at q; exact q.elim
  | _ => simp only [sBind, chkL] at q; exact q.elim
theorem appSt_ok {st' : Store} {v x : T} (h : appSt st v x = some st') : ∃ n xs, x = .obj n ∧ st[n]? = some (.lst xs) ∧ xs.length < 100000 ∧ st' = st.set n (.lst (xs ++ [v])) := by
  unfold appSt at h
  split at h
  · split at h
    · split at h
      · cases h; exact ⟨_, _, rfl, by assumption, by assumption, rfl⟩
      · cases h
    · cases h
  · cases h
theorem st_appS {s : Stmt} {fo fe : EvT} (h : PS X s (tDrop (tBM k.K "list" rAppend (tV k W fo) (tCons (tV k W fe) tNil)))) : PS X s (tSx k W fr H00 (sAppS fo fe)) := by
  refine Mp.PS.imp h fun D σ H ⟨g, env, st, B, q⟩ => ⟨g, env, st, B.s, (sbind (R1 := rV k) B q).imp fun v H1 ⟨x, st1, g1, x1, B1, r1, q1⟩ => ?_⟩
  obtain ⟨n, xs, rfl, e1, q2⟩ := chkB q1
  obtain ⟨us, rfl, hu, ru⟩ := cellB B1 r1 e1
  refine ⟨.inl ⟨rfl, us, SqL.of hu⟩, g1, env, st1, B1.s, (sbind (R1 := rV k) B1 q2).imp fun w H2 ⟨y, st2, g2, x2, B2, r2, q3⟩ => ?_⟩
  unfold sSto at q3
  split at q3
  rotate_left
  · exact q3.elim
  rename_i s' e
  obtain ⟨n', ys, en, e3, hz, rfl⟩ := appSt_ok e
  cases en
  obtain ⟨ws, hw, rw1⟩ := B2.s.cell n _ e3
  have ea : g2.α n = g1.α n := x2.le.a n (Rep.obj r1).2
  have S2 := B2.s.updCell (xs' := ys ++ [y]) e3 (rw1.append (RepL.one r2))
  refine ⟨g2.α n, ws, w, by rw [ea], rfl, hw, by rw [← rw1.length, sizeLine_eq]; omega, ?_⟩
  exact q3 σ _ g2 S2.2 (B2.ext S2.2 S2.1 B2.b)
theorem st_appN {s : Stmt} {fo fe : EvT} (h : PS X s (tDrop (tBM k.K "list" rAppend (tV k W fo) (tCons (tF k W fe) tNil)))) : PS X s (tSx k W fr H00 (sAppN fo fe)) := by
  refine Mp.PS.imp h fun D σ H ⟨g, env, st, B, q⟩ => ⟨g, env, st, B.s, (sbind (R1 := rV k) B q).imp fun v H1 ⟨x, st1, g1, x1, B1, r1, q1⟩ => ?_⟩
  obtain ⟨n, xs, rfl, e1, q2⟩ := chkB q1
  obtain ⟨us, rfl, hu, ru⟩ := cellB B1 r1 e1
  refine ⟨.inl ⟨rfl, us, SqL.of hu⟩, g1, env, st1, B1.s, (sbind0 (R1 := rF k) B1 q2).imp fun w H2 ⟨y, st2, g2, x2, B2, r2, q3⟩ => ?_⟩
  cases y with
  | lst zs =>
    obtain ⟨b, bs, rfl, h0, hb, rb, nb⟩ := r2
    unfold appNew sSto at q3
    simp only at q3
    split at q3
    rotate_left
    · exact q3.elim
    rename_i s' e
    obtain ⟨n', ys, en, e3, hz, rfl⟩ := appSt_ok e
    cases en
    obtain ⟨S3, le, eb⟩ := B2.s.newCell nb hb rb
    have x3 := x2.newCell (xs := zs) B2.s (fun z => absurd h0 z)
    obtain ⟨ws, hw, rw1⟩ := S3.cell n _ e3
    have hn := (Rep.obj r1).2
    have ea : (g2.cell b).α n = g1.α n := x3.le.a n hn
    have rp : Rep k (g2.cell b) (.obj st2.length) (.ref b) := by
      unfold Rep
      refine ⟨by rw [eb], ?_⟩
      rw [← B2.s.sz]
      exact Nat.lt_succ_self _
    have S4 := S3.updCell (xs' := ys ++ [.obj st2.length]) e3 (rw1.append (RepL.one rp))
    refine ⟨(g2.cell b).α n, ws, .ref b, by rw [ea], rfl, hw, by rw [← rw1.length, sizeLine_eq]; omega, ?_⟩
    exact q3 σ _ _ (x3.trans S4.2) (B1.ext (x3.trans S4.2) S4.1 B1.b)
  | _ => exact q3.elim
theorem st_clrS {s : Stmt} {fo : EvT} (h : PS X s (tDrop (tBM0 k.K "list" rClear (tV k W fo)))) : PS X s (tSx k W fr H00 (sClrS fo)) := by
  refine Mp.PS.imp h fun D σ H ⟨g, env, st, B, q⟩ => ⟨g, env, st, B.s, (sbind (R1 := rV k) B q).imp fun v H1 ⟨x, st1, g1, x1, B1, r1, q1⟩ => ?_⟩
  unfold sSto at q1
  split at q1
  rotate_left
  · exact q1.elim
  rename_i s' e0
  have e : clrSt st1 x = some s' := e0
  clear e0
  unfold clrSt at e
  split at e
  · rename_i n
    split at e
    · rename_i xs hc
      cases e
      obtain ⟨us, rfl, hu, ru⟩ := cellB B1 r1 hc
      have S2 := B1.s.updCell (xs' := []) hc (RepL.nil.mpr rfl)
      exact ⟨.inl ⟨rfl, us, SqL.of hu⟩, g1.α n, us, rfl, rfl, hu, q1 σ _ g1 S2.2 (B1.ext S2.2 S2.1 B1.b)⟩
    · cases e
  · cases e
theorem st_expr {s : Stmt} {f : EvT} (h : PS X s (tDrop (tV k W f))) : PS X s (tSx k W fr H00 (sExpr f)) :=
  Mp.PS.imp h fun D σ H ⟨g, env, st, B, q⟩ => ⟨g, env, st, B.s, (sbind (R1 := rV k) B q).imp fun v H1 ⟨x, st1, g1, x1, B1, r1, q1⟩ => q1 σ H1 g1 Ext.refl B1⟩
/-- o.f = e -/
theorem st_fld {s : Stmt} {G : Genv} {f : Str} {fe fo : EvT} (hG : ∀ c fs, G.fld.lookup c = some fs → fs.contains f = true → Cls X.K (k.cl c) ∧ NoAttr X.K (k.cl c) f) (h : PS X s (sFld X.K (tV k W fo) (tV k W fe) f)) : PS X s (tSx k W fr H00 (sFldS G f fe fo)) := by
  refine Mp.PS.imp h fun D σ H ⟨g, env, st, B, q⟩ => ⟨g, env, st, B.s, (sbind (R1 := rV k) B q).imp fun v H1 ⟨x, st1, g1, x1, B1, r1, q1⟩ => ⟨g1, env, st1, B1.s, (sbind (R1 := rV k) B1 q1).imp fun w H2 ⟨y, st2, g2, x2, B2, r2, q2⟩ => ?_⟩⟩
  unfold sSto at q2
  split at q2
  rotate_left
  · exact q2.elim
  rename_i s' e
  have e : setFldG G f st2 x y = some s' := e
  unfold setFldG at e
  split at e
  rotate_left
  · cases e
  rename_i cn hc
  split at e
  rotate_left
  · cases e
  rename_i fs hf
  split at e
  rotate_left
  · cases e
  rename_i hm
  have rw1 : ∃ a, w = .ref a := by
    cases y with
    | ins c ns ts => unfold rV Rep at r2; obtain ⟨a, _, _, e, _⟩ := r2; exact ⟨a, e⟩
    | obj n => unfold rV Rep at r2; exact ⟨_, r2.1⟩
    | _ => cases hc
  obtain ⟨a, rfl⟩ := rw1
  obtain ⟨c', dx, gs, h1, h2, ⟨n, rfl, h3⟩, S3, x3⟩ := B2.s.setFld e (Rep.mono x2.le _ _ r1) r2
  rw [hc] at h3
  cases h3
  obtain ⟨c1, n1⟩ := hG cn fs hf hm
  exact ⟨a, _, dx, gs, rfl, h1, c1, n1, h2, q2 σ _ g2 x3 (B2.ext x3 S3 B2.b)⟩
theorem st_aug {s : Stmt} {f : EvT} {i : Nat} {op : T → T → Option T} {r : R2} (ho : OpOk k (pV k) r fun _ => op) (h : PS X s (tAug i (tV k W f) r)) : PS X s (tSx k W fr H00 (sAug i op f)) := by
  refine Mp.PS.imp h fun D σ H ⟨g, env, st, B, q⟩ => ?_
  unfold sAug at q
  cases e : env[i]? with
  | none => rw [e] at q; exact q.elim
  | some sl =>
    cases sl with
    | fr x =>
      rw [e] at q
      obtain ⟨v, ev, rv⟩ := B.s.fr i x e
      refine ⟨v, ev, g, env, st, B.s, (sbind (R1 := rV k) B q).imp fun w H1 ⟨y, st1, g1, x1, B1, r1, q1⟩ => ?_⟩
      obtain ⟨env', e1, q2⟩ := AfterS.ofEnv q1
      cases hz : op x y with
      | none => rw [hz] at e1; cases e1
      | some z =>
        rw [hz] at e1
        cases e1
        refine ho st1 x y z hz g1 env σ H1 v w _ B1.s (.inl (Rep.mono x1.le _ _ rv)) (.inl r1) fun u H' pz => ?_
        obtain ⟨g', x2, S2, r2⟩ := post_V g1 env st1 σ H1 H1 z u H' B1.s (fun _ h => h) pz
        obtain ⟨S3, x3⟩ := S2.setFr i r2
        exact q2 _ H' g' (x2.trans x3) (B1.ext (x2.trans x3) S3 (B1.b.set fun t' a' h h' => by cases h))
    | _ => rw [e] at q; exact q.elim
/-- own ones that become values -/
theorem SB.frzE : ∀ (is : List Nat) {g : Gh} {env : En}, SB k H00 g env st σ H → ∃ g', SB k H00 g' (Mp.frzE is env) st σ H ∧ Ext g env st σ H g' (Mp.frzE is env) st σ H
  | [], g, env, B => ⟨g, B, Ext.refl⟩
  | i :: is, g, env, B => by
    unfold Mp.frzE
    split
    · rename_i t e
      obtain ⟨g1, S1, x1⟩ := B.s.frzOwn e
      have b1 : Born H00 (env.set i (.fr t)) σ := B.b.old fun j u h => by
        by_cases hj : i = j
        · subst hj
          rw [List.getElem?_set_self (List.getElem?_eq_some_iff.mp e).1] at h
          cases h
        · rw [List.getElem?_set_ne hj] at h
          exact ⟨h, rfl⟩
      obtain ⟨g2, B2, x2⟩ := SB.frzE is (B.ext x1 S1 b1)
      exact ⟨g2, B2, x1.trans x2⟩
    · exact SB.frzE is B
theorem st_frz {s : Stmt} {f : EvS} (is : List Nat) (h : PS X s (tSx k W fr H00 f)) : PS X s (tSx k W fr H00 (frz is f)) := by
  refine Mp.PS.imp h fun D σ H ⟨g, env, st, B, q⟩ => ?_
  obtain ⟨g', B', x⟩ := B.frzE is
  exact ⟨g', frzE is env, st, B', AfterS.shift x q⟩
theorem st_sFrz {s : Stmt} {f : EvS} (is : List Nat) (h : PS X s (tSx k W fr H00 f)) : PS X s (tSx k W fr H00 (sFrz is f)) := by
  cases is with
  | nil => exact h
  | cons i is => exact st_frz (i :: is) h

/-! ### loops -/
theorem st_while {s : Stmt} {c : EvB} {body : EvS} (h : PS X s (tWhile (tT k W c) (tSx k W fr H00 body))) (n : Nat) : PS X s (tSx k W fr H00 (whileL c body n)) := by
  refine Mp.PS.imp h fun D σ H ⟨g, env, st, B, q⟩ => ?_
  refine ⟨fun m σ' H' => ∃ g' env' st', SB k H00 g' env' st' σ' H' ∧ AfterS k W fr H00 g' env' st' σ' H' D (whileL c body m env' st'), ⟨n, g, env, st, B, q⟩, ?_⟩
  rintro m σ1 H1 ⟨g1, env1, st1, B1, q1⟩
  cases m with
  | zero => exact q1.elim
  | succ m =>
    unfold whileL at q1
    refine ⟨g1, env1, st1, B1.s, ?_⟩
    cases ec : c env1 st1 with
    | bad => rw [ec] at q1; exact q1
    | err cc vs st2 =>
      rw [ec] at q1
      exact fun cls d H' g' x S h => q1 cls d σ1 H' g' x (B1.ext x S B1.b) h
    | ok b st2 =>
      rw [ec] at q1
      intro bv H2 g2 x2 S2 rb
      obtain rfl : b = bv := rb
      have B2 := B1.ext x2 S2 B1.b
      cases b with
      | false => rw [if_neg (by decide)]; exact q1 σ1 H2 g2 x2 B2
      | true =>
        rw [if_pos rfl]
        refine ⟨fun σ' H' => ∃ g' env' st', SB k H00 g' env' st' σ' H' ∧ AfterS k W fr H00 g' env' st' σ' H' D (whileL c body m env' st'), fun σ' H' h => ⟨m, Nat.lt_succ_self m, h⟩, g2, env1, st2, B2, ?_⟩
        simp only at q1
        cases eb : body env1 st2 with
        | bad => rw [eb] at q1; exact q1
        | err cc vs e3 st3 => rw [eb] at q1; exact AfterS.shift (r := .err cc vs e3 st3) x2 q1
        | ok fl e3 st3 =>
          rw [eb] at q1
          cases fl with
          | nx => exact fun σ' H' g' x3 B3 => ⟨g', e3, st3, B3, AfterS.shift (x2.trans x3) q1⟩
          | ct => exact fun σ' H' g' x3 B3 => ⟨g', e3, st3, B3, AfterS.shift (x2.trans x3) q1⟩
          | brk => exact fun σ' H' g' x3 B3 => q1 σ' H' g' (x2.trans x3) B3
          | ret t => exact fun v σ' H' g' x3 B3 r => q1 v σ' H' g' (x2.trans x3) B3 r
theorem st_for {s : Stmt} {fi : EvI} {gt : Tg} {gT : TG} {body : EvS} (hg : GOwn k gt gT) (h : PS X s (tFor (tI k W fi) gT (tSx k W fr H00 body))) : PS X s (tSx k W fr H00 (sFor fi gt body)) := by
  refine Mp.PS.imp h fun D σ H ⟨g, env, st, B, q⟩ => ⟨g, env, st, B.s, (sbind (R1 := rI k) B q).imp fun J H1 ⟨xs, st1, g1, x1, B1, r1, q1⟩ => ?_⟩
  refine ⟨fun i m σ' H' => m = xs.length - i ∧ i ≤ xs.length ∧ ∃ g' env' st', GLe g1 g' ∧ SB k H00 g' env' st' σ' H' ∧ AfterS k W fr H00 g' env' st' σ' H' D (forL gt body (xs.drop i) env' st'), ⟨xs.length, by simp, Nat.zero_le _, g1, env, st1, GLe.refl _, B1, by simpa using q1⟩, ?_⟩
  rintro i m σ2 H2 ⟨rfl, hi, g2, env2, st2, le, B2, q2⟩
  have it := r1 i g2 env2 st2 σ2 H2 le B2.s
  by_cases hlt : i < xs.length
  · right
    obtain ⟨go, yl⟩ := it.1 xs[i] (by simp [hlt])
    rw [List.drop_eq_getElem_cons hlt] at q2
    refine ⟨go, fun σ' H' => ∃ g' env' st', GLe g1 g' ∧ SB k H00 g' env' st' σ' H' ∧ AfterS k W fr H00 g' env' st' σ' H' D (forL gt body (xs.drop (i + 1)) env' st'), fun σ' H' h => ⟨xs.length - (i + 1), by omega, rfl, hlt, h⟩, fun x H' y => ?_⟩
    obtain ⟨g3, gr, rx⟩ := yl x H' y
    unfold forL at q2
    cases hp : Tg.put gt xs[i] env2 with
    | none => rw [hp] at q2; exact q2.elim
    | some env3 =>
      rw [hp] at q2
      simp only at q2
      have S3 := B2.s.grow gr
      have x3 := Ext.grow B2.s gr
      refine hg xs[i] env2 env3 hp H00 g3 st2 σ2 H' x _ (B2.ext x3 S3 B2.b) rx fun σ4 B4 x4 => ⟨g3, env3, st2, B4, ?_⟩
      cases eb : body env3 st2 with
      | bad => rw [eb] at q2; exact q2
      | err cc vs e5 st5 => rw [eb] at q2; exact AfterS.shift (r := .err cc vs e5 st5) (x3.trans x4) q2
      | ok fl e5 st5 =>
        rw [eb] at q2
        have le3 : GLe g1 g3 := le.trans gr.le
        cases fl with
        | nx => exact fun σ' H' g' x5 B5 => ⟨g', e5, st5, le3.trans x5.le, B5, AfterS.shift ((x3.trans x4).trans x5) q2⟩
        | ct => exact fun σ' H' g' x5 B5 => ⟨g', e5, st5, le3.trans x5.le, B5, AfterS.shift ((x3.trans x4).trans x5) q2⟩
        | brk => exact fun σ' H' g' x5 B5 => q2 σ' H' g' ((x3.trans x4).trans x5) B5
        | ret t => exact fun v σ' H' g' x5 B5 r => q2 v σ' H' g' ((x3.trans x4).trans x5) B5 r
  · have ei : i = xs.length := by omega
    subst ei
    left
    rw [List.drop_length] at q2
    exact ⟨it.2 (Nat.le_refl _), q2 σ2 H2 g2 Ext.refl B2⟩
end
end Mp


set_option Elab.async false
set_option linter.all false
set_option maxRecDepth 100000
set_option maxHeartbeats 1000000
/-! Snd: what the interpreter tells of a text the model does. -/
namespace Mp
open PySem PySem.Spec PyProof.Rows L2
/-- a def that calls what it gets -/
def HofOk (k : Gk) (mg : Str → Option Value) (P : Program) (w : World) (base : Heap) (x : Str) : HofE → Prop
  | .tried w0 hs => ∃ g fd act n body sg, mg x = some (.ref g) ∧ PySem.W.keepIn k.K (.ref g) = true ∧ TrD k mg g fd x act n w0 hs body sg
  | .is w0 hs like => ∃ gy fy act due l t by_ sy gt ft act' n bt st_ gl fl, mg x = some (.ref gy) ∧ PySem.W.keepIn k.K (.ref gy) = true ∧ IsD k mg gy fy x act due l t by_ sy ∧ mg t = some (.ref gt) ∧ PySem.W.keepIn k.K (.ref gt) = true ∧ TrD k mg gt ft t act' n w0 hs bt st_ ∧
      mg l = some (.ref gl) ∧ PySem.W.keepIn k.K (.ref gl) = true ∧ Binds k.K fl like.ps [] ∧ FnOk P w k.K mg base (L2.CX P w) like.lvl gl fl like.ps (spOf k like.fresh like.fn)
/-- the module's facts -/
structure GenOk (k : Gk) (G : Genv) (P : Program) (w : World) (K : PySem.W.Frag) (mg : Str → Option Value) (base : Heap) : Prop where
  consts : ∀ x t, G.consts.lookup x = some t → ∃ u v, mg x = some u ∧ RelV v u ∧ ∀ g, Rep k g t v
  fns : ∀ x e, G.fns.lookup x = some e → ∃ f fd, mg x = some (.ref f) ∧ PySem.W.keepIn K (.ref f) = true ∧ Binds K fd e.ps [] ∧ FnOk P w K mg base (L2.CX P w) e.lvl f fd e.ps (spOf k e.fresh e.fn)
  blt : ∀ x, G.known x = false → bltNames.contains x = true → mg x = none
  cls : ∀ x e, G.cls.lookup x = some e → ∃ f fd ps, mg x = some (.ref (k.cl x)) ∧ Mk K (k.cl x) f ∧ FnOk P w K mg base (L2.CX P w) e.lvl f fd ps (spOf k false e.fn) ∧
    ∀ sh ∈ e.shp, ∃ gA gV, KBn K fd ps (sh.np + 1) sh.ks gA gV ∧ ∀ (gh : Gh) (x : Addr) ts vs zs ws us, RepL k gh ts vs → RepL k gh zs ws → vs.length = sh.np → ws.length = sh.ks.length → fillT sh.src ts zs = some us → ∃ vs', gV (.ref x :: vs) ws = .ref x :: vs' ∧ RepL k gh us vs'
  fld : ∀ c fs f, G.fld.lookup c = some fs → fs.contains f = true → Cls K (k.cl c) ∧ NoAttr K (k.cl c) f
  mth : ∀ m ents c e, G.mth.lookup m = some ents → ents.lookup c = some e → ∃ f fd, Cls K (k.cl c) ∧ Meth K (k.cl c) m f ∧ Binds K fd e.ps [] ∧ FnOk P w K mg base (L2.CX P w) e.lvl f fd e.ps (spOf k e.fresh e.fn)
  xn : k.xn = fun c => G.exc.lookup c
  exc : ExcOk k mg
  rse : ∀ c ns, G.exc.lookup c = some ns → RaiseOk k P w mg base c ns
  hof : ∀ x e, G.hof.lookup x = some e → HofOk k mg P w base x e
structure COk (k : Gk) (c : Cfg) (X : Cx) (W : L2.WX) : Prop where
  hK : X.K = k.K
  hN : X.N = c.N
  nd : c.N.Nodup
  nm : (c.N.all fun x => !(x == ("__debug__" : Str)) && !(x == ("__classdict__" : Str))) = true
  kd : X.env.scope.kind = .function
  sc : X.env.scope.names = c.sc
  calm : X.calm = true
  tk : Takes X W
  po : PassesOwn (model X.prog X.w) X.A X.env X.xe
  room : ∀ j, j < c.lvl → Room j X.A
  un : X.A.units + 70 < cLine
  set : ∀ x, c.set.contains x = true → c.sc.lookup x = some .cell → X.fn x = true
  G : GenOk k c.G X.prog X.w X.K X.mg X.base
  lam : ∀ ti q, c.lam = some (ti, q) → LamAt k X q
section
variable {k : Gk} {c : Cfg} {X : Cx} {W : L2.WX}
theorem ixS_get {x : Str} : ∀ {N : List Str} {i : Nat}, ixS x N = some i → N[i]? = some x
  | [], i, h => by cases h
  | y :: ys, i, h => by
    unfold ixS at h
    split at h
    · rename_i e
      cases h
      have : y = x := by simpa using e
      subst this
      rfl
    · cases h2 : ixS x ys with
      | none => rw [h2] at h; cases h
      | some j =>
        rw [h2] at h
        cases h
        simpa using ixS_get h2
theorem slot_of (C : COk k c X W) {x : Str} {i : Nat} (h : c.slot x = some i) : X.N[i]? = some x ∧ Vis X.env.scope x := by
  unfold Cfg.slot at h
  unfold Vis
  rw [C.sc, C.hN]
  split at h
  · cases h; exact ⟨ixS_get (by assumption), .inl (by assumption)⟩
  · cases h; exact ⟨ixS_get (by assumption), .inr (.inl (by assumption))⟩
  · cases h; exact ⟨ixS_get (by assumption), .inr (.inr (by assumption))⟩
  · cases h
theorem setSlot_of (C : COk k c X W) {x : Str} {i : Nat} (h : c.setSlot x = some i) : X.N[i]? = some x ∧ L2.Loc X.env.scope x ∧ (X.fn x = true ∨ X.env.scope.names.lookup x = some .local) ∧ c.set.contains x = true := by
  unfold Cfg.setSlot at h
  unfold L2.Loc
  rw [C.sc, C.hN]
  split at h
  · split at h
    · cases h; exact ⟨ixS_get (by assumption), .inl (by assumption), .inr (by assumption), by assumption⟩
    · cases h
  · split at h
    · cases h; exact ⟨ixS_get (by assumption), .inr (by assumption), .inl (C.set x (by assumption) (by assumption)), by assumption⟩
    · cases h
  · cases h
theorem glob_of (C : COk k c X W) {x : Str} (h : c.glob x = true) : Gl X x ∧ (x == ("__debug__" : Str)) = false := by
  unfold Cfg.glob at h
  show X.env.scope.names.lookup x = some .globalImplicit ∧ _
  rw [C.sc]
  split at h
  · exact ⟨by assumption, by simpa using h⟩
  · cases h
theorem name_of (C : COk k c X W) {x : Str} {i : Nat} (h : X.N[i]? = some x) : (x == ("__debug__" : Str)) = false ∧ (x == ("__classdict__" : Str)) = false := by
  have h2 := List.all_eq_true.mp C.nm x (List.mem_of_getElem? (by rw [← C.hN]; exact h))
  simpa using h2
theorem blt_of (C : COk k c X W) {x : Str} (h : c.blt x = true) : Gl X x ∧ X.mg x = none ∧ bltNames.contains x = true := by
  unfold Cfg.blt at h
  rw [Bool.and_eq_true, Bool.and_eq_true] at h
  obtain ⟨⟨h1, h2⟩, h3⟩ := h
  exact ⟨(glob_of C h1).1, C.G.blt x (by simpa using h2) h3, h3⟩

/-! ### the operators' table -/
theorem bin_table (hK : X.K = k.K) {op : Operator} {f : T → T → Option T} (h : binOp op = some f) : ∃ r, OpR X (binaryOp op) r ∧ OpOk k (pF k) r fun _ => f := by
  cases op with
  | Add => cases h; exact ⟨_, op_addM hK, ok_add⟩
  | Sub => cases h; exact ⟨_, op_sub, ok_sub⟩
  | Mult => cases h; exact ⟨_, op_mulM hK, ok_mul⟩
  | FloorDiv => cases h; exact ⟨_, op_fdivW, ok_div⟩
  | Mod => cases h; exact ⟨_, op_mod, ok_mod⟩
  | Pow => cases h; exact ⟨_, op_pow, ok_pow⟩
  | _ => cases h
theorem cmp_table (hK : X.K = k.K) (hu : X.A.units + 70 < cLine) {op : CmpOp} {f : T → T → Option T} (h : cmpOp op = some f) : ∃ r, OpR X (compareOp op) r ∧ OpOk k (pF k) r fun _ => f := by
  cases op with
  | Lt => cases h; exact ⟨_, op_lt, ok_lt⟩
  | LtE => cases h; exact ⟨_, op_le, ok_le⟩
  | Gt => cases h; exact ⟨_, op_gt, ok_gt⟩
  | GtE => cases h; exact ⟨_, op_ge, ok_ge⟩
  | Eq => cases h; exact ⟨_, op_eqD (by omega), by rw [hK]; exact ok_eq⟩
  | NotEq => cases h; exact ⟨_, op_neD (by omega), by rw [hK]; exact ok_ne⟩
  | In => cases h; exact ⟨_, op_inM hK hu, ok_in⟩
  | NotIn => cases h; exact ⟨_, op_notInM hK hu, ok_notIn⟩
  | Is => cases h; exact ⟨_, op_isN, ok_isN⟩
  | IsNot => cases h; exact ⟨_, op_notN, ok_notN⟩

/-! ### targets -/
mutual
def gOf (K : PySem.W.Frag) : Tg → TG
  | .name i => gName i
  | .tup gs => gTup K gs.length (gsOf K gs)
def gsOf (K : PySem.W.Frag) : List Tg → TGs
  | [] => gNil
  | g :: gs => gCons (gOf K g) (gsOf K gs)
end
mutual
theorem gown_of : ∀ (g : Tg), GOwn k g (gOf k.K g)
  | .name i => by unfold gOf; exact gown_name
  | .tup gs => by unfold gOf; exact gown_tup (gsown_of gs) rfl
theorem gsown_of : ∀ (gs : List Tg), GsOwn k gs (gsOf k.K gs)
  | [] => by unfold gsOf; exact gsown_nil
  | g :: gs => by unfold gsOf; exact gsown_cons (gown_of g) (gsown_of gs)
end
mutual
/-- a target's slots are among P -/
def TgIn (P : Nat → Prop) : Tg → Prop
  | .name i => P i
  | .tup gs => TgsIn P gs
def TgsIn (P : Nat → Prop) : List Tg → Prop
  | [] => True
  | g :: gs => TgIn P g ∧ TgsIn P gs
end
mutual
theorem gok_of {P : Nat → Prop} : ∀ (g : Tg), TgIn P g → GOk k P g (gOf k.K g)
  | .name i, h => by unfold gOf; unfold TgIn at h; exact gok_name h
  | .tup gs, h => by unfold gOf; unfold TgIn at h; exact gok_tup (gsok_of gs h) rfl
theorem gsok_of {P : Nat → Prop} : ∀ (gs : List Tg), TgsIn P gs → GsOk k P gs (gsOf k.K gs)
  | [], _ => by unfold gsOf; exact gsok_nil
  | g :: gs, h => by unfold gsOf; unfold TgsIn at h; exact gsok_cons (gok_of g h.1) (gsok_of gs h.2)
end
theorem each_cons {e : Expr} {es : List Expr} {env : Env} (h : isStar e = false) : assignEach (e :: es) env = (false, assign e env) :: assignEach es env := by
  cases e <;> first | rfl | (cases h; done)
theorem dG_ok (C : COk k c X W) : ∀ (n : Nat), (∀ (e : Expr) (g : Tg), dG c n e = some g → isStar e = false ∧ PG X e (gOf k.K g) ∧ ∀ P : Nat → Prop, (∀ x i, c.setSlot x = some i → P i) → TgIn P g)
  | 0 => fun e g h => by cases h
  | n + 1 => fun e g h => by
    unfold dG at h
    split at h
    · rename_i x p
      cases h1 : c.setSlot x with
      | none => rw [h1] at h; cases h
      | some i =>
        rw [h1] at h
        cases h
        obtain ⟨a, b, d, _⟩ := setSlot_of C h1
        refine ⟨rfl, ?_, fun P hP => by unfold TgIn; exact hP x i h1⟩
        unfold gOf
        exact pg_name (by rw [C.hN]; exact C.nd) a b d
    · rename_i es k' p
      cases h1 : es.mapM (dG c n) with
      | none => rw [h1] at h; cases h
      | some gs =>
        rw [h1] at h
        cases h
        have all : ∀ (es : List Expr) (gs : List Tg), es.mapM (dG c n) = some gs → PGs X es (gsOf k.K gs) ∧ (assignEach es X.env).length = gs.length ∧ (assignEach es X.env).findIdx? (·.1) = none ∧ ∀ P : Nat → Prop, (∀ x i, c.setSlot x = some i → P i) → TgsIn P gs := by
          intro es
          induction es with
          | nil =>
            intro gs h
            cases h
            refine ⟨by unfold gsOf; exact pgs_nil, rfl, rfl, fun P hP => by unfold TgsIn; trivial⟩
          | cons e es ih =>
            intro gs h
            rw [List.mapM_cons] at h
            cases h2 : dG c n e with
            | none => rw [h2] at h; cases h
            | some g =>
              rw [h2] at h
              cases h3 : es.mapM (dG c n) with
              | none => rw [h3] at h; cases h
              | some gs2 =>
                rw [h3] at h
                cases h
                obtain ⟨a, b, d⟩ := dG_ok C n e g h2
                obtain ⟨a2, b2, c2, d2⟩ := ih gs2 h3
                refine ⟨?_, ?_, ?_, fun P hP => ?_⟩
                · unfold gsOf
                  exact pgs_cons b a2 (by rw [each_cons a]; rfl)
                · rw [each_cons a]; simp [b2]
                · rw [each_cons a, List.findIdx?_cons, c2]; rfl
                · unfold TgsIn
                  exact ⟨d P hP, d2 P hP⟩
        obtain ⟨a, b, d, f⟩ := all es gs h1
        refine ⟨rfl, ?_, fun P hP => by unfold TgIn; exact f P hP⟩
        unfold gOf
        rw [← C.hK] at a ⊢
        exact pg_tup C.calm a b d
    · cases h
/-- where a target stores -/
theorem dG_in (c : Cfg) : ∀ (n : Nat) (e : Expr) (g : Tg), dG c n e = some g → ∀ P : Nat → Prop, (∀ x i, c.setSlot x = some i → P i) → TgIn P g
  | 0 => fun e g h => by cases h
  | n + 1 => fun e g h P hP => by
    unfold dG at h
    split at h
    · rename_i x p
      cases h1 : c.setSlot x with
      | none => rw [h1] at h; cases h
      | some i =>
        rw [h1] at h
        cases h
        unfold TgIn
        exact hP x i h1
    · rename_i es k' p
      cases h1 : es.mapM (dG c n) with
      | none => rw [h1] at h; cases h
      | some gs =>
        rw [h1] at h
        cases h
        have all : ∀ (es : List Expr) (gs : List Tg), es.mapM (dG c n) = some gs → TgsIn P gs := by
          intro es
          induction es with
          | nil =>
            intro gs h
            cases h
            unfold TgsIn; trivial
          | cons e es ih =>
            intro gs h
            rw [List.mapM_cons] at h
            cases h2 : dG c n e with
            | none => rw [h2] at h; cases h
            | some g =>
              rw [h2] at h
              cases h3 : es.mapM (dG c n) with
              | none => rw [h3] at h; cases h
              | some gs2 =>
                rw [h3] at h
                cases h
                unfold TgsIn
                exact ⟨dG_in c n e g h2 P hP, ih gs2 h3⟩
        unfold TgIn
        exact all es gs h1
    · cases h
end
end Mp


set_option Elab.async false
set_option linter.all false
set_option maxRecDepth 100000
set_option maxHeartbeats 1000000
/-! Mth: methods, fields, new instances. -/
namespace Mp
open PySem PySem.Spec PyProof.Rows L2
theorem base_of {o : Expr} {m : Str} {env : Env} {w : Sem Value} (h : okBase o = true) : attributeBase o m env w = w := by
  cases o with
  | Call f as ks p =>
    cases f with
    | Name x q =>
      cases as with
      | nil =>
        cases ks with
        | nil => cases h
        | cons a b => rfl
      | cons a b => rfl
    | _ => rfl
  | _ => rfl
theorem star_eq' {e : Expr} {es : List Expr} {env : Env} (h : isStar e = false) : starEach (e :: es) env = (false, eval e env) :: starEach es env := by
  cases e <;> first | rfl | (cases h; done)
theorem star_all {env : Env} {pos : Pos} : ∀ {es : List Expr}, es.any isStar = false → (backTo pos (starEach es env)).all (fun x => !x.1) = true ∧ (backTo pos (starEach es env)).any (·.1) = false
  | [], _ => ⟨rfl, rfl⟩
  | e :: es, h => by
    rw [List.any_cons, Bool.or_eq_false_iff] at h
    obtain ⟨h1, h2⟩ := star_all (env := env) (pos := pos) h.2
    rw [star_eq' h.1]
    refine ⟨?_, ?_⟩
    · show (!false && _) = true
      rw [Bool.and_eq_true]
      exact ⟨rfl, h1⟩
    · show (false || _) = false
      rw [Bool.false_or]
      exact h2
theorem meth_form {o : Expr} {m : Str} {apos pos : Pos} {args : List Expr} {env : Env} (hb : attributeBase o m env (eval o env) = eval o env) (hs : args.any isStar = false) (hn : args.length < 20) (hl : (apos.endLine == pos.line) = true) :
    eval (.Call (.Attribute o m apos) args [] pos) env = (do
      let ov ← eval o env
      standAt apos.atName
      let (f, first) ← holding [ov] (getMethod ov m (do return (← importBound o env).getD true))
      callWith pos f first (backTo pos (starEach args env)) (backToKw pos (keywordEach [] env))) := by
  have hf : methodCallForm (args.length + 0) (backTo pos (starEach args env)) (backToKw pos (keywordEach [] env)) = true := by
    unfold methodCallForm
    rw [Bool.and_eq_true, Bool.and_eq_true, decide_eq_true_iff]
    refine ⟨⟨(star_all hs).1, rfl⟩, ?_⟩
    show args.length + 0 + 0 < 30
    omega
  have e0 : eval (.Call (.Attribute o m apos) args [] pos) env = (do
      let ov ← attributeBase o m env (eval o env)
      standAt apos.atName
      methodCall o m apos pos env ov (args.length + 0) (backTo pos (starEach args env)) (backToKw pos (keywordEach [] env))) := rfl
  rw [e0, hb]
  unfold methodCall calleeOf methodCallPos
  rw [hf, hl]
  rfl
section
variable {k : Gk} {c : Cfg} {X : Cx} {W : L2.WX}
/-! ### fields -/
theorem sx_fld (C : COk k c X W) {o : Expr} {f : Str} {pos : Pos} {fo : EvT} (ho : PE X o (tV k W fo)) (hb : okBase o = true) : PE X (.Attribute o f pos) (tV k W (ev1S (fldG c.G f) fo)) := by
  refine Mp.PE.imp (pe_fld ho (base_of hb)) fun σ H Q ⟨g, env, st, S, q⟩ => ⟨g, env, st, S, (q.bind (R1 := rV k) m0V).imp fun v H1 ⟨x, st1, g1, x1, S1, r1, q1⟩ => ?_⟩
  obtain ⟨z, eo, q2⟩ := After.opt (o := fldG c.G f st1 x) q1
  unfold fldG at eo
  split at eo
  rotate_left
  · cases eo
  rename_i cn hc
  split at eo
  rotate_left
  · cases eo
  rename_i fs hf
  split at eo
  rotate_left
  · cases eo
  rename_i hm
  obtain ⟨a, c', dx, gs, w, rfl, h1, h2, h3, h4⟩ := fld_of S1 eo r1
  rw [hc] at h2
  cases h2
  obtain ⟨c1, n1⟩ := C.G.fld cn fs f hf hm
  rw [C.hK]
  refine ⟨a, _, dx, gs, w, rfl, h1, by rw [← C.hK]; exact c1, by rw [← C.hK]; exact n1, h3, q2 w H1 g1 Ext.refl S1 h4⟩

/-! ### methods -/
theorem ins_at {g : Gh} {env : En} {st : Store} {σ : L2.St} {H : Hp} {x : T} {v : V} {cn : Str} (S : SR k g env st σ H) (r : Rep k g x v) (h : clsOf st x = some cn) : ∃ a dx ws, v = .ref a ∧ H a = some (.ins (k.cl cn) dx ((nsOf st x).zip ws)) := by
  cases x with
  | ins c ns ts =>
    cases h
    unfold Rep at r
    obtain ⟨a, dx, ws, rfl, h1, hl, r⟩ := r
    exact ⟨a, dx, ws, rfl, S.sub _ _ h1⟩
  | obj n =>
    unfold Rep at r
    obtain ⟨rfl, hn⟩ := r
    have h : (match st[n]? with
      | some (.ins c _ _) => some c
      | _ => none) = some cn := h
    split at h
    · rename_i c ns ds e
      cases h
      obtain ⟨dx, ws, ho, hl, hf⟩ := S.cell n _ e
      exact ⟨g.α n, dx, ws, rfl, by simpa [nsOf, e] using ho⟩
    · cases h
  | _ => cases h
theorem zip_no {m : Str} : ∀ {ns : List Str} {ws : List V}, ns.contains m = false → (ns.zip ws).lookup m = none
  | [], _, _ => rfl
  | _ :: _, [], _ => rfl
  | n :: ns, w :: ws, h => by
    rw [List.contains_cons, Bool.or_eq_false_iff] at h
    rw [List.zip_cons_cons, List.lookup_cons, h.1]
    exact zip_no h.2
theorem pickM_ok {ents : List (Str × FnE)} {m : Str} {n : Nat} {st : Store} {x : T} {e : FnE} (h : pickM ents m n st x = some e) : ∃ cn, clsOf st x = some cn ∧ ents.lookup cn = some e ∧ n + 1 = e.ps.length ∧ (nsOf st x).contains m = false ∧ e.fresh = mfr ents := by
  unfold pickM at h
  split at h
  · rename_i cn hc
    split at h
    · rename_i e' he
      split at h
      · rename_i hh
        cases h
        rw [Bool.and_eq_true, Bool.and_eq_true, decide_eq_true_iff] at hh
        exact ⟨cn, hc, he, hh.1.1, by simpa using hh.1.2, by simpa using hh.2⟩
      · cases h
    · cases h
  · cases h
/-- o.m(..), what is raised wished for at the caller's slots -/
def tMethAt (Cn : Addr) (m : Str) (sp : Sp) (E : L2.St → XK) (ta : TE) (t : TA) : TE := fun σ H Q => ta σ H fun x H1 => ∃ a dx gs, x = .ref a ∧ H1 a = some (.ins Cn dx gs) ∧ gs.lookup m = none ∧ t σ H1 fun vs H2 => sp (x :: vs) H2 Q (E σ)
theorem pe_methAt {kk : Nat} {o : Expr} {m : Str} {apos pos : Pos} {args : List Expr} {Cn f : Addr} {fd : FuncData} {ps : List Str} {sp : Sp} {E : L2.St → XK} {fo : EvT} {fs : List EvT} (he : PE X o (tV k W fo)) (hc : Cls X.K Cn) (hm : Meth X.K Cn m f) (F : FnOk X.prog X.w X.K X.mg X.base (L2.CX X.prog X.w) kk f fd ps sp) (hr : Room kk X.A) (hb : Binds X.K fd ps [])
    (hx : ∀ σ, PassesAt (L2.CX X.prog X.w) X σ (E σ)) (ha : PA X args (tL k W fs)) (h0 : args = [] → fs = []) (ob : okBase o = true) (hs : args.any isStar = false) (hn : args.length < 20) (hl : (apos.endLine == pos.line) = true) :
    PE X (.Call (.Attribute o m apos) args [] pos) (tMethAt Cn m sp E (tV k W fo) (tL k W fs)) := by
  have form := meth_form (env := X.env) (m := m) (base_of ob) hs hn hl
  refine ⟨fun pins s σ H Q I h => ?_⟩
  refine PySem.W.methodCall_KW (thn (he.run pins s σ H _ I h) fun u s1 ⟨x, H1, I1, rx, a, dx, gs, ex, ea, l, q⟩ => ?_) form
  subst ex
  obtain rfl : u = Value.ref a := rx
  refine getmeth_ok I1 ea hc hm l ?_
  cases args with
  | nil =>
    rw [h0 rfl] at q
    obtain ⟨g, env, st, S, q2⟩ := q
    have q3 := q2 [] H1 g Ext.refl S (RepL.nil.mpr rfl)
    exact PySem.W.callWith_K0 (first := [.ref a]) I1.kIn hm.kp (run_fnSD (us := [.ref a]) (vs := [.ref a]) (dvs := []) (ds := []) F hr hb .nil (hx σ) I1 (.cons rfl .nil) q3)
  | cons e es =>
    rw [List.any_cons, Bool.or_eq_false_iff] at hs
    refine PySem.W.callWith_K (first := [.ref a]) (h₀ := X.base) I1.ok.mod.kin hm.kp (thn (ha.run pos pins s1 σ H1 _ I1 q) fun us s2 ⟨vs, H2, I2, r, q2⟩ => ⟨I2.kIn, ?_⟩) (star_eq' hs.1) (star_all hs.2).2
    exact run_fnSD (us := .ref a :: us) (vs := .ref a :: vs) (dvs := []) (ds := []) F hr hb .nil (hx σ) I2 (.cons rfl r) (by rw [List.append_nil]; exact q2)
theorem lookup_mem {α : Type} {x : Str} {a : α} : ∀ {l : List (Str × α)}, l.lookup x = some a → (x, a) ∈ l
  | [], h => by cases h
  | (y, b) :: r, h => by
    rw [List.lookup_cons] at h
    cases hy : x == y with
    | true =>
      rw [hy] at h
      cases h
      have : x = y := by simpa using hy
      subst this
      exact List.mem_cons_self
    | false =>
      rw [hy] at h
      exact List.mem_cons_of_mem _ (lookup_mem h)
theorem sx_meth (C : COk k c X W) {o : Expr} {m : Str} {apos pos : Pos} {args : List Expr} {ents : List (Str × FnE)} {fo : EvT} {fs : List EvT} (hm : c.G.mth.lookup m = some ents) (hlv : (ents.all fun p => decide (p.2.lvl < c.lvl)) = true) (hne : ents ≠ [])
    (ho : PE X o (tV k W fo)) (ha : PA X args (tL k W fs)) (h0 : args = [] → fs = []) (ob : okBase o = true) (hs : args.any isStar = false) (hn : args.length < 20) (hl : (apos.endLine == pos.line) = true) :
    PE X (.Call (.Attribute o m apos) args [] pos) (tR k W (rFn k (mfr ents)) (methC ents m args.length fo fs)) := by
  refine ⟨fun pins s σ H Q I ⟨g, env, st, S, q⟩ => ?_⟩
  -- by one entry
  have one : ∀ (cn : Str) (e : FnE), ents.lookup cn = some e → (∀ x st1, fo env st = .ok x st1 → ∀ e', pickM ents m args.length st1 x = some e' → clsOf st1 x = some cn ∧ e' = e) →
      wpAny (model X.prog X.w) X.A (eval (.Call (.Attribute o m apos) args [] pos) X.env) (EP X pins σ Q) X.xe s := fun cn e hl1 huni => by
    obtain ⟨f, fd, c1, m1, b1, F⟩ := C.G.mth m ents cn e hm hl1
    have hlt : e.lvl < c.lvl := by simpa using List.all_eq_true.mp hlv _ (lookup_mem hl1)
    have rule := pe_methAt (E := fun σ cls d H' => W cls d σ H') ho c1 m1 F (C.room _ hlt) b1 (fun σ => passAt C.tk σ) ha h0 ob hs hn hl
    refine rule.run pins s σ H Q I ⟨g, env, st, S, ?_⟩
    cases ef : fo env st with
    | bad => unfold methC Ev.bind at q; rw [ef] at q; exact q
    | err d vs st1 => unfold methC Ev.bind at q; rw [ef] at q; exact q
    | ok x st1 =>
      intro v H1 g1 x1 S1 r1
      have q1 : After k W (rFn k (mfr ents)) σ env g1 st1 H1 Q (((Ev.optS fun st => pickM ents m args.length st x).bind fun e => (evL fs).bind fun ts _ st => e.fn (x :: ts) st) env st1) := by
        have : methC ents m args.length fo fs env st = ((Ev.optS fun st => pickM ents m args.length st x).bind fun e => (evL fs).bind fun ts _ st => e.fn (x :: ts) st) env st1 := by
          unfold methC Ev.bind; rw [ef]
        rw [this] at q
        exact After.shift m0Fn x1 q
      cases ep : pickM ents m args.length st1 x with
      | none =>
        have : ((Ev.optS fun st => pickM ents m args.length st x).bind fun e => (evL fs).bind fun ts _ st => e.fn (x :: ts) st) env st1 = .bad := by
          simp only [Ev.bind, Ev.optS, ep]; rfl
        rw [this] at q1
        exact q1.elim
      | some e' =>
        obtain ⟨h1, rfl⟩ := huni x st1 ef e' ep
        obtain ⟨cn', h2, h3, h4, h5, h6⟩ := pickM_ok ep
        rw [h1] at h2
        cases h2
        have q2 : After k W (rFn k (mfr ents)) σ env g1 st1 H1 Q (((evL fs).bind fun ts _ st => e'.fn (x :: ts) st) env st1) := by
          have : ((Ev.optS fun st => pickM ents m args.length st x).bind fun e => (evL fs).bind fun ts _ st => e.fn (x :: ts) st) env st1 = ((evL fs).bind fun ts _ st => e'.fn (x :: ts) st) env st1 := by
            simp only [Ev.bind, Ev.optS, ep]; rfl
          rw [this] at q1
          exact q1
        obtain ⟨a, dx, ws, rfl, ha1⟩ := ins_at S1 r1 h1
        refine ⟨a, dx, _, rfl, ha1, zip_no h5, g1, env, st1, S1, (q2.bind (R1 := rL k) m0Fn).imp fun vs H2 ⟨ts, st2, g2, x2, S2, r2, q3⟩ => ?_⟩
        rw [← h6] at q3
        exact ⟨g2, st2, x :: ts, S2.bare, RepL.cons.mpr ⟨_, _, rfl, Rep.mono x2.le _ _ r1, r2⟩, q3.toF S2⟩
  cases ef : fo env st with
  | ok x st1 =>
    cases ep : pickM ents m args.length st1 x with
    | some e' =>
      obtain ⟨cn', h2, h3, h4, h5, h6⟩ := pickM_ok ep
      refine one cn' e' h3 fun x' st' hx e2 h => ?_
      rw [ef] at hx
      cases hx
      rw [ep] at h
      cases h
      exact ⟨h2, rfl⟩
    | none =>
      cases ents with
      | nil => exact absurd rfl hne
      | cons p r =>
        obtain ⟨cn, e⟩ := p
        refine one cn e (by simp [List.lookup]) fun x' st' hx e2 h => ?_
        rw [ef] at hx
        cases hx
        rw [ep] at h
        cases h
  | err d vs st1 =>
    cases ents with
    | nil => exact absurd rfl hne
    | cons p r =>
      obtain ⟨cn, e⟩ := p
      exact one cn e (by simp [List.lookup]) fun x' st' hx e2 h => by rw [ef] at hx; cases hx
  | bad =>
    cases ents with
    | nil => exact absurd rfl hne
    | cons p r =>
      obtain ⟨cn, e⟩ := p
      exact one cn e (by simp [List.lookup]) fun x' st' hx e2 h => by rw [ef] at hx; cases hx
/-! ### C(..) -/
def tNewAt (Cn : Addr) (n mk : Nat) (sp : Sp) (gV : List V → List V → List V) (E : L2.St → XK) (t tk : TA) : TE := fun σ H Q => t σ H fun vs H1 => tk σ H1 fun zs H2 => vs.length = n ∧ zs.length = mk ∧ ∀ x dx, H2 x = none → H2 dx = none → dx ≠ x →
  sp (gV (.ref x :: vs) zs) (upd (upd H2 dx (.own x)) x (.ins Cn dx [])) (fun v H3 => v = .non ∧ Q (.ref x) H3) (E σ)
theorem run_newAt {kk n : Nat} {Cn f : Addr} {fd : FuncData} {ps ks : List Str} {sp : Sp} {E : L2.St → XK} {gA : List Value → List Value → List Value} {gV : List V → List V → List V} {pins : List (Addr × Obj)} {σ : L2.St} {H : Hp} {s : Shared} {Q : VK} {us ws : List Value} {vs zs : List V}
    (M : Mk X.K Cn f) (F : FnOk X.prog X.w X.K X.mg X.base (L2.CX X.prog X.w) kk f fd ps sp) (hr : Room (kk + 1) X.A) (hb : KBn X.K fd ps (n + 1) ks gA gV) (hx : PassesAt (L2.CX X.prog X.w) X σ (E σ)) (I : Inv X pins σ H s) (r : Vals vs us) (rz : Vals zs ws) (l1 : vs.length = n) (l2 : zs.length = ks.length)
    (h : ∀ x dx, H x = none → H dx = none → dx ≠ x → sp (gV (.ref x :: vs) zs) (upd (upd H dx (.own x)) x (.ins Cn dx [])) (fun v H2 => v = .non ∧ Q (.ref x) H2) (E σ)) :
    wpAny (model X.prog X.w) X.A (call (.ref Cn) us (ks.zip ws)) (EP X pins σ Q) X.xe s := by
  have hq := h (s.heap.objs.size + 1) s.heap.objs.size (I.hok.fresh (Nat.le_succ _)) (I.hok.fresh (Nat.le_refl _)) (Nat.ne_of_lt (Nat.lt_succ_self _))
  have Im := Inv.made (C := Cn) I
  have rr : Vals (V.ref (s.heap.objs.size + 1) :: vs) (Value.ref (s.heap.objs.size + 1) :: us) := .cons rfl r
  have hl : (Value.ref (s.heap.objs.size + 1) :: us).length = n + 1 := by rw [List.length_cons, ← r.length, l1]
  refine wpAny_call (make_map (f := f) I.kIn M.makes M.init (beq_iff_eq.mp M.fn) (codeAny_mono
    (F.run _ X.stack _ _ ⟨Value.ref (s.heap.objs.size + 1) :: us, ks.zip ws⟩ (gA (Value.ref (s.heap.objs.size + 1) :: us) ws) _ _ (E σ) (hr.make Cn us (ks.zip ws)) (Im.env0.make Cn us (ks.zip ws)) (hb.to _ (Value.ref (s.heap.objs.size + 1) :: us) ws Im.kIn hl (rz.length.symm.trans l2)) (hb.rel rr rz) hq) fun r s' hq' => ?_))
  cases r with
  | error e => exact hx pins _ _ e s' Im hq'
  | ok fl =>
    cases fl with
    | ret u =>
      obtain ⟨v, H', I', rv, ev, q'⟩ := Im.after hq'
      subst ev
      exact ⟨rv, ⟨V.ref (s.heap.objs.size + 1), H', I', rfl, q'⟩⟩
    | _ => exact False.elim hq'
theorem pe_newAt {kk n : Nat} {Cn f : Addr} {fd : FuncData} {ps ks : List Str} {sp : Sp} {E : L2.St → XK} {gA : List Value → List Value → List Value} {gV : List V → List V → List V} {x : Str} {p pos : Pos} {e : Expr} {es : List Expr} {kws : List Keyword} {t tk : TA}
    (M : Mk X.K Cn f) (F : FnOk X.prog X.w X.K X.mg X.base (L2.CX X.prog X.w) kk f fd ps sp) (hr : Room (kk + 1) X.A) (hg : Gl X x) (hm : X.mg x = some (.ref Cn)) (hb : KBn X.K fd ps (n + 1) ks gA gV) (hx : ∀ σ, PassesAt (L2.CX X.prog X.w) X σ (E σ)) (ha : PA X (e :: es) t) (hkw : PK X kws tk)
    (hall : (backToKw pos (keywordEach kws X.env)).all (·.1.isSome) = true) (hks : (backToKw pos (keywordEach kws X.env)).filterMap (·.1) = ks) (hdb : (x == ("__debug__" : Str)) = false)
    (he : starEach (e :: es) X.env = (false, eval e X.env) :: starEach es X.env) (hpl : ((backTo pos (starEach (e :: es) X.env)).any (·.1) || (backToKw pos (keywordEach kws X.env)).any (·.1.isNone)) = false) :
    PE X (.Call (.Name x p) (e :: es) kws pos) (tNewAt Cn n ks.length sp gV E t tk) := by
  refine ⟨fun pins s σ H Q I h => ?_⟩
  refine wpAny_Call_Name_kw (ld_glob I hg hm ?_ hdb)
  refine PySem.W.callWith_KW (h₀ := X.base) I.ok.mod.kin M.kp hall (thn (ha.run pos pins s σ H _ I h) fun us s1 ⟨vs, H1, I1, r, q⟩ => ?_) hpl he
  refine thn (hkw.run pos pins s1 σ H1 _ I1 q) fun ws s2 ⟨zs, H2, I2, rz, l1, l2, q2⟩ => ⟨I2.kIn, ?_⟩
  rw [hks]
  exact run_newAt M F hr hb (hx σ) I2 r rz l1 l2 q2
/-- the promise of __init__ at a new cell, what the caller has then -/
theorem new_ok {g : Gh} {env : En} {st : Store} {σ : L2.St} {H : Hp} {cn : Str} {fn : FnD} {us : List T} {vs' : List V} {Q : VK} {x dx : Addr} (S : SR k g env st σ H) (hx : H x = none) (hd : H dx = none) (ne : dx ≠ x) (r : RepL k g us vs') (q : After k W (rV k) σ env g st H Q (newI cn fn us st)) :
    spOf k false fn (.ref x :: vs') (upd (upd H dx (.own x)) x (.ins (k.cl cn) dx [])) (fun v H3 => v = .non ∧ Q (.ref x) H3) (fun cls d H' => W cls d σ H') := by
  obtain ⟨S1, x1, e1, lt⟩ := S.begun (c := cn) hx hd ne
  refine ⟨g.cell x, st ++ [.ins cn [] []], .obj st.length :: us, S1.bare, RepL.cons.mpr ⟨_, _, rfl, by unfold Rep; exact ⟨by rw [e1], lt⟩, RepL.mono x1.le _ _ r⟩, ?_⟩
  unfold newI at q
  cases ef : fn (.obj st.length :: us) (st ++ [.ins cn [] []]) with
  | bad => rw [ef] at q; exact q
  | err d vs st1 =>
    rw [ef] at q
    intro cls dd H' g' xx S' rr
    obtain ⟨S2, x2⟩ := S1.back .nil xx S'
    exact q cls dd H' g' (x1.trans x2) S2 rr
  | ok t st1 =>
    rw [ef] at q
    cases t with
    | non =>
      simp only at q
      intro v H' g' xx S' rr
      rw [if_neg (by decide)] at rr
      obtain ⟨S2, x2⟩ := S1.back .nil xx S'
      refine ⟨RepB.non (H := H') (.inl rr), ?_⟩
      split at q
      · rename_i c' ns ds hc
        split at q
        · rename_i hh
          rw [Bool.and_eq_true, plainD_iff] at hh
          have ec : c' = cn := by simpa using hh.1
          subst ec
          obtain ⟨g2, S3, x3, r3⟩ := S2.freezeI hc hh.2
          have ea : g'.α st.length = x := by rw [x2.le.a _ lt, e1]
          rw [ea] at r3
          exact q (.ref x) H' g2 ((x1.trans x2).trans x3) S3 r3
        · exact q.elim
      · exact q.elim
    | _ => exact q.elim
theorem sx_new (C : COk k c X W) {x : Str} {p pos : Pos} {e : Expr} {es : List Expr} {kws : List Keyword} {ce : ClsE} {sh : Shp} {fs zs : List EvT} (hg : Gl X x) (hdb : (x == ("__debug__" : Str)) = false) (hc : c.G.cls.lookup x = some ce) (hsh : sh ∈ ce.shp) (hlv : ce.lvl + 1 < c.lvl)
    (ha : PA X (e :: es) (tL k W fs)) (hkw : PK X kws (tL k W zs)) (hfl : ∀ env st st' ts, evL fs env st = .ok ts st' → ts.length = sh.np) (hzl : ∀ env st st' ts, evL zs env st = .ok ts st' → ts.length = sh.ks.length)
    (hall : (backToKw pos (keywordEach kws X.env)).all (·.1.isSome) = true) (hks : (backToKw pos (keywordEach kws X.env)).filterMap (·.1) = sh.ks)
    (he : starEach (e :: es) X.env = (false, eval e X.env) :: starEach es X.env) (hpl : ((backTo pos (starEach (e :: es) X.env)).any (·.1) || (backToKw pos (keywordEach kws X.env)).any (·.1.isNone)) = false) :
    PE X (.Call (.Name x p) (e :: es) kws pos) (tV k W (newC x ce.fn sh.src fs zs)) := by
  obtain ⟨f, fd, ps, hm, M, F, shs⟩ := C.G.cls x ce hc
  obtain ⟨gA, gV, hb, hgV⟩ := shs sh hsh
  have rule := pe_newAt (p := p) (E := fun σ cls d H' => W cls d σ H') M F (C.room _ hlv) hg hm hb (fun σ => passAt C.tk σ) ha hkw hall hks hdb he hpl
  refine Mp.PE.imp rule fun σ H Q ⟨g, env, st, S, q⟩ => ⟨g, env, st, S, ?_⟩
  unfold newC at q
  cases ef : evL fs env st with
  | bad => simp only [Ev.bind, ef] at q; exact q
  | err d vs st1 => simp only [Ev.bind, ef] at q; exact q
  | ok ts st1 =>
    intro vs H1 g1 x1 S1 r1
    have q1 : After k W (rV k) σ env g1 st1 H1 Q (((evL zs).bind fun us => (Ev.opt (fillT sh.src ts us)).bind fun us _ st => newI x ce.fn us st) env st1) := by
      have e2 : ((evL fs).bind fun ts => (evL zs).bind fun zs => (Ev.opt (fillT sh.src ts zs)).bind fun us _ st => newI x ce.fn us st) env st = (((evL zs).bind fun us => (Ev.opt (fillT sh.src ts us)).bind fun us _ st => newI x ce.fn us st) env st1) := by
        simp only [Ev.bind, ef]
      rw [e2] at q
      exact After.shift m0V x1 q
    refine ⟨g1, env, st1, S1, ?_⟩
    cases ez : evL zs env st1 with
    | bad => simp only [Ev.bind, ez] at q1; exact q1
    | err d vs st1 => simp only [Ev.bind, ez] at q1; exact q1
    | ok us st2 =>
      intro ws H2 g2 x2 S2 r2
      have q2 : After k W (rV k) σ env g2 st2 H2 Q (((Ev.opt (fillT sh.src ts us)).bind fun us _ st => newI x ce.fn us st) env st2) := by
        have e2 : ((evL zs).bind fun us => (Ev.opt (fillT sh.src ts us)).bind fun us _ st => newI x ce.fn us st) env st1 = ((Ev.opt (fillT sh.src ts us)).bind fun us _ st => newI x ce.fn us st) env st2 := by
          simp only [Ev.bind, ez]
        rw [e2] at q1
        exact After.shift m0V x2 q1
      cases eo : fillT sh.src ts us with
      | none => simp only [Ev.bind, Ev.opt, eo, Ev.bad] at q2; exact q2.elim
      | some as =>
        have q3 : After k W (rV k) σ env g2 st2 H2 Q (newI x ce.fn as st2) := by
          simp only [Ev.bind, Ev.opt, eo, Ev.pure] at q2; exact q2
        have r1 : RepL k g1 ts vs := r1
        have r2 : RepL k g2 us ws := r2
        have l1 : vs.length = sh.np := by rw [← r1.length, hfl _ _ _ _ ef]
        have l2 : ws.length = sh.ks.length := by rw [← r2.length, hzl _ _ _ _ ez]
        refine ⟨l1, l2, fun y dx hy hd ne => ?_⟩
        obtain ⟨vs', e3, r3⟩ := hgV g2 y ts vs us ws as (RepL.mono x2.le _ _ r1) r2 l1 l2 eo
        rw [e3]
        exact new_ok S2 hy hd ne r3 q3
end
end Mp


set_option Elab.async false
set_option linter.all false
set_option maxRecDepth 100000
set_option maxHeartbeats 4000000
/-! Exj: the __init__s of own exceptions; an exception made. -/
namespace Mp
open PySem PySem.Spec PyProof.Rows L2
theorem upd_twice {H : Hp} {a : Addr} {o u : HO} : upd (upd H a o) a u = upd H a u := by
  funext b
  by_cases h : b = a
  · rw [h, upd_same, upd_same]
  · rw [upd_ne h, upd_ne h, upd_ne h]
theorem upd_swap {H : Hp} {a b : Addr} {o u : HO} (n : a ≠ b) : upd (upd H a o) b u = upd (upd H b u) a o := by
  funext c
  by_cases h : c = a
  · rw [h, upd_same, upd_ne n, upd_same]
  · by_cases h2 : c = b
    · rw [h2, upd_same, upd_ne (Ne.symm n), upd_same]
    · rw [upd_ne h2, upd_ne h, upd_ne h, upd_ne h2]
def asgsI : List (Str × Pos × Pos × Pos × Pos) → List Stmt
  | [] => []
  | (x, p1, p2, p3, p4) :: r => .Assign [.Attribute (.Name "self" p1) x p2] (.Name x p3) p4 :: asgsI r
/-- .. names given, at these slots -/
def fldI : List (Str × Pos × Pos × Pos × Pos) → List V → List (Str × V) → List (Str × V)
  | (x, _) :: r, y :: ys, fs => fldI r ys ((x, y) :: fs)
  | _, _, fs => fs
theorem vis_par {N ps : List Str} {sc : Scope} (S : FnScope N ps sc) {x : Str} (h : x ∈ ps) : Vis sc x := by
  rcases S.par x h with q | q
  · exact .inl q
  · exact .inr (.inl q)
section
variable {X : Cx}
theorem pv_at {i : Nat} {x : Str} {p : Pos} (hN : X.N[i]? = some x) (hv : Vis X.env.scope x) (ok : okN x = true) : PE X (.Name x p) (tVar i) := by
  unfold okN at ok
  rw [Bool.and_eq_true, Bool.not_eq_true', Bool.not_eq_true'] at ok
  exact pe_var hN hv ok.1 ok.2
theorem asgs_ok (h0 : X.N[0]? = some ("self" : Str)) (v0 : Vis X.env.scope ("self" : Str)) : ∀ (l : List (Str × Pos × Pos × Pos × Pos)) (i : Nat), (∀ j x, (l.map (·.1))[j]? = some x → X.N[i + j]? = some x ∧ Vis X.env.scope x ∧ okN x = true) →
    ∃ t, PSs X (asgsI l) t ∧ ∀ (D : Ends) (σ : L2.St) (H : Hp) (a C dx : Addr) (fs : List (Str × V)) (ys : List V), ys.length = l.length → σ[0]? = some (some (.ref a)) → (∀ j y, ys[j]? = some y → σ[i + j]? = some (some y)) → ExG X.K C → (∀ x ∈ l.map (·.1), PySem.W.findIn X.K (.ref C) x = some none) →
      H a = some (exo a C (some dx)) → H dx = some (exd dx fs) → dx ≠ a → fs.length + l.length ≤ 900 → D.nx σ (upd H dx (exd dx (fldI l ys fs))) → t D σ H
  | [], i, _ => ⟨_, pss_nil, fun D σ H a C dx fs ys hl e0 ej T hno ea ed ne hz q => by
      have : upd H dx (exd dx (fldI [] ys fs)) = H := by
        funext b
        by_cases h : b = dx
        · rw [h, upd_same, ed]; rfl
        · rw [upd_ne h]
      rw [this] at q
      exact q⟩
  | (x, p1, p2, p3, p4) :: r, i, hx => by
    obtain ⟨a1, a2, a3⟩ := hx 0 x rfl
    obtain ⟨t, ht, hr⟩ := asgs_ok h0 v0 r (i + 1) fun j z e => by
      have := hx (j + 1) z (by simpa using e)
      rw [show i + 1 + j = i + (j + 1) by omega]
      exact this
    refine ⟨_, pss_cons (ps_stG (pv_at h0 v0 (by decide)) (pv_at a1 a2 a3)) ht, fun D σ H a C dx fs ys hl e0 ej T hno ea ed ne hz q => ?_⟩
    cases ys with
    | nil => cases hl
    | cons y ys =>
      have ey := ej 0 y rfl
      refine ⟨y, ey, .ref a, e0, a, C, rfl, T, hno x List.mem_cons_self, .inr ⟨dx, fs, ea, ed, by simp at hz; omega, ?_⟩⟩
      refine hr D σ _ a C dx ((x, y) :: fs) ys (by simpa using hl) e0 (fun j z e => by
          have := ej (j + 1) z (by simpa using e)
          rw [show i + 1 + j = i + (j + 1) by omega]
          exact this) T (fun z m => hno z (List.mem_cons_of_mem _ m)) (by rw [upd_ne (Ne.symm ne)]; exact ea) upd_same ne (by simp at hz ⊢; omega) ?_
      rw [upd_twice]
      exact q
end
section
variable {P : Program} {w : World} {K : PySem.W.Frag} {mg : Str → Option Value} {base : Heap}
/-- the base's: self.word = word -/
theorem fn_base {qual : Str} {params : Arguments} {scope : Scope} {dvs : List V} {f : Addr} {fd : FuncData} {p1 p2 p3 p4 : Pos} (F : FunD K "__init__" qual params [.Assign [.Attribute (.Name "self" p1) "word" p2] (.Name "word" p3) p4] scope dvs [] f fd) (S : FnScope ["self", "word"] ["self", "word"] scope) :
    FnOk P w K mg base (L2.CX P w) 1 f fd ["self", "word"] (spI K 1 ["word"] fun ys => fldI [("word", p1, p2, p3, p4)] ys []) := by
  refine F.ok S (fun vs H Q E h => by obtain ⟨a, C, ys, rfl, hl, _⟩ := h; simp [hl]) fun cdv A outer s H vs Q E hr hsp => ?_
  obtain ⟨a, C, ys, rfl, hl, T, hno, ea, q⟩ := hsp
  cases ys with
  | nil => cases hl
  | cons y ys =>
    cases ys with
    | cons _ _ => cases hl
    | nil =>
      refine ⟨_, pss_one (ps_stG (pv_at (i := 0) rfl (vis_par S (by simp)) (by decide)) (pv_at (i := 1) rfl (vis_par S (by simp)) (by decide))), ?_⟩
      exact ⟨y, rfl, .ref a, rfl, a, C, rfl, T, hno _ (by simp), .inl ⟨ea, fun dx n ne => q dx n ne⟩⟩
end
/-! ### B.__init__(self, ..) -/
/-- what the written part says of a class whose __init__ is called by its name -/
structure InitAt (K : PySem.W.Frag) (C f : Addr) : Prop where
  rd : ClX.CRead K C (.type "type")
  vl : PySem.W.findCls K (.ref C) (.type "type") "__init__" = some (.val (.ref f))
  kp : PySem.W.keepIn K (.ref f) = true
section
variable {X : Cx} {CX : CXT}
theorem pe_baseI {B : Str} {C f : Addr} {fd : FuncData} {ps : List Str} {sp : Sp} {j : Nat} {E : L2.St → XK} {e : Expr} {es : List Expr} {ta : TA} {p1 p2 pos : Pos} (hg : Gl X B) (hm : X.mg B = some (.ref C)) (I0 : InitAt X.K C f) (F : FnOk X.prog X.w X.K X.mg X.base CX j f fd ps sp) (hr : Room j X.A) (hb : Binds X.K fd ps [])
    (hx : ∀ σ, PassesAt CX X σ (E σ)) (ha : PA X (e :: es) ta) (hdb : (B == ("__debug__" : Str)) = false)
    (hc : eval (.Call (.Attribute (.Name B p1) "__init__" p2) (e :: es) [] pos) X.env = (do
      let ov ← eval (.Name B p1) X.env
      standAt p2.atName
      let (fn, first) ← holding [ov] (getMethod ov "__init__" (do return (← importBound (.Name B p1) X.env).getD true))
      callWith pos fn first (backTo pos (starEach (e :: es) X.env)) (backToKw pos (keywordEach [] X.env))))
    (he : starEach (e :: es) X.env = (false, eval e X.env) :: starEach es X.env) (hpl : (backTo pos (starEach es X.env)).any (·.1) = false) :
    PE X (.Call (.Attribute (.Name B p1) "__init__" p2) (e :: es) [] pos) (tCallS sp E ta) := by
  refine ⟨fun pins s σ H Q I h => ?_⟩
  refine PySem.W.methodCall_KW (ld_glob I hg hm ?_ hdb) hc
  refine PySem.W.method_cls I.kIn I0.rd.ga (ClX.getcval_ok I I0.rd (v := .ref f) ⟨I0.vl, rfl⟩ fun s' I' => ?_)
  refine PySem.W.callWith_K (first := []) (h₀ := X.base) I'.ok.mod.kin I0.kp (thn (ha.run pos pins s' σ H _ I' h) fun us s1 ⟨vs, H1, I1, r, q⟩ => ⟨I1.kIn, ?_⟩) he hpl
  exact run_fnS F hr hb (hx σ) I1 r q
end
section
variable {P : Program} {w : World} {K : PySem.W.Frag} {mg : Str → Option Value} {base : Heap}
/-- the fields of an exception, the last one first -/
def mkI (word : Str) (l : List (Str × Pos × Pos × Pos × Pos)) (ys : List V) : List (Str × V) := fldI l ys [("word", .str word)]
theorem fn_init {qual B word : Str} {params : Arguments} {scope : Scope} {f C fB : Addr} {fd fdB : FuncData} {dvs : List V} {mkB : List V → List (Str × V)} {l : List (Str × Pos × Pos × Pos × Pos)} {j : Nat} {q1 q2 q3 q4 q5 q6 : Pos} (F : FunD K "__init__" qual params (.Expr (.Call (.Attribute (.Name B q1) "__init__" q2) [.Name "self" q3, .Constant (.str word) j q4] [] q5) q6 :: asgsI l) scope [] [] f fd)
    (S : FnScope ("self" :: l.map (·.1)) ("self" :: l.map (·.1)) scope) (hB : scope.names.lookup B = some .globalImplicit) (hdb : (B == ("__debug__" : Str)) = false) (hm : mg B = some (.ref C)) (I0 : InitAt K C fB)
    (FB : FnOk P w K mg base (L2.CX P w) 1 fB fdB ["self", "word"] (spI K 1 ["word"] mkB)) (hmk : mkB [V.str word] = [(("word" : Str), V.str word)]) (bB : Binds K fdB ["self", "word"] []) (okx : (l.map (·.1)).all okN = true) (hl0 : l.length ≤ 500) (hln : (q2.endLine == q5.line) = true) :
    FnOk P w K mg base (L2.CX P w) 2 f fd ("self" :: l.map (·.1)) (spI K l.length ("word" :: l.map (·.1)) (mkI word l)) := by
  refine F.ok S (fun vs H Q E h => by obtain ⟨a, C, ys, rfl, hl, _⟩ := h; simp [hl]) fun cdv A outer s H vs Q E hr hsp => ?_
  obtain ⟨a, D, ys, rfl, hl, T, hno, ea, q⟩ := hsp
  obtain ⟨t, ht, hts⟩ := asgs_ok (X := cxOf (L2.CX P w) P w K mg base ("self" :: l.map (·.1)) qual scope f cdv A outer s H E) rfl (vis_par S (by simp)) l 1 fun j x e => by
    refine ⟨?_, vis_par S ?_, ?_⟩
    · show (("self" : Str) :: l.map (·.1))[1 + j]? = some x
      rw [Nat.add_comm, List.getElem?_cons_succ]
      exact e
    · exact List.mem_cons_of_mem _ (List.mem_of_getElem? e)
    · exact List.all_eq_true.mp okx x (List.mem_of_getElem? e)
  have call := pe_baseI (e := .Name "self" q3) (es := [.Constant (.str word) j q4]) (X := cxOf (L2.CX P w) P w K mg base ("self" :: l.map (·.1)) qual scope f cdv A outer s H E) (p1 := q1) (p2 := q2) (pos := q5) (E := fun _ => E) hB hm I0 FB (hr.mono (by omega)) bB
    (fun σ => passAt (takes_of rfl rfl rfl rfl) σ) (pa_cons (pv_at (i := 0) rfl (vis_par S (by simp)) (by decide)) (pa_cons pe_str pa_nil)) hdb (meth_form (args := [_, _]) rfl rfl (Nat.le_of_ble_eq_true rfl) hln) rfl rfl
  refine ⟨_, pss_cons (ps_expr call) ht, ?_⟩
  refine ⟨_, rfl, a, D, [.str word], rfl, rfl, T, fun x hx => hno x ?_, ea, fun dx n ne => ?_⟩
  · rcases List.mem_cons.mp hx with rfl | hx
    · exact List.mem_cons_self
    · cases hx
  rw [hmk]
  refine hts _ _ _ a D dx _ ys hl rfl (fun j y e => ?_) T (fun x hx => hno x (List.mem_cons_of_mem _ hx)) upd_same (by rw [upd_ne ne, upd_same]) ne (by simp; omega) ?_
  · show (L2.start _ (V.ref a :: ys))[1 + j]? = some (some y)
    unfold L2.start
    have hj : j < ys.length := (List.getElem?_eq_some_iff.mp e).1
    rw [List.getElem?_append_left (by simp; omega), List.getElem?_map, Nat.add_comm, List.getElem?_cons_succ, e]
    rfl
  · have : upd (upd (upd H dx (exd dx [("word", V.str word)])) a (exo a D (some dx))) dx (exd dx (fldI l ys [("word", V.str word)])) = upd (upd H dx (exd dx (mkI word l ys))) a (exo a D (some dx)) := by
      rw [upd_swap (Ne.symm ne), upd_twice]
      rfl
    rw [this]
    exact q dx n ne
end
/-! ### an exception made -/
/-- C(e, ..) made, its dict told -/
def tMkG (C : Addr) (n : Nat) (mk : List V → List (Str × V)) (ta : TA) : L2.St → Hp → XK → Prop := fun σ H Q => ta σ H fun vs H1 => vs.length = n ∧ ∀ d, H1 d = none → Q (.ref C) (some d) (upd H1 d (.xd (mk vs)))
section
variable {X : Cx} {CX : CXT}
theorem mk_core {C fI : Addr} {k n : Nat} {fd : FuncData} {ps names : List Str} {mk : List V → List (Str × V)} {pins : List (Addr × Obj)} {σ : L2.St} {H : Hp} {Q : XK} {s : Shared} {us : List Value} {vs : List V} (T : ExG X.K C) (iC : PySem.W.findIn X.K (.ref C) "__init__" = some (some (.ref fI))) (tI : PySem.W.typeIn X.K (.ref fI) = some (.type "function"))
    (hno : ∀ x ∈ names, PySem.W.findIn X.K (.ref C) x = some none) (F1 : FnOk X.prog X.w X.K X.mg X.base CX k fI fd ps (spI X.K n names mk)) (hr : Room (k + 1) X.A) (hb : Binds X.K fd ps []) (hx : Passes CX X (fun _ _ _ => False)) (I1 : Inv X pins σ H s) (r1 : Vals vs us) (hn : vs.length = n) (hn2 : n ≤ 1000)
    (q : ∀ d, H d = none → Q (.ref C) (some d) (upd H d (.xd (mk vs)))) : wpAny (model X.prog X.w) X.A (call (.ref C) us) (MkP X pins σ Q) X.xe s := by
  obtain ⟨B, nw, ini, tl, hT, nm, qq, N, bs, bm, sn, sub, ab, col, dd, k0, k1, k2, k3, k5, hC, hbm⟩ := T.cls
  obtain ⟨hp, g, dr, tk, os⟩ := s
  have hsz : hp.objs.size ≤ hp.objs.size + 1 := Nat.le_succ _
  have new : H (hp.objs.size + 1) = none := I1.hok.fresh hsz
  have kk : ∀ b o, hp.get? b = some o → ((hp.push (PySem.W.kdv_tup us)).push (PySem.HandSPX.excO C hp.objs.size)).get? b = some o := fun b o e => Heap.get?_push_of_some _ (Heap.get?_push_of_some _ e)
  have at_ : ((hp.push (PySem.W.kdv_tup us)).push (PySem.HandSPX.excO C hp.objs.size)).get? (hp.objs.size + 1) = some (PySem.HandSPX.excO C hp.objs.size) := by heap_get
  have I2 : Inv X pins σ (upd H (hp.objs.size + 1) (exo (hp.objs.size + 1) C none)) ⟨(hp.push (PySem.W.kdv_tup us)).push (PySem.HandSPX.excO C hp.objs.size), g, dr, tk, os⟩ :=
    I1.laid (t' := tk) (a := hp.objs.size + 1) (o := exo (hp.objs.size + 1) C none) (h' := (hp.push (PySem.W.kdv_tup us)).push (PySem.HandSPX.excO C hp.objs.size)) kk hsz (exo_ok at_)
  have r2 : Vals (V.ref (hp.objs.size + 1) :: vs) (Value.ref (hp.objs.size + 1) :: us) := .cons rfl r1
  have fin : ∀ d, H d = none → d ≠ hp.objs.size + 1 → upd (del (upd (upd (upd H (hp.objs.size + 1) (exo (hp.objs.size + 1) C none)) d (exd d (mk vs))) (hp.objs.size + 1) (exo (hp.objs.size + 1) C (some d))) (hp.objs.size + 1)) d (.xd (mk vs)) = upd H d (.xd (mk vs)) := fun d hd ne => by
    funext b
    by_cases h1 : b = d
    · rw [h1, upd_same, upd_same]
    · rw [upd_ne h1, upd_ne h1]
      by_cases h2 : b = hp.objs.size + 1
      · rw [h2, del_same, new]
      · rw [del_ne h2, upd_ne h2, upd_ne h1, upd_ne h2]
  have hq : spI X.K n names mk (V.ref (hp.objs.size + 1) :: vs) (upd H (hp.objs.size + 1) (exo (hp.objs.size + 1) C none)) (fun v H2 => v = .non ∧ ∃ (d : Addr) (fs : List (Str × V)), H2 (hp.objs.size + 1) = some (exo (hp.objs.size + 1) C (some d)) ∧ H2 d = some (exd d fs) ∧ H d = none ∧ Q (.ref C) (some d) (upd (del H2 (hp.objs.size + 1)) d (.xd fs))) (fun _ _ _ => False) := by
    refine ⟨_, C, vs, rfl, hn, T, hno, upd_same, fun d hd ne => ⟨rfl, d, mk vs, upd_same, by rw [upd_ne ne, upd_same], ?_, ?_⟩⟩
    · rw [upd_ne ne] at hd; exact hd
    · rw [upd_ne ne] at hd
      rw [fin d hd ne]
      exact q d hd
  have hl : (Value.ref (hp.objs.size + 1) :: us ++ []).length = ps.length := by
    rw [List.append_nil, ← F1.len _ _ _ _ hq, ← r2.length]
  have hus : us.length ≤ sizeLine := by
    rw [← Paired.length r1, sizeLine_eq]
    omega
  have run := F1.run _ X.stack _ _ ⟨Value.ref (hp.objs.size + 1) :: us, []⟩ (Value.ref (hp.objs.size + 1) :: us ++ []) _ _ (fun _ _ _ => False) (hr.make C us []) (I2.env0.make C us []) (hb _ (Value.ref (hp.objs.size + 1) :: us) I2.kIn hl) (by rw [List.append_nil]; exact r2) hq
  refine wpAny_call (PySem.HandSPX.call_own hT.base (fun Y => refsT_contains Y bm hbm) (I1.kIn _ _ hC) (PySem.W.looks_findIn I1.kIn iC) (fun self => PySem.W.bind_fn I1.kIn self tI) hus (codeAny_mono run fun r s' hq' => ?_))
  cases r with
  | error er => exact hx pins σ _ _ er s' I2 hq'
  | ok fl =>
    cases fl with
    | ret u =>
      obtain ⟨v, H2, os2, bare2, un2, hok2, rv, ev, d, fs, ea, ed, hd1, q2⟩ := hq'
      subst ev
      obtain ⟨h2, g2, d2, t2, os'⟩ := s'
      exact ⟨rv, mk_end (raises_own T.exC T.tyC) I1 hsz kk un2 hok2 os2 bare2 ea ed hd1 q2⟩
    | next => exact False.elim hq'
    | brk => exact False.elim hq'
    | cont => exact False.elim hq'
theorem pmkG {x : Str} {C fI : Addr} {k n : Nat} {fd : FuncData} {ps names : List Str} {mk : List V → List (Str × V)} {es : List Expr} {ta : TA} {p pos : Pos} (T : ExG X.K C) (iC : PySem.W.findIn X.K (.ref C) "__init__" = some (some (.ref fI))) (tI : PySem.W.typeIn X.K (.ref fI) = some (.type "function"))
    (hno : ∀ x ∈ names, PySem.W.findIn X.K (.ref C) x = some none) (F1 : FnOk X.prog X.w X.K X.mg X.base CX k fI fd ps (spI X.K n names mk)) (hr : Room (k + 1) X.A) (hb : Binds X.K fd ps []) (hx : Passes CX X (fun _ _ _ => False)) (hg : Gl X x) (hm : X.mg x = some (.ref C)) (ha : PA X es ta) (hn2 : n ≤ 1000)
    (h0 : es = [] → ∀ σ H Q, ta σ H Q → Q [] H) (hdb : (x == ("__debug__" : Str)) = false) (hst : es.any isStar = false) :
    PMk X (.Call (.Name x p) es [] pos) (tMkG C n mk ta) := by
  intro pins s σ H Q I h
  refine wpAny_Call_Name_kw (ld_glob I hg hm ?_ hdb)
  cases es with
  | nil =>
    obtain ⟨h1, h2⟩ := h0 rfl σ H _ h
    exact PySem.W.callWith_K0 (first := []) I.kIn T.kC (mk_core (us := []) (vs := []) T iC tI hno F1 hr hb hx I .nil h1 hn2 h2)
  | cons e es =>
    rw [List.any_cons, Bool.or_eq_false_iff] at hst
    refine PySem.W.callWith_K (first := []) (h₀ := X.base) I.ok.mod.kin T.kC (thn (ha.run pos pins s σ H _ I h) fun us s1 ⟨vs, H1, I1, r1, hz, q1⟩ => ⟨I1.kIn, ?_⟩) (star_eq' hst.1) (star_all hst.2).2
    exact mk_core T iC tI hno F1 hr hb hx I1 r1 hz hn2 q1
end
end Mp


set_option Elab.async false
set_option linter.all false
set_option maxRecDepth 100000
set_option maxHeartbeats 4000000
/-! Exk: try with several clauses, classes in tuples, names. -/
namespace Mp
open PySem PySem.Spec PyProof.Rows L2
section
open PySem.W PySem.Calls
variable {M : Model} {h : Heap}
theorem loopA {A : Around} {E : Value → Shared → Prop} {f : Value → PUnit → Sem (ForInStep PUnit)} : ∀ (cs : List Value) (s : Shared) (Q : PUnit → Shared → Prop), (∀ c ∈ cs, ∀ (Q : ForInStep PUnit → Shared → Prop), Q (.yield ⟨⟩) s → wpAny M A (f c ⟨⟩) Q E s) → Q ⟨⟩ s → wpAny M A (forIn cs PUnit.unit f) Q E s
  | [], s, Q, _, q => by rw [List.forIn_nil]; exact wpAny_pure q
  | c :: cs, s, Q, hf, q => by
    rw [List.forIn_cons]
    refine wpAny_bind (hf c List.mem_cons_self _ ?_)
    exact loopA cs s Q (fun d hd => hf d (List.mem_cons_of_mem _ hd)) q
theorem loopB {A : Around} {E : Value → Shared → Prop} {f : Value → Option Bool × Unit → Sem (ForInStep (Option Bool × Unit))} {g : Value → Bool} : ∀ (cs : List Value) (s : Shared) (Q : Option Bool × Unit → Shared → Prop), (∀ c ∈ cs, ∀ (Q : ForInStep (Option Bool × Unit) → Shared → Prop), Q (if g c = true then .done (some true, ()) else .yield (none, ())) s → wpAny M A (f c (none, ())) Q E s) → Q (if cs.any g = true then (some true, ()) else (none, ())) s → wpAny M A (forIn cs (none, ()) f) Q E s
  | [], s, Q, _, q => by rw [List.forIn_nil]; exact wpAny_pure q
  | c :: cs, s, Q, hf, q => by
    rw [List.forIn_cons]
    refine wpAny_bind (hf c List.mem_cons_self _ ?_)
    cases hg : g c with
    | true =>
      rw [if_pos rfl]
      rw [List.any_cons, hg, Bool.true_or, if_pos rfl] at q
      exact wpAny_pure q
    | false =>
      rw [if_neg (by decide)]
      rw [List.any_cons, hg, Bool.false_or] at q
      exact loopB cs s Q (fun d hd => hf d (List.mem_cons_of_mem _ hd)) q
theorem any_one {K : Frag} {cls : Value} : ∀ {cs : List Value} {b : Bool}, exmAny K cls cs = some b → (∀ c ∈ cs, exmOne K cls c = some ((exmOne K cls c).getD false)) ∧ b = cs.any fun c => (exmOne K cls c).getD false
  | [], b, e => by
    have e : some false = some b := e
    cases e
    exact ⟨fun c hc => by simp at hc, rfl⟩
  | c :: cs, b, e => by
    obtain ⟨b1, d1, h1, h2, rfl⟩ := exmAny_cons e
    obtain ⟨h3, h4⟩ := any_one h2
    refine ⟨fun d hd => ?_, ?_⟩
    · rcases List.mem_cons.mp hd with rfl | hd
      · rw [h1]; rfl
      · exact h3 d hd
    · rw [List.any_cons, h1, ← h4]; rfl
/-- except (C, D, ..) -/
theorem exm_tup {K : Frag} {cs : List Value} {cls : Value} {tp e : Addr} {b : Bool} (X : K.In h) (LT : Looks M h (typeOf (.ref e)) cls) (hp : h.get? tp = some { cls := .type "tuple", data := .seq cs.toArray }) (hx : exmAny K cls cs = some b) :
    Looks M h (excMatches (.ref e) (.ref tp)) b := by
  intro A Q E s k₀ q
  obtain ⟨hh, g, d, tk, os⟩ := s
  have k : ∀ b o, h.get? b = some o → hh.get? b = some o := k₀
  have LT0 : Looks M h (isInstance (.ref tp) (.type "tuple")) true := ((Looks.ld hp).andThen .now).andThen (Looks.of_pure isSubtype_tuple_tuple)
  have LT := LT.keeps k
  have LT0 := LT0.keeps k
  have hp' := k _ _ hp
  obtain ⟨hone, rfl⟩ := any_one hx
  have ex : ∀ c ∈ cs, Looks M hh (isExcClass c) true ∧ Looks M hh (isSubtype cls c) ((exmOne K cls c).getD false) := fun c hc =>
    let ⟨a, b⟩ := exm_cls (M := M) X (hone c hc)
    ⟨a.keeps k, b.keeps k⟩
  unfold excMatches
  refine wpAny_bind (LT0.at ?_)
  dsimp only
  rw [if_pos rfl]
  refine wpAny_bind (wpAny_seqItems hp' rfl ?_)
  dsimp only [Option.getD_some, Option.getD]
  refine wpAny_bind (wpAny_pure ?_)
  refine wpAny_bind (loopA cs _ _ (fun c hc Q' q' => wpAny_bind ((ex c hc).1.at ?_)) ?_)
  · exact wpAny_pure q'
  refine wpAny_bind (LT.at ?_)
  refine wpAny_bind (loopB (g := fun c => (exmOne K cls c).getD false) cs _ _ (fun c hc Q' q' => wpAny_bind ((ex c hc).2.at ?_)) ?_)
  · cases hg : (exmOne K cls c).getD false with
    | true => rw [hg] at q'; rw [if_pos rfl] at q' ⊢; exact wpAny_pure q'
    | false => rw [hg] at q'; rw [if_neg (by decide)] at q' ⊢; exact wpAny_pure q'
  · cases hg : cs.any fun c => (exmOne K cls c).getD false with
    | true => rw [hg] at q; rw [if_pos rfl]; exact wpAny_pure q
    | false => rw [hg] at q; rw [if_neg (by decide)]; exact wpAny_pure q
end
/-! ### the clauses -/
/-- what an except clause names -/
inductive TyS (X : Cx) : Expr → List Value → Prop
  | one {x : Str} {c : Value} {p : Pos} (h : Names X x c) : TyS X (.Name x p) [c]
  | tup {l : List (Str × Pos)} {cs : List Value} {k : Nat} {p : Pos} (h : Paired (fun (q : Str × Pos) c => Names X q.1 c) l cs) (z : cs.length ≤ 1000) : TyS X (.Tuple (l.map fun q => .Name q.1 q.2) k p) cs
section
variable {X : Cx}
theorem name_run {Y : Cx} {pins : List (Addr × Obj)} {σ : L2.St} {H : Hp} {s : Shared} {x : Str} {c : Value} {p : Pos} {Q : Value → Shared → Prop} {E : Value → Shared → Prop} (h : Names Y x c) (I : Inv Y pins σ H s) (q : Q c s) : wpAny (model Y.prog Y.w) Y.A (eval (.Name x p) Y.env) Q E s := by
  obtain ⟨hg, hd, hm | ⟨hm, hv, hn⟩⟩ := h
  · exact ld_glob I hg hm q hd
  · exact ld_blt I hg hm hv q hn hd
theorem names_run {Y : Cx} {pins : List (Addr × Obj)} {σ : L2.St} {H : Hp} {s : Shared} {pos : Pos} {E : Value → Shared → Prop} (I : Inv Y pins σ H s) : ∀ {l : List (Str × Pos)} {cs : List Value}, Paired (fun (q : Str × Pos) c => Names Y q.1 c) l cs → ∀ (Q : List Value → Shared → Prop), Q cs s →
    wpAny (model Y.prog Y.w) Y.A (spliced (backTo pos (starEach (l.map fun q => Expr.Name q.1 q.2) Y.env))) Q E s
  | _, _, .nil, Q, q => Calls.spliced_nil q
  | _, _, @Paired.cons _ _ _ (x, p) _ _ _ h r, Q, q => Calls.spliced_cons (name_run h I (names_run I r _ q))
theorem ty_run {a : Addr} {pn : List (Addr × Obj)} {σ : L2.St} {H : Hp} {s : Shared} {ty : Expr} {cs : List Value} {Q : Value → Shared → Prop} {E : Value → Shared → Prop} (T : TyS X ty cs) (I : Inv (X.suite a pn) [] σ H s)
    (q : ∀ u h', (∀ b o, s.heap.get? b = some o → h'.get? b = some o) → (∀ cls b, PySem.W.Looks (model X.prog X.w) h' (typeOf (.ref a)) cls → PySem.W.exmAny X.K cls cs = some b → PySem.W.Looks (model X.prog X.w) h' (excMatches (.ref a) u) b) → Q u { s with heap := h' }) :
    wpAny (model X.prog X.w) (X.A.mark (some (.ref a))) (eval ty X.env) Q E s := by
  cases T with
  | one h =>
    rename_i x c p
    refine name_run (Y := X.suite a pn) h I (q c s.heap (fun _ _ e => e) fun cls b lt hx => ?_)
    obtain ⟨b1, d1, h1, h2, rfl⟩ := PySem.W.exmAny_cons hx
    have h2 : some false = some d1 := h2
    cases h2
    rw [Bool.or_false]
    exact PySem.W.exm_one I.kIn lt h1
  | tup h z =>
    rename_i l k p
    refine wpAny_Tuple_spliced (prog := X.prog) (w := X.w) (names_run (Y := X.suite a pn) I h _ ⟨Nat.le_trans z (by rw [sizeLine_eq]; omega), ?_⟩)
    have kp : ∀ b o, s.heap.get? b = some o → (s.heap.push { cls := .type "tuple", data := .seq cs.toArray }).get? b = some o := fun b o e => Heap.get?_push_of_some _ e
    exact q (.ref s.heap.objs.size) _ kp fun cls b lt hx => exm_tup (I.kIn.keeps kp) lt (Heap.get?_push_size _ rfl) hx
end
theorem flying_keeps {base h h' : Heap} {l : List Env} {e : Addr} {Z : Obj → Prop} (k : ∀ b o, h.get? b = some o → h'.get? b = some o) (x : PySem.HandSPX.FlyingZ base l e Z h) : PySem.HandSPX.FlyingZ base l e Z h' := by
  obtain ⟨a1, a2, a3, oe, vs, T, oT, ts, h1, h2, h3, h4, h5, h6, h7, h8⟩ := x
  exact ⟨fun b o q => k b o (a1 b o q), a2, a3.of_keeps fun b o q _ => ⟨o, k b o q, rfl⟩, oe, vs, T, oT, ts, k _ _ h1, h2, h3, h4, h5, h6, k _ _ h7, h8⟩
abbrev ClauseT := List Value × Option Nat × (Addr → Value → Option Addr → TS)
/-- a suite's ends, its name let go -/
def Ends.drop (D : Ends) : Option Nat → Ends
  | none => D
  | some i => { nx := fun σ' H' => D.nx (σ'.set i none) H', rt := D.rt, bk := fun σ' H' => D.bk (σ'.set i none) H', ct := fun σ' H' => D.ct (σ'.set i none) H' }
def setA (o : Option Nat) (a : Addr) (σ : L2.St) : L2.St := match o with
  | none => σ
  | some i => σ.set i (some (.ref a))
/-- what the clauses wish of an exception of the body -/
def wCl (K : PySem.W.Frag) (Wout : WX) (D : Ends) : List ClauseT → WX
  | [] => Wout
  | (cs, o, ts) :: r => fun cls d σ H => ∃ b, PySem.W.exmAny K cls cs = some b ∧ (b = true → ∀ a, H a = none → ts a cls d (Mp.Ends.drop D o) (setA o a σ) H) ∧ (b = false → wCl K Wout D r cls d σ H)
inductive ClOk (X : Cx) : List ExceptHandler → List ClauseT → Prop
  | nil : ClOk X [] []
  | bare {ty : Expr} {cs : List Value} {ts : Addr → Value → Option Addr → TS} {b₀ : Stmt} {su : List Stmt} {p : Pos} {hds : List ExceptHandler} {l : List ClauseT} (ht : TyS X ty cs)
      (hs : ∀ (a : Addr) (oe : Obj) (cls : Value) (d : Option Addr) (pn : List (Addr × Obj)), Zc cls d oe → (∃ vs, oe.data = .fields vs) → PSs (X.suite a ((a, oe) :: pn)) (b₀ :: su) (ts a cls d)) (r : ClOk X hds l) :
      ClOk X (.ExceptHandler (some ty) none (b₀ :: su) p :: hds) ((cs, none, ts) :: l)
  | named {ty : Expr} {n : Str} {i : Nat} {cs : List Value} {ts : Addr → Value → Option Addr → TS} {b₀ : Stmt} {su : List Stmt} {p : Pos} {hds : List ExceptHandler} {l : List ClauseT} (ht : TyS X ty cs) (hi : X.N[i]? = some n) (hn : X.env.kindOf n = some .local)
      (hs : ∀ (a : Addr) (oe : Obj) (cls : Value) (d : Option Addr) (pn : List (Addr × Obj)), Zc cls d oe → (∃ vs, oe.data = .fields vs) → PSs (X.suite a ((a, oe) :: pn)) (b₀ :: su) (ts a cls d)) (r : ClOk X hds l) :
      ClOk X (.ExceptHandler (some ty) (some n) (b₀ :: su) p :: hds) ((cs, some i, ts) :: l)
section
variable {X : Cx} {body : List Stmt} {h₀ : ExceptHandler} {hds : List ExceptHandler} {l : List ClauseT} {pos : Pos} {tb : WX → TS} {Wout : WX}
theorem ps_try_cl (hs : X.stack = X.env :: X.outer) (hf : X.env.frame = some X.env.locals) (hN : X.N.Nodup) (tk : Takes X Wout)
    (hb : ∀ (W : WX) (pn : List (Addr × Obj)) (xe : Value → Shared → Prop), Takes (X.tr pn xe) W → PassesOwn (model X.prog X.w) X.A X.env xe → PSs (X.tr pn xe) body (tb W))
    (hh : ClOk X (h₀ :: hds) l) : PS X (.Try body (h₀ :: hds) [] [] pos) (fun D σ H => tb (wCl X.K Wout D l) D σ H) := by
  refine ⟨fun pins s σ H D I h => ?_⟩
  have ok := I.ok
  have hfr : X.A.frames = some (X.env :: X.outer) := by rw [ok.frames, hs]
  -- the frames' places are none of an exception's
  have aside : ∀ {B hp : Heap} {a : Addr} {o : Obj} {vs : Array Value}, hp.FunFrames B (X.env :: X.outer) → hp.get? a = some o → o.data = .fields vs → a ≠ X.env.locals ∧ a ∉ X.fs := fun {B hp a o vs} ff e dd => by
    have no : a ∉ frs (X.env :: X.outer) := fun hm => by
      obtain ⟨_, o', e', hnf⟩ := ff.mem hm
      rw [e] at e'; cases e'
      exact hnf _ dd
    refine ⟨fun z => no (List.mem_filterMap.mpr ⟨X.env, List.mem_cons_self, by rw [hf, z]⟩), fun hm => ?_⟩
    obtain ⟨e2, he2, q⟩ := List.mem_filterMap.mp hm
    exact no (List.mem_filterMap.mpr ⟨e2, List.mem_cons_of_mem _ he2, q⟩)
  refine wpAny_Try_except ?_
  refine wpAny_mono ((hb (wCl X.K Wout D l) (X.pn ++ pins) (fun e s₁ => wpAny (model X.prog X.w) X.A (noteFrame e X.env) (fun _ s₂ => wpAny (model X.prog X.w) X.A (setFlight e none) (fun _ s₃ =>
    wpAny (model X.prog X.w) X.A (handleBy e X.env (h₀ :: hds)) (SP X pins D) X.xe s₃) X.xe s₂) X.xe s₁) (fun u s' xx => ?_) PassesOwn.looking).run [] s σ H D (I.toTry _) h) (fun f s1 hsp => ?_) fun e s1 he => he
  · obtain ⟨a, B, sI, pins', σ', H', cls, d, rfl, J', nb, up, sky, na, os, ag, w⟩ := xx
    have J : Inv X pins σ' H' sI := J'.ofTry ok
    have sky' : Sky B (X.env :: X.outer) a (Zc cls d) X.env.locals s'.heap := by rw [← hs]; exact sky
    show wpAny (model X.prog X.w) X.A (noteFrame (.ref a) X.env) _ _ _
    refine Sky.land Zc.steady hfr hf sky' fun h3 fl3 up3 => ?_
    have go : ∀ {hds' : List ExceptHandler} {l' : List ClauseT}, ClOk X hds' l' → wCl X.K Wout D l' cls d σ' H' → ∀ hc : Heap, PySem.HandSPX.FlyingZ B (X.env :: X.outer) a (Zc cls d) hc → sI.heap.UpToSlots hc →
        wpAny (model X.prog X.w) X.A (handleBy (.ref a) X.env hds') (SP X pins D) X.xe { s' with heap := hc } := by
      intro hds' l' hk
      -- the test of a clause
      have test : ∀ {ty : Expr} {cs : List Value} {b : Bool} {hc : Heap} {Q : Bool → Shared → Prop} {E : Value → Shared → Prop}, TyS X ty cs → PySem.W.exmAny X.K cls cs = some b → PySem.HandSPX.FlyingZ B (X.env :: X.outer) a (Zc cls d) hc → sI.heap.UpToSlots hc →
          (∀ h', PySem.HandSPX.FlyingZ B (X.env :: X.outer) a (Zc cls d) h' → sI.heap.UpToSlots h' → Q b { s' with heap := h' }) →
          wpAny (model X.prog X.w) (X.A.mark (some (.ref a))) (eval ty X.env) (fun c s₁ => wpAny (model X.prog X.w) (X.A.mark (some (.ref a))) (excMatches (.ref a) c) Q E s₁) E { s' with heap := hc } := by
        intro ty cs b hc Q E T hb1 fl u0 q
        have J3 : Inv X pins σ' H' { s' with heap := hc } := J.landed nb fl.1 u0 os ag
        obtain ⟨oe3, vs3, he3, hz3, hd3⟩ := fl.there
        obtain ⟨nL, nF⟩ := aside fl.2.2.1 he3 hd3
        have S3 := J3.suite he3 hd3 na nL nF
        refine ty_run T S3 fun u h' kp mt => ?_
        have lt : PySem.W.Looks (model X.prog X.w) h' (typeOf (.ref a)) cls := fun A Q E s k q => wpAny_typeOf_ref (k _ _ (kp _ _ he3)) (by rw [hz3.1]; exact q)
        exact (mt cls b lt hb1).here (q h' (flying_keeps kp fl) (u0.trans (.of_keeps kp)))
      -- the suite of a clause
      have enter : ∀ {hc : Heap}, PySem.HandSPX.FlyingZ B (X.env :: X.outer) a (Zc cls d) hc → sI.heap.UpToSlots hc → ∃ oe, Zc cls d oe ∧ (∃ vs, oe.data = .fields vs) ∧ Inv (X.suite a ((a, oe) :: (X.pn ++ pins))) [] σ' H' { s' with heap := hc } := by
        intro hc fl u0
        have J3 : Inv X pins σ' H' { s' with heap := hc } := J.landed nb fl.1 u0 os ag
        obtain ⟨oe3, vs3, he3, hz3, hd3⟩ := fl.there
        obtain ⟨nL, nF⟩ := aside fl.2.2.1 he3 hd3
        exact ⟨oe3, hz3, ⟨_, hd3⟩, J3.suite he3 hd3 na nL nF⟩
      induction hk with
      | nil =>
        intro w hc fl u0
        refine wpAny_handleBy_nil ?_
        obtain ⟨k1, k2, k3, oe, vs, T, oT, ts', he, hz, hd, h1, hr⟩ := id fl
        unfold PySem.passOn
        refine wpAny_bind (wpAny_field he hd h1 ?_)
        rw [if_neg (show ¬ ((Value.ref T == Value.none) = true) from by simp)]
        have fin : wpAny (model X.prog X.w) X.A (setFlight (.ref a) X.env.frame) (fun _ s4 => wpAny (model X.prog X.w) X.A (throw (.ref a) : Sem Flow) (SP X pins D) X.xe s4) X.xe { s' with heap := hc } := by
          rw [hf]
          refine PySem.HandSPX.setFlight_upZ fl fun h4 hh4 up4 => wpAny_throw (tk _ _ ?_)
          exact ⟨a, B, sI, pins, σ', H', cls, d, rfl, J, nb, u0.trans up4, .inr (.inr (by rw [hs]; exact hh4)), na, os, ag, w⟩
        first | exact wpAny_bind (wpAny_pure (wpAny_bind fin)) | exact wpAny_bind fin
      | bare ht hsu r ih =>
        intro w hc fl u0
        obtain ⟨b, hb1, hyes, hno⟩ := w
        refine wpAny_handleBy_cons (codeAny_handlers_test (test ht hb1 fl u0 fun h' fl' u' => ?_)) (by intro q; cases q)
        cases b with
        | true =>
          refine codeAny_handlers_suite (PySem.HandSPX.lands_againZ fl' fun h4 fl4 up4 => ?_)
          obtain ⟨oe4, hz4, hd4, S4⟩ := enter fl4 (u'.trans up4)
          refine wpAny_mono ((hsu a oe4 cls d (X.pn ++ pins) hz4 hd4).run [] _ _ H' _ S4 (hyes rfl a na)) (fun f s6 hsp => ?_) (fun _ _ z => False.elim z)
          cases f with
          | ret u =>
            obtain ⟨v6, σ6, H6, S6, r6, q6⟩ := hsp
            exact ⟨_, _, _, S6.unsuite ok, r6, q6⟩
          | _ =>
            obtain ⟨σ6, H6, S6, q6⟩ := hsp
            exact ⟨_, _, S6.unsuite ok, q6⟩
        | false => exact ih (hno rfl) h' fl' u'
      | named ht hi hn hsu r ih =>
        intro w hc fl u0
        obtain ⟨b, hb1, hyes, hno⟩ := w
        refine wpAny_handleBy_cons (codeAny_handlers_test (test ht hb1 fl u0 fun h' fl' u' => ?_)) (by intro q; cases q)
        cases b with
        | true =>
          refine codeAny_handlers_suite_as (PySem.HandSPX.lands_againZ fl' fun h4 fl4 up4 => ?_)
          obtain ⟨oe4, hz4, hd4, S4⟩ := enter fl4 (u'.trans up4)
          refine store_ok (X := X.suite a ((a, oe4) :: (X.pn ++ pins))) (v := .ref a) S4 hN hi (.inl hn) rfl (fun s5 S5 => ?_) (.inr hn)
          refine wpAny_mono ((hsu a oe4 cls d (X.pn ++ pins) hz4 hd4).run [] s5 _ H' _ S5 (hyes rfl a na)) (fun f s6 hsp => ?_) (fun _ _ z => False.elim z)
          cases f with
          | ret u =>
            obtain ⟨v6, σ6, H6, S6, r6, q6⟩ := hsp
            exact gone_ok (S6.unsuite ok) hN hi hn fun s7 J7 => ⟨_, _, _, J7, r6, q6⟩
          | _ =>
            obtain ⟨σ6, H6, S6, q6⟩ := hsp
            exact gone_ok (S6.unsuite ok) hN hi hn fun s7 J7 => ⟨_, _, J7, q6⟩
        | false => exact ih (hno rfl) h' fl' u'
    exact go hh w h3 fl3 (up.trans up3)
  · cases f with
    | next =>
      obtain ⟨σ', H', J', q⟩ := hsp
      exact wpAny_execs_nil ⟨σ', H', J'.ofTry ok, q⟩
    | ret u =>
      obtain ⟨v, σ', H', J', r, q⟩ := hsp
      exact ⟨v, σ', H', J'.ofTry ok, r, q⟩
    | _ =>
      obtain ⟨σ', H', J', q⟩ := hsp
      exact ⟨σ', H', J'.ofTry ok, q⟩
end
end Mp


set_option Elab.async false
set_option linter.all false
set_option maxRecDepth 100000
set_option maxHeartbeats 4000000
/-! Lam: a lambda made; a def that calls what it gets, within a try. -/
namespace Mp
open PySem PySem.Spec PyProof.Rows L2
open LamX
section
variable {X : Cx} {pins : List (Addr × Obj)} {σ : L2.St} {H : Hp} {s : Shared}
/-- how the tracked heap grows when a lambda is made -/
def Made (Kn : Addr → Prop) (H : Hp) (P : Addr) (ps : Array Value) (q : Str) (c' : Addr) (H1 : Hp) : Prop :=
  (H1 = H ∧ Kn c') ∨ (H c' = none ∧ ∃ more : Array Value, H1 = upd (upd H P (.tbl (ps ++ more))) c' (CodeO c' q) ∧ TriplesOk (ps ++ more).toList ∧ ∀ (p : Pos) (cv : Value), codeAmong p (ps ++ more).toList = some cv → codeAmong p ps.toList = some cv ∨ cv = .ref c')
theorem lam_make3 {Kn : Addr → Prop} {c P : Addr} {ps : Array Value} {params : Arguments} {body : Expr} {scope : Scope} {pos : Pos} {E : Value → Shared → Prop} {Q : Value → Shared → Prop} (I : Inv X pins σ H s) (TB : TabB X.base X.mg c P) (hcode : X.env.code = .ref c) (hP : H P = some (.tbl ps)) (ht : TriplesOk ps.toList)
    (ha : ∀ (p : Pos) (cv : Value), codeAmong p ps.toList = some cv → ∃ c, cv = .ref c ∧ Kn c) (hdef : defaultsOf params X.env = ([], [])) (hfree : ∀ y ∈ scope.names, y.2 = .free → ∃ c, X.env.cells.lookup y.1 = some c)
    (h : ∀ (f c' : Addr) (pm ctv : Value) (H1 : Hp) (s' : Shared), Inv X ((f, PySem.W.kla_obj "<lambda>" (X.env.qual ++ "<lambda>") params body scope (cloFrom X.env.cells scope.names []) pm c' ctv) :: pins) σ H1 s' → Made Kn H P ps (X.env.qual ++ "<lambda>") c' H1 → f ∉ frs X.stack → Q (.ref f) s') :
    wpAny (model X.prog X.w) X.A (eval (.Lambda params body scope pos) X.env) Q E s := by
  refine PySem.W.kla_eval hdef ?_
  have bP : s.heap.BuiltinsAt X.mg P := TB.bm.keeps I.bk
  have hP' : s.heap.get? P = some { cls := .none, data := .fields ps } := I.hok P _ hP
  have apart : ∀ f, s.heap.objs.size ≤ f → f ∉ frs X.stack := fun f hf z => by
    rcases List.mem_cons.mp (I.stkSub _ z) with e | e
    · have l := I.lt
      rw [← e] at l
      exact Nat.lt_irrefl _ (Nat.lt_of_lt_of_le l hf)
    · exact I.nofs hf e
  cases hc : codeAmong pos ps.toList with
  | some cv =>
    obtain ⟨c', rfl, hco⟩ := ha pos cv hc
    refine PySem.W.kla_makeFunctionHit (mg := X.mg) (c := c) (P := P) (ps := ps) (closure_ok hfree) I.ok.glob (I.mod.glob.keeps I.bk) hcode (TB.code.keeps I.bk) hP' ht hc bP fun ctv h' tk hx hsz => ?_
    exact h h'.objs.size c' _ ctv H _ (ClX.pin_new I (fun b o e => Heap.get?_push_of_some _ (hx b o e)) hsz (Heap.get?_push_size _ rfl) fun v z => nomatch z) (.inl ⟨rfl, hco⟩) (apart _ hsz)
  | none =>
    refine PySem.W.kla_makeFunction (mg := X.mg) (c := c) (P := P) (ps := ps) (closure_ok hfree) I.ok.glob (I.mod.glob.keeps I.bk) hcode (TB.code.keeps I.bk) hP' ht hc TB.gP bP fun c' ctv h' tk hx hge hlt hrec htb => ?_
    obtain ⟨c2, oc, vs, t, e2, hoc, hd, hv⟩ := hrec
    cases e2
    have hsz : s.heap.objs.size ≤ h'.objs.size := Nat.le_trans hge (Nat.le_of_lt hlt)
    have nC : H c' = none := I.hok.fresh hge
    have I1 := inv_table (t' := tk) (q := X.env.qual ++ "<lambda>") (more := #[rawInt pos.line, rawInt pos.col, .ref c']) (h' := h'.push (PySem.W.kla_obj "<lambda>" (X.env.qual ++ "<lambda>") params body scope (cloFrom X.env.cells scope.names []) ((X.mg "__name__").getD .none) c' ctv)) I hP
      (fun b o hb e => Heap.get?_push_of_some _ (hx b o hb e)) (Heap.get?_push_of_some _ htb) hge ⟨oc, vs, t, Heap.get?_push_of_some _ hoc, hd, hv⟩
    have eL : (ps ++ #[rawInt pos.line, rawInt pos.col, .ref c']).toList = ps.toList ++ [rawInt pos.line, rawInt pos.col, .ref c'] := by simp
    have new : upd (upd H P (.tbl (ps ++ #[rawInt pos.line, rawInt pos.col, .ref c']))) c' (CodeO c' (X.env.qual ++ "<lambda>")) h'.objs.size = none := by
      rw [upd_ne (Nat.ne_of_gt hlt), upd_ne (Nat.ne_of_gt (Nat.lt_of_lt_of_le (Heap.lt_size hP') hsz))]
      exact I.hok.fresh hsz
    refine h h'.objs.size c' ((X.mg "__name__").getD .none) ctv _ _ (I1.pins_of fun p hp => ?_) (.inr ⟨nC, _, rfl, by rw [eL]; exact TriplesOk_snoc _ _ _ _ ht, fun p cv hcv => ?_⟩) (apart _ hsz)
    · rcases List.mem_cons.mp hp with rfl | hp
      · exact ⟨Heap.get?_push_size _ rfl, new, Nat.ne_of_gt (Nat.lt_of_lt_of_le I.lt hsz), I.nofs hsz, fun v z => nomatch z⟩
      · exact I1.pin p (List.mem_append_right _ hp)
    · rw [eL] at hcv
      exact among_app _ ht hcv
end
/-- .. the state's relation along with it: the code object stays -/
theorem SR.made {k : Gk} {g : Gh} {env : En} {st : Store} {σ : L2.St} {H H1 : Hp} {n : Nat} {q : Str} {c' P : Addr} {ps : Array Value} (S : SR k g env st σ H) (e : st[n]? = some (.tab q)) (hP : H P = some (.tbl ps)) (ep : g.α n = P) (m : Made (fun c => g.F c = some (CodeO c q)) H P ps q c' H1) :
    ∃ g', Ext g env st σ H g' env st σ H1 ∧ SR k g' env st σ H1 ∧ g'.F c' = some (CodeO c' q) ∧ Dom H H1 := by
  rcases m with ⟨rfl, hc⟩ | ⟨nC, more, rfl, ht, hm⟩
  · exact ⟨g, Ext.refl, S, hc, fun _ h => h⟩
  subst ep
  obtain ⟨etb, ps', hp', ht', hk⟩ := S.cell n _ e
  rw [hP] at hp'
  cases hp'
  obtain ⟨S1, x1, n1, tr⟩ := S.dropCell e trivial
  have no : ∀ x, HO.tbl ps ≠ .own x := fun x z => by cases z
  have ni : ∀ C dx fs, HO.tbl (ps ++ more) ≠ .ins C dx fs := fun _ _ _ z => by cases z
  obtain ⟨S2, n2⟩ := S1.updU (u := .tbl (ps ++ more)) hP no ni n1
  have x2 := x1.updU S1 (u := .tbl (ps ++ more)) hP no ni n1 (fun _ => tr)
  have nC2 : upd H (g.α n) (.tbl (ps ++ more)) c' = none := by rw [upd_ne (fun z => by rw [z, hP] at nC; cases nC)]; exact nC
  have gr := Grow.one (o := CodeO c' q) S2 nC2
  have S3 := S2.grow gr
  have x3 := x2.trans (Ext.grow S2 gr)
  have hn : n < (st.set n .no).length := by rw [List.length_set]; exact (List.getElem?_eq_some_iff.mp e).1
  have hne : c' ≠ g.α n := fun z => by rw [z, hP] at nC; cases nC
  have n3 : ¬ Trk (g.put c' (CodeO c' q)) env (st.set n .no) σ (upd (upd H (g.α n) (.tbl (ps ++ more))) c' (CodeO c' q)) (g.α n) := by
    have hh : upd H (g.α n) (.tbl (ps ++ more)) (g.α n) = some (.tbl (ps ++ more)) := upd_same
    exact ((Ext.grow S2 gr).keep _ _ hh n2).2
  have ok : CellOk k (g.put c' (CodeO c' q)) (upd (upd H (g.α n) (.tbl (ps ++ more))) c' (CodeO c' q)) (g.α n) (.tab q) := by
    refine ⟨etb, ps ++ more, by rw [upd_ne (Ne.symm hne), upd_same], ht, fun p cv h => ?_⟩
    rcases hm p cv h with h | h
    · obtain ⟨c, e1, e2⟩ := hk p cv h
      exact ⟨c, e1, gr.f _ _ e2⟩
    · exact ⟨c', h, upd_same⟩
  have S4 := S3.setCellC (c0 := .tab q) trivial hn n3 ok
  have x4 := x3.setCellC (c0 := .tab q) trivial hn (fun _ => tr)
  have e2 : (st.set n Cell.no).set n (.tab q) = st := by
    rw [List.set_set]
    exact set_same e
  rw [e2] at S4 x4
  exact ⟨_, x4, S4, upd_same, fun a h => x4.there a h⟩
/-! ### a closure, called wherever it was handed -/
/-- the function object at f, made when the heap was h0, may be called: tl tells what it asks -/
structure ClV (P : Program) (w : World) (K : PySem.W.Frag) (mg : Str → Option Value) (base : Heap) (fr : List Addr) (H0 : Hp) (h0 : Heap) (k : Nat) (f c' : Addr) (q : Str) (tl : XK → Hp → VK → Prop) : Prop where
  at_ : ∃ o, h0.get? f = some o ∧ H0 f = none ∧ f ∉ fr ∧ ∀ h : Heap, h.get? f = some o → PySem.W.FnAt f h
  run : ∀ (A : Around) (outer : List Env) (s : Shared) (H : Hp) (Q : VK) (E : XK), Room (k + 1) A → Env0 P w K mg base A outer s H → A.handled = none → Un fr [] H0 H h0 s.heap → H c' = some (CodeO c' q) → tl E H Q →
    codeAny (model P w) A (.call (.ref f) ⟨[], []⟩) (CR (L2.CX P w) outer P w H s Q E) s
theorem clv_of {X : Cx} {pins : List (Addr × Obj)} {σ : L2.St} {H : Hp} {s : Shared} {f c' : Addr} {pm ctv : Value} {params : Arguments} {body : Expr} {scope : Scope} {k : Nat} {tb : XK → TE} (I : Inv X pins σ H s) (L : LamS X.env.scope scope)
    (hf : s.heap.get? f = some (PySem.W.kla_obj "<lambda>" (X.env.qual ++ "<lambda>") params body scope (cloFrom X.env.cells scope.names []) pm c' ctv)) (hfn : H f = none) (hfr : f ∉ frs X.stack)
    (hbind : ∀ cv : Value, bindArgs (PySem.W.kla_fn "<lambda>" (X.env.qual ++ "<lambda>") params body scope (cloFrom X.env.cells scope.names []) pm cv ctv) ⟨[], []⟩ = pure [])
    (hbody : ∀ (A : Around) (outer : List Env) (s : Shared) (H : Hp) (E : XK), Room k (A.deeper (lamEnv X scope s.heap.objs.size f c')) → PE (lamCx X A outer s H E scope f c') body (tb E)) :
    ClV X.prog X.w X.K X.mg X.base (frs X.stack) H s.heap k f c' (X.env.qual ++ "<lambda>") (fun E H' Q => tb E σ H' Q) := by
  refine ⟨⟨_, hf, hfn, hfr, fun h e => ⟨_, _, _, _, e⟩⟩, fun A outer s1 HZ Q E hr e0 hd un hc ht => ?_⟩
  have of1 : s1.heap.get? f = some (PySem.W.kla_obj "<lambda>" (X.env.qual ++ "<lambda>") params body scope (cloFrom X.env.cells scope.names []) pm c' ctv) := un.keep f _ hf hfn hfr (fun z => nomatch (show f ∈ ([] : List Addr) from z))
  obtain ⟨⟨oc, vs, t, hoc, hdc, hvc⟩, _, _⟩ := e0.hok c' _ hc
  refine PySem.W.kla_callFunE hr.depth of1 rfl L.co L.gen rfl ⟨c', oc, vs, t, rfl, hoc, hdc, hvc⟩ ?_
  rw [hbind]
  have nolim : s1.heap.NoLimit := e0.mod.nolimit.keeps fun b o e => (e0.bs b o e).1
  refine wpAny_pure (wpAny_newFunctionEnv (fun y hy => (L.own y hy).2) (fun y hy => absurd hy (by simp)) (fun h₁ hns hsb => ⟨nolim.fresh _ hsb, ?_⟩) L.kind)
  show codeAny _ _ (.expr body (lamEnv X scope s1.heap.objs.size f c')) _ _
  have kp : ∀ b o, s1.heap.get? b = some o → h₁.get? b = some o := fun b o e => hsb.extBut b o (Nat.ne_of_lt (Heap.lt_size e)) (Heap.get?_push_of_some _ e)
  have J : Inv (lamCx X A outer s1 HZ E scope f c') [] σ HZ { s1 with heap := h₁, toks := s1.toks + ([] : List (Str × Value)).length } := lam_start2 I L e0 hd un hns kp
  refine PySem.W.kla_codeExpr (wpAny_mono ((hbody _ _ s1 HZ E (hr.deeper _)).run [] _ _ HZ Q J ht) (fun v s' hq => ?_) fun e s' hq => hq)
  obtain ⟨w', H', J', rv, qq⟩ := hq
  exact ⟨w', H', J'.os, J'.bare, J'.base, J'.hok, rv, qq⟩
/-- a link from the closure's making to a context's start -/
structure Lk (Z : Cx) (fr : List Addr) (H0 : Hp) (h0 : Heap) : Prop where
  un : Un fr [] H0 Z.H_0 h0 Z.s_0.heap
  ex : Z.ex = []
  out : ∀ b ∈ Z.fs, b ∈ fr ∨ h0.get? b = none
theorem un_link {fr fs : List Addr} {H0 H1 H2 : Hp} {h0 h1 h2 : Heap} (a : Un fr [] H0 H1 h0 h1) (b : Un fs [] H1 H2 h1 h2) (o : ∀ c ∈ fs, c ∈ fr ∨ h0.get? c = none) : Un fr [] H0 H2 h0 h2 := by
  have no : ∀ {c : Addr}, c ∉ ([] : List Addr) := fun h => by cases h
  have out : ∀ {c : Addr} {u : Obj}, h0.get? c = some u → c ∉ fr → c ∉ fs := fun {c u} e n m => by
    rcases o c m with z | z
    · exact n z
    · rw [e] at z; cases z
  refine ⟨fun c u e n nf _ => b.keep c u (a.keep c u e n nf no) (a.free c u e n no) (out e nf) no, fun c u e n mf _ => ?_, fun c u e n _ => ?_, fun c u e _ => ?_, fun c xs e => b.tups c xs (a.tups c xs e), fun c u v e => b.frzs c u v (a.frzs c u v e), fun c ps e => ?_⟩
  · obtain ⟨sl, e1⟩ := a.slot c u e n mf no
    obtain ⟨sl2, e2⟩ := b.any e1 (a.free c u e n no) no
    exact ⟨sl2, e2⟩
  · obtain ⟨sl, e1⟩ := a.any e n no
    exact b.free c _ e1 (a.free c u e n no) no
  · obtain ⟨u1, e1⟩ := a.there c u e no
    exact b.there c u1 e1 no
  · obtain ⟨m1, e1⟩ := a.tbls c ps e
    obtain ⟨m2, e2⟩ := b.tbls c _ e1
    exact ⟨m1 ++ m2, by rw [e2, Array.append_assoc]⟩
theorem Lk.at {Z : Cx} {fr : List Addr} {H0 : Hp} {h0 : Heap} (l : Lk Z fr H0 h0) {pins : List (Addr × Obj)} {σ : L2.St} {H : Hp} {s : Shared} (I : Inv Z pins σ H s) : Un fr [] H0 H h0 s.heap := by
  have b := I.base
  rw [l.ex] at b
  exact un_link l.un b l.out
/-- x(), x what was handed in -/
theorem pe_clo {Z : Cx} {fr : List Addr} {H0 : Hp} {h0 : Heap} {k i : Nat} {f c' : Addr} {q a : Str} {tl : XK → Hp → VK → Prop} {E : XK} {p1 p2 : Pos} (V : ClV Z.prog Z.w Z.K Z.mg Z.base fr H0 h0 k f c' q tl) (l : Lk Z fr H0 h0) (hN : Z.N[i]? = some a) (hv : Vis Z.env.scope a) (ok : okN a = true) (hr : Room (k + 1) Z.A) (hcalm : Z.calm = true)
    (hx : ∀ σ, PassesAt (L2.CX Z.prog Z.w) Z σ E) :
    PE Z (.Call (.Name a p1) [] [] p2) (fun σZ HZ Q => σZ[i]? = some (some (.ref f)) ∧ HZ c' = some (CodeO c' q) ∧ tl E HZ Q) := by
  refine ⟨fun pins s σZ HZ Q I h => ?_⟩
  obtain ⟨hs, hc, ht⟩ := h
  obtain ⟨o, ho, hn, hnf, cw⟩ := V.at_
  refine wpAny_Call_Name_kw (thn ((pv_at (p := p1) (i := i) hN hv ok).run pins s σZ HZ (fun v H1 => v = .ref f ∧ H1 = HZ) I ⟨.ref f, hs, rfl, rfl⟩) fun u s1 ⟨v, H1, I1, r1, q1⟩ => ?_)
  obtain ⟨rfl, rfl⟩ := q1
  obtain rfl : u = Value.ref f := r1
  have un := l.at I1
  refine PySem.W.callWith_F0 (cw _ (un.keep f _ ho hn hnf (fun z => nomatch (show f ∈ ([] : List Addr) from z)))) ?_
  refine wpAny_call (codeAny_mono (V.run Z.A Z.stack s1 H1 Q E hr I1.env0 (I1.ok.hd hcalm) un hc ht) fun r s' hq => ?_)
  cases r with
  | error e => exact hx σZ pins H1 s1 e s' I1 hq
  | ok fl =>
    cases fl with
    | ret u => exact I1.after hq
    | next => exact False.elim hq
    | brk => exact False.elim hq
    | cont => exact False.elim hq
end Mp


set_option Elab.async false
set_option linter.all false
set_option maxRecDepth 100000
set_option maxHeartbeats 4000000
/-! Trd: a def that calls what it gets within a try and tells what it caught. -/
namespace Mp
open PySem PySem.Spec PyProof.Rows L2
open LamX
def looks (fs : List (Str × V)) : List Str → Option (List V)
  | [] => some []
  | f :: r => match fs.lookup f, looks fs r with
    | some v, some vs => some (v :: vs)
    | _, _ => none
theorem looks_len {fs : List (Str × V)} : ∀ {l : List Str} {vs : List V}, looks fs l = some vs → vs.length = l.length
  | [], vs, e => by cases e; rfl
  | f :: r, vs, e => by
    unfold looks at e
    split at e
    · rename_i v ws h1 h2
      cases e
      simp [looks_len h2]
    · cases e
section
variable {X : Cx} {a : Addr} {oe : Obj} {cls : Value} {d : Option Addr} {pn : List (Addr × Obj)} {n : Str} {i : Nat}
theorem flds_ok (hz : Zc cls d oe) (hf : ∃ vs, oe.data = .fields vs) (hN : X.N[i]? = some n) (hv : Vis X.env.scope n) (ok : okN n = true) : ∀ {es : List Expr} {fl : List Str}, fldL n es = some fl →
    PA (X.suite a ((a, oe) :: pn)) es (fun σ H Q => ∃ C dd fs ws, cls = .ref C ∧ d = some dd ∧ XfC X.K C ∧ (∀ f ∈ fl, PySem.W.findIn X.K (.ref C) f = some none) ∧ σ[i]? = some (some (.ref a)) ∧ H dd = some (.xd fs) ∧ looks fs fl = some ws ∧ Q ws H)
  | [], fl, e => by
    cases e
    exact Mp.PA.imp pa_nil fun σ H Q ⟨C, dd, fs, ws, _, _, _, _, _, _, h, q⟩ => by cases h; exact q
  | e0 :: es, fl, e => by
    cases e0 with
    | Attribute o f p =>
      cases o with
      | Name x q =>
        unfold fldL at e
        split at e
        · rename_i hx
          have hx : x = n := by simpa using hx
          rw [hx]
          cases h1 : fldL n es with
          | none => rw [h1] at e; cases e
          | some fl' =>
            rw [h1] at e
            cases e
            have rest := flds_ok hz hf hN hv ok h1
            have one : PE (X.suite a ((a, oe) :: pn)) (.Attribute (.Name n q) f p) (fun σ H Q => ∃ C dd fs v, cls = .ref C ∧ d = some dd ∧ XfC X.K C ∧ PySem.W.findIn X.K (.ref C) f = some none ∧ σ[i]? = some (some (.ref a)) ∧ H dd = some (.xd fs) ∧ fs.lookup f = some v ∧ Q v H) := by
              refine ⟨fun pins s σ H Q I h => ?_⟩
              obtain ⟨C, dd, fs, v, h1, h2, T, hno, h3, h4, h5, h6⟩ := h
              exact (pe_xf (X := X) T hno hz hf (pv_at (X := X.suite a ((a, oe) :: pn)) (i := i) hN hv ok)).run pins s σ H Q I ⟨.ref a, h3, rfl, h1, dd, fs, v, h2, h4, h5, h6⟩
            refine Mp.PA.imp (pa_cons one rest) fun σ H Q ⟨C, dd, fs, ws, h1, h2, T, hno, h3, h4, h5, h6⟩ => ?_
            unfold looks at h5
            split at h5
            · rename_i v vs h7 h8
              cases h5
              exact ⟨C, dd, fs, v, h1, h2, T, hno f List.mem_cons_self, h3, h4, h7, C, dd, fs, vs, h1, h2, T, fun g hg => hno g (List.mem_cons_of_mem _ hg), h3, h4, h8, h6⟩
            · cases h5
        · cases e
      | _ => cases e
    | _ => cases e
end
/-- a clause's suite -/
def tsH (K : PySem.W.Frag) (i : Nat) (fl : List Str) (a : Addr) (cls : Value) (d : Option Addr) : TS := fun D σ H => ∃ C dd fs ws, cls = .ref C ∧ d = some dd ∧ XfC K C ∧ (∀ f ∈ fl, PySem.W.findIn K (.ref C) f = some none) ∧ σ[i]? = some (some (.ref a)) ∧ H dd = some (.xd fs) ∧ looks fs fl = some ws ∧
  ws.length ≤ sizeLine ∧ ∀ p, H p = none → D.rt (.ref p) (upd H p (.tup ws))
def clauseH (k : Gk) (i : Nat) (h : HdD) : ClauseT := (h.cs.map fun c => Value.ref (k.cl c), some i, tsH k.K i h.fs)
theorem nameL_of : ∀ {es : List Expr} {xs : List Str}, nameL es = some xs → ∃ l : List (Str × Pos), es = l.map (fun q => Expr.Name q.1 q.2) ∧ xs = l.map (·.1)
  | [], xs, e => by cases e; exact ⟨[], rfl, rfl⟩
  | e0 :: es, xs, e => by
    cases e0 with
    | Name x p =>
      have e : (nameL es).map (x :: ·) = some xs := e
      cases h : nameL es with
      | none => rw [h] at e; cases e
      | some ys =>
        rw [h] at e
        cases e
        obtain ⟨l, rfl, rfl⟩ := nameL_of h
        exact ⟨(x, p) :: l, rfl, rfl⟩
    | _ => cases e
theorem paired_names {X : Cx} {f : Str → Value} : ∀ {l : List (Str × Pos)}, (∀ c ∈ l.map (·.1), Names X c (f c)) → Paired (fun (q : Str × Pos) c => Names X q.1 c) l (l.map fun q => f q.1)
  | [], _ => .nil
  | q :: l, h => .cons (h q.1 List.mem_cons_self) (paired_names fun c hc => h c (List.mem_cons_of_mem _ hc))
theorem clsN_ok {X : Cx} {f : Str → Value} {ty : Expr} {cs : List Str} (e : clsN ty = some cs) (h : ∀ c ∈ cs, Names X c (f c)) (z : cs.length ≤ 1000) : TyS X ty (cs.map f) := by
  cases ty with
  | Name x p => cases e; exact .one (h x (by simp))
  | Tuple es kk p =>
    obtain ⟨l, rfl, rfl⟩ := nameL_of (show nameL es = some cs from e)
    have := TyS.tup (k := kk) (p := p) (paired_names (X := X) (f := f) (l := l) h) (by simpa using z)
    rw [List.map_map]
    exact this
  | _ => cases e
theorem hds_ok {k : Gk} {X : Cx} {n : Str} {i : Nat} (hK : X.K = k.K) (hN : X.N[i]? = some n) (hv : X.env.kindOf n = some .local) (ok : okN n = true) : ∀ {hds : List ExceptHandler} {l : List HdD}, hdsOf n hds = some l → (∀ h ∈ l, h.cs.length ≤ 1000 ∧ ∀ c ∈ h.cs, Names X c (.ref (k.cl c))) →
    ClOk X hds (l.map (clauseH k i))
  | [], l, e, _ => by cases e; exact .nil
  | h :: hds, l, e, hn => by
    unfold hdsOf at e
    split at e
    · rename_i hd ds h1 h2
      cases e
      have rest := hds_ok hK hN hv ok h2 fun g hg => hn g (List.mem_cons_of_mem _ hg)
      obtain ⟨z, hc⟩ := hn hd List.mem_cons_self
      unfold hdOf at h1
      split at h1
      · rename_i ty m es kk p rp hp
        split at h1
        · rename_i hm
          have hm : m = n := by simpa using hm
          subst hm
          split at h1
          · rename_i cs fs h3 h4
            cases h1
            refine .named (clsN_ok (f := fun c => Value.ref (k.cl c)) h3 hc z) hN hv (fun a oe cls d pn hz hf => ?_) rest
            refine Mp.PSs.imp (pss_one (ps_ret (pe_tup (flds_ok hz hf hN (.inl hv) ok h4)))) fun D σ H q => ?_
            obtain ⟨C, dd, fs', ws, h1, h2, T, h5, h6, h7, h8, h9, h10⟩ := q
            exact ⟨C, dd, fs', ws, h1, h2, by rw [hK]; exact T, by rw [hK]; exact h5, h6, h7, h8, h9, h10⟩
          · cases h1
        · cases h1
      · cases h1
    · cases e
/-! ### the def -/
/-- what the clauses make of an exception -/
def hdlR (k : Gk) (cls : Value) (d : Option Addr) (H : Hp) (Q : VK) : List HdD → Prop
  | [] => False
  | h :: r => ∃ b, PySem.W.exmAny k.K cls (h.cs.map fun c => Value.ref (k.cl c)) = some b ∧
      (b = true → ∃ C dd fs ws, cls = .ref C ∧ d = some dd ∧ XfC k.K C ∧ (∀ f ∈ h.fs, PySem.W.findIn k.K (.ref C) f = some none) ∧ H dd = some (.xd fs) ∧ looks fs h.fs = some ws ∧ ws.length ≤ sizeLine ∧ ∀ p, H p = none → Q (.ref p) (upd H p (.tup ws))) ∧ (b = false → hdlR k cls d H Q r)
def TTr (k : Gk) (w : Str) (hs : List HdD) (tl : XK → Hp → VK → Prop) (H : Hp) (Q : VK) : Prop :=
  ∃ Ech : XK, tl Ech H (fun v H' => ([V.str w, v] : List V).length ≤ sizeLine ∧ ∀ p, H' p = none → Q (.ref p) (upd H' p (.tup [.str w, v]))) ∧ ∀ cls d H', Ech cls d H' → hdlR k cls d H' Q hs
theorem hdl_wcl {k : Gk} {K : PySem.W.Frag} {cls : Value} {d : Option Addr} {H : Hp} {D : Ends} {σ : L2.St} (hK : K = k.K) (hl : σ.length = 2) : ∀ {hs : List HdD}, hdlR k cls d H D.rt hs → wCl K (fun _ _ _ _ => False) D (hs.map (clauseH k 1)) cls d σ H
  | [], h => h.elim
  | h' :: r, h => by
    obtain ⟨b, e1, e2, e3⟩ := h
    refine ⟨b, by rw [hK]; exact e1, fun hb a ha => ?_, fun hb => hdl_wcl hK hl (e3 hb)⟩
    obtain ⟨C, dd, fs, ws, a1, a2, a3, a4, a5, a6, a7, a8⟩ := e2 hb
    refine ⟨C, dd, fs, ws, a1, a2, a3, a4, ?_, a5, a6, a7, a8⟩
    show (σ.set 1 (some (V.ref a)))[1]? = _
    rw [List.getElem?_set_self (by omega)]
theorem triedOf_ok {act n w : Str} {body : List Stmt} {hs : List HdD} (e : triedOf act n body = some (w, hs)) : ∃ j p1 p2 p3 kk p4 p5 h hds p6, body = [.Try [.Return (some (.Tuple [.Constant (.str w) j p1, .Call (.Name act p2) [] [] p3] kk p4)) p5] (h :: hds) [] [] p6] ∧ hdsOf n (h :: hds) = some hs := by
  unfold triedOf at e
  split at e
  · split at e
    · rename_i ha
      have ha := beq_iff_eq.mp ha
      cases h1 : hdsOf n (_ :: _) with
      | none => rw [h1] at e; cases e
      | some l =>
        rw [h1] at e
        cases e
        exact ⟨_, _, _, _, _, _, _, _, _, _, by rw [ha], h1⟩
    · cases e
  · cases e
theorem run_tried {k : Gk} {Y : Cx} {g : Addr} {fd : FuncData} {x act n w : Str} {hs : List HdD} {body : List Stmt} {sg : Scope} {fr : List Addr} {H0 : Hp} {h0 : Heap} {kk : Nat} {f c' : Addr} {q : Str} {tl : XK → Hp → VK → Prop} {pins : List (Addr × Obj)} {σ : L2.St} {H : Hp} {s : Shared} {Q : VK} (hK : Y.K = k.K) (D : TrD k Y.mg g fd x act n w hs body sg) (Ex : ExcOk k Y.mg)
    (Vc : ClV Y.prog Y.w Y.K Y.mg Y.base fr H0 h0 kk f c' q tl) (hr : Room (kk + 2) Y.A) (I : Inv Y pins σ H s) (hc : H c' = some (CodeO c' q)) (un : Un fr [] H0 H h0 s.heap) (out : ∀ b ∈ frs Y.stack, b ∈ fr ∨ h0.get? b = none) (h : TTr k w hs tl H Q) :
    wpAny (model Y.prog Y.w) Y.A (call (.ref g) [.ref f]) (EP Y pins σ Q) Y.xe s := by
  obtain ⟨qual, params, F⟩ := D.F
  rw [← hK] at F
  obtain ⟨oc, od, dV, kV, doc, pm, an, cdv, ct, osl, rfl, lk, hcd, _, _⟩ := F.ex
  obtain ⟨j, p1, p2, p3, kt, p4, p5, hd, hds, p6, rfl, hhs⟩ := triedOf_ok D.b
  obtain ⟨Ech, ht, hx⟩ := h
  have bnd := D.bnd
  rw [← hK] at bnd
  have rc : codeAny (model Y.prog Y.w) Y.A (.call (.ref g) ⟨[.ref f], []⟩) (CR C8.CX0 Y.stack Y.prog Y.w H s Q C8.E0) s := by
    refine run_ofS (N := [act, n]) (ps := [act]) (us := [.ref f]) (vs := [.ref f]) lk hcd D.S hr I.env0 (bnd s [.ref f] I.kIn rfl) (.cons rfl .nil) rfl fun hr' => ?_
    have vact : Vis sg act := vis_par D.S (by simp)
    have names : ∀ c ∈ (hs.flatMap (·.cs)), Names (cxOf C8.CX0 Y.prog Y.w Y.K Y.mg Y.base [act, n] qual sg g cdv Y.A Y.stack s H C8.E0).nox c (.ref (k.cl c)) := fun c hm => by
      obtain ⟨h', m1, m2⟩ := List.mem_flatMap.mp hm
      obtain ⟨⟨ns, e1⟩, e2, e3⟩ := (D.cs h' m1).2 c m2
      exact ⟨e2, e3, .inl (Ex.at_ c ns e1)⟩
    have cl := hds_ok (k := k) (X := (cxOf C8.CX0 Y.prog Y.w Y.K Y.mg Y.base [act, n] qual sg g cdv Y.A Y.stack s H C8.E0).nox) (i := 1) hK rfl D.loc D.ok.2 hhs fun h' m => ⟨(D.cs h' m).1.1, fun c m2 => names c (List.mem_flatMap.mpr ⟨h', m, m2⟩)⟩
    refine ⟨_, (pss_one (ps_try_cl (X := (cxOf C8.CX0 Y.prog Y.w Y.K Y.mg Y.base [act, n] qual sg g cdv Y.A Y.stack s H C8.E0).nox) (pos := p6)
      (tb := fun W D σ H => ∃ Ech : XK, (∀ cls d σ' H', σ'.length = 2 → Ech cls d H' → W cls d σ' H') ∧ σ.length = 2 ∧ σ[0]? = some (some (.ref f)) ∧ H c' = some (CodeO c' q) ∧ tl Ech H (fun v H' => ([V.str w, v] : List V).length ≤ sizeLine ∧ ∀ p, H' p = none → D.rt (.ref p) (upd H' p (.tup [.str w, v]))))
      rfl rfl D.S.nd L2.takes0 (fun W pn xe tk po => ?_) cl)).nox, ?_⟩
    · refine ⟨fun pins s' σ H' D' I' h' => ?_⟩
      obtain ⟨Ec, hW, hl, h1, h2, h3⟩ := h'
      have act_ := pe_clo (Z := (cxOf C8.CX0 Y.prog Y.w Y.K Y.mg Y.base [act, n] qual sg g cdv Y.A Y.stack s H C8.E0).nox.tr pn xe) (i := 0) (E := Ec) (p1 := p2) (p2 := p3) Vc ⟨un, rfl, out⟩ rfl vact D.ok.1 hr' rfl
        (fun σ pins H'' s'' e s3 I3 cx => ?_)
      · have := pss_one (ps_ret (pos := p5) (pe_tup (x1 := kt) (pos := p4) (pa_cons (pe_str (x := w) (j := j) (pos := p1)) (pa_cons act_ pa_nil))))
        exact this.run pins s' σ H' D' I' ⟨h1, h2, h3⟩
      · have l2 : σ.length = 2 := I3.len
        exact tk e s3 (XE.of_call I3 (fun cls d H3 he => hW cls d σ H3 l2 he) cx)
    · refine ⟨Ech, fun cls d σ' H' hl he => ?_, rfl, rfl, hc, ?_⟩
      · exact hdl_wcl hK hl (hx cls d H' he)
      · exact ht
  refine wpAny_call (codeAny_mono rc fun r s2 hq => ?_)
  cases r with
  | error e => exact (show False from hq).elim
  | ok fl =>
    cases fl with
    | ret u => exact I.after hq
    | next => exact False.elim hq
    | brk => exact False.elim hq
    | cont => exact False.elim hq
/-! ### x(lambda: e) -/
theorem exmAny_of {k : Gk} {mg : Str → Option Value} (Ex : ExcOk k mg) {c : Str} {ns : List Str} (hc : k.xn c = some ns) : ∀ {cs : List Str}, (∀ d ∈ cs, ∃ ms, k.xn d = some ms) → PySem.W.exmAny k.K (.ref (k.cl c)) (cs.map fun d => Value.ref (k.cl d)) = some (cs.contains c)
  | [], _ => rfl
  | d :: cs, h => by
    obtain ⟨ms, hd⟩ := h d List.mem_cons_self
    have e1 := Ex.sub c d ns ms hc hd
    have e2 := exmAny_of Ex hc fun e he => h e (List.mem_cons_of_mem _ he)
    rw [List.map_cons, List.contains_cons]
    unfold PySem.W.exmAny
    rw [e1, e2]
theorem look_rep {k : Gk} {g : Gh} {f : Str} {t : T} : ∀ {fs : List (Str × V)} {vs : List T}, RepL k g vs (fs.map (·.2)) → lookF f (fs.map (·.1)) vs = some t → ∃ v, fs.lookup f = some v ∧ Rep k g t v
  | [], vs, _, e => by cases vs <;> cases e
  | (n, v) :: fs, [], _, e => by cases e
  | (n, v) :: fs, u :: vs, r, e => by
    rw [List.map_cons, RepL.cons] at r
    obtain ⟨w, ws, h1, h2, h3⟩ := r
    cases h1
    unfold lookF at e
    rw [List.map_cons] at e
    simp only at e
    rw [List.lookup_cons]
    by_cases hn : n = f
    · subst hn
      rw [if_pos (by simp)] at e
      cases e
      exact ⟨v, by simp, h2⟩
    · have b1 : (n == f) = false := by simpa using hn
      have b2 : (f == n) = false := by simpa using Ne.symm hn
      rw [b1, if_neg (by decide)] at e
      rw [b2]
      exact look_rep h3 e
theorem lookF_mem {α : Type} {f : Str} : ∀ {ns : List Str} {vs : List α} {t : α}, lookF f ns vs = some t → f ∈ ns
  | [], vs, t, e => by cases vs <;> cases e
  | n :: ns, [], t, e => by cases e
  | n :: ns, v :: vs, t, e => by
    unfold lookF at e
    split at e
    · rename_i h
      have h : n = f := by simpa using h
      rw [h]; exact List.mem_cons_self
    · exact List.mem_cons_of_mem _ (lookF_mem e)
theorem flds_rep {k : Gk} {g : Gh} {fs : List (Str × V)} {vs : List T} (r : RepL k g vs (fs.map (·.2))) : ∀ {fl : List Str} {ts : List T}, fldsT (fs.map (·.1)) vs fl = some ts → ∃ ws, looks fs fl = some ws ∧ RepL k g ts ws ∧ ∀ f ∈ fl, f ∈ fs.map (·.1)
  | [], ts, e => by cases e; exact ⟨[], rfl, RepL.nil.mpr rfl, fun f hf => by cases hf⟩
  | f :: fl, ts, e => by
    unfold fldsT at e
    split at e
    · rename_i t us h1 h2
      cases e
      obtain ⟨v, e1, r1⟩ := look_rep r h1
      obtain ⟨ws, e2, r2, m⟩ := flds_rep r h2
      refine ⟨v :: ws, by unfold looks; rw [e1, e2], RepL.cons.mpr ⟨v, ws, rfl, r1, r2⟩, fun g' hg => ?_⟩
      rcases List.mem_cons.mp hg with rfl | hg
      · exact lookF_mem h1
      · exact m g' hg
    · cases e
section
variable {k : Gk} {g g' : Gh} {env : En} {st st' : Store} {σ : L2.St} {H H' : Hp}
theorem new_tupN (S : SR k g env st σ H) {p : Addr} (hp : H p = none) {xs : List T} {vs : List V} (r : RepL k g xs vs) : ∃ g', Ext g env st σ H g' env st σ (upd H p (.tup vs)) ∧ SR k g' env st σ (upd H p (.tup vs)) ∧ Rep k g' (.tup xs) (.ref p) := by
  obtain ⟨gr, rp⟩ := new_tup S hp r
  exact ⟨_, Ext.grow S gr, S.grow gr, rp⟩
theorem hdl_of {mg : Str → Option Value} {Q : VK} {c : Str} {vs ts : List T} {cls : Value} {d : Option Addr} {ns fl : List Str} (Ex : ExcOk k mg) (S : SR k g env st σ H) (er : ErrOk k g H c vs cls d) (hns : k.xn c = some ns) (hf : fldsT ns vs fl = some ts)
    (q : ∀ v H' g', Ext g env st σ H g' env st σ H' → SR k g' env st σ H' → Rep k g' (.tup ts) v → Q v H') : ∀ {hs : List HdD}, (∀ h ∈ hs, (h.cs.length ≤ 1000 ∧ h.fs.length ≤ 1000) ∧ ∀ c ∈ h.cs, ∃ ns, k.xn c = some ns) → pickH hs c = some fl → hdlR k cls d H Q hs
  | [], _, e => by cases e
  | h :: hs, hk, e => by
    obtain ⟨rfl, dx, fs, rfl, hd, hx, rv⟩ := id er
    rw [hns] at hx
    cases hx
    refine ⟨h.cs.contains c, exmAny_of Ex hns (hk h List.mem_cons_self).2, fun hb => ?_, fun hb => ?_⟩
    · unfold pickH at e
      rw [if_pos hb] at e
      cases e
      obtain ⟨ws, e1, r1, m⟩ := flds_rep rv hf
      obtain ⟨T, hno⟩ := Ex.xf c _ hns
      refine ⟨_, dx, fs, ws, rfl, rfl, T, fun f hf => hno f (m f hf), hd, e1, ?_, fun p hp => ?_⟩
      · rw [looks_len e1, sizeLine_eq]
        have := (hk h List.mem_cons_self).1.2
        omega
      · obtain ⟨g', x, S', r'⟩ := new_tupN S hp r1
        exact q _ _ g' x S' r'
    · unfold pickH at e
      rw [hb, if_neg (by decide)] at e
      exact hdl_of Ex S er hns hf q (fun h' m => hk h' (List.mem_cons_of_mem _ m)) e
end
theorem tabAt_ok {st : Store} {ti : Nat} {q : Str} (h : tabAt st ti q = true) : st[ti]? = some (.tab q) := by
  unfold tabAt at h
  split at h
  · rename_i q' e
    have h : q' = q := by simpa using h
    rw [e, h]
  · cases h
section
variable {k : Gk} {c : Cfg} {X : Cx} {W : L2.WX}
/-- a lambda is made where the state's relation holds -/
theorem lam_sr {q : Str} {ti : Nat} {g : Gh} {env : En} {st : Store} {pins : List (Addr × Obj)} {σ : L2.St} {H : Hp} {s : Shared} {params : Arguments} {body : Expr} {scope : Scope} {pos : Pos} {E : Value → Shared → Prop} {Q : Value → Shared → Prop} (LA : LamAt k X q) (I : Inv X pins σ H s) (S : SR k g env st σ H) (ht : tabAt st ti q = true)
    (L : LamS X.env.scope scope) (hdef : defaultsOf params X.env = ([], []))
    (h : ∀ (f c' : Addr) (pm ctv : Value) (H1 : Hp) (s' : Shared) (g1 : Gh), Inv X ((f, PySem.W.kla_obj "<lambda>" (X.env.qual ++ "<lambda>") params body scope (cloFrom X.env.cells scope.names []) pm c' ctv) :: pins) σ H1 s' → Ext g env st σ H g1 env st σ H1 → SR k g1 env st σ H1 →
      g1.F c' = some (CodeO c' q) → f ∉ frs X.stack → Q (.ref f) s') :
    wpAny (model X.prog X.w) X.A (eval (.Lambda params body scope pos) X.env) Q E s := by
  obtain ⟨rfl, cc, hcode, TB⟩ := LA
  have e := tabAt_ok ht
  obtain ⟨ea, ps, hP, hT, ha⟩ := S.cell ti _ e
  rw [ea] at hP
  refine lam_make3 (Kn := fun c => g.F c = some (CodeO c (X.env.qual ++ "<lambda>"))) I TB hcode hP hT ha hdef (L.has I.ok) fun f c' pm ctv H1 s' I1 m hfr => ?_
  obtain ⟨g1, x1, S1, hc, _⟩ := SR.made S e hP ea m
  exact h f c' pm ctv H1 s' g1 I1 x1 S1 hc hfr
theorem sx_tried {g : Addr} {fd : FuncData} {x act n w q : Str} {hs : List HdD} {bg : List Stmt} {sg : Scope} {ti kk : Nat} {fa : EvT} {params : Arguments} {body : Expr} {scope : Scope} {lpos p pos : Pos} (C : COk k c X W) (D : TrD k X.mg g fd x act n w hs bg sg) (Ex : ExcOk k X.mg) (hg : Gl X x) (hdb : (x == ("__debug__" : Str)) = false) (hm : X.mg x = some (.ref g)) (kp : PySem.W.keepIn X.K (.ref g) = true)
    (LA : LamAt k X q) (L : LamS X.env.scope scope) (hdef : defaultsOf params X.env = ([], [])) (hbind : ∀ (cl : List (Str × Addr)) (pm cv ctv : Value), bindArgs (PySem.W.kla_fn "<lambda>" (X.env.qual ++ "<lambda>") params body scope cl pm cv ctv) ⟨[], []⟩ = pure []) (hr : Room (kk + 2) X.A)
    (hbody : ∀ (f c' : Addr) (A : Around) (outer : List Env) (s : Shared) (H : Hp) (E : XK), Room kk (A.deeper (lamEnv X scope s.heap.objs.size f c')) → PE (lamCx X A outer s H E scope f c') body (tV k (fun cls d _ H' => E cls d H') fa)) :
    PE X (.Call (.Name x p) [.Lambda params body scope lpos] [] pos) (tV k W (tryE k.xn w hs ti q fa)) := by
  refine ⟨fun pins s σ H Q I h => ?_⟩
  obtain ⟨g0, env, st, S, h⟩ := h
  unfold tryE at h
  cases ht : tabAt st ti q with
  | false => rw [ht] at h; exact h.elim
  | true =>
  rw [ht] at h
  refine wpAny_Call_Name_kw (ld_glob I hg hm ?_ hdb)
  refine PySem.W.callWith_K (h₀ := X.base) I.ok.mod.kin kp ?_ rfl rfl
  show wpAny _ _ (spliced ((false, eval (.Lambda params body scope lpos) X.env) :: backTo pos (starEach [] X.env))) _ _ s
  refine Calls.spliced_cons (lam_sr LA I S ht L hdef fun f c' pm ctv H1 s' g1 I0 x1 S1 hcF hfr => ?_)
  have I1 := ClX.unpin I0
  have hc := S1.sub _ _ hcF
  refine Calls.spliced_nil ⟨I1.kIn, ?_⟩
  have Vc := clv_of I1 L (ClX.pin_at I0) (ClX.pin_un I0) hfr (fun cv => hbind _ pm cv ctv) (hbody f c')
  rw [← LA.e] at Vc
  refine run_tried C.hK D Ex Vc hr I1 hc (Un.refl) (fun b hb => .inl hb) ?_
  cases r : fa env st with
  | bad => simp only [r, triedR] at h; exact h.elim
  | ok t st' =>
    simp only [r, triedR] at h
    refine ⟨fun _ _ _ => False, ⟨g1, env, st, S1, ?_⟩, fun cls d H' z => z.elim⟩
    rw [r]
    intro v H2 g2 x2 S2 r2
    refine ⟨Nat.le_of_ble_eq_true rfl, fun p hp => ?_⟩
    obtain ⟨g3, x3, S3, r3⟩ := new_tupN S2 hp (xs := [.str w, t]) (vs := [V.str w, v]) (RepL.cons.mpr ⟨_, _, rfl, rep_str, RepL.one r2⟩)
    exact h _ _ g3 ((x1.trans x2).trans x3) S3 r3
  | err c vs st' =>
    simp only [r, triedR] at h
    refine ⟨fun cls d H' => ∃ g', Ext g0 env st σ H g' env st' σ H' ∧ SR k g' env st' σ H' ∧ ErrOk k g' H' c vs cls d, ⟨g1, env, st, S1, ?_⟩, fun cls d H' z => ?_⟩
    · rw [r]
      exact fun cls d H' g' x2 S2 er => ⟨g', x1.trans x2, S2, er⟩
    · obtain ⟨g', x2, S2, er⟩ := z
      split at h
      · rename_i fl ns h1 h2
        split at h
        · rename_i ts h3
          exact hdl_of Ex S2 er h2 h3 (fun v H3 g3 x3 S3 r3 => h v H3 g3 (x2.trans x3) S3 r3) (fun h' m => ⟨(D.cs h' m).1, fun c m2 => ((D.cs h' m).2 c m2).1⟩) h1
        · exact h.elim
      · exact h.elim
end
/-! ### y(lambda: e, d), y: return like(x(act), due) -/
theorem isOf_ok {act due l t : Str} {body : List Stmt} (e : isOf act due body = some (l, t)) : ∃ p1 p2 p3 p4 p5 p6 p7, body = [.Return (some (.Call (.Name l p1) [.Call (.Name t p2) [.Name act p3] [] p4, .Name due p5] [] p6)) p7] := by
  unfold isOf at e
  split at e
  · split at e
    · rename_i h
      rw [Bool.and_eq_true] at h
      cases e
      exact ⟨_, _, _, _, _, _, _, by rw [beq_iff_eq.mp h.1, beq_iff_eq.mp h.2]⟩
    · cases e
  · cases e
theorem run_is {k : Gk} {Y : Cx} {gy gt gl : Addr} {fy ft fl : FuncData} {y act due l t : Str} {act' n w : Str} {hs : List HdD} {by_ bt : List Stmt} {sy st_ : Scope} {el : FnE} {j kk : Nat} {f c' : Addr} {q : Str} {tl : XK → Hp → VK → Prop} {pins : List (Addr × Obj)} {σ : L2.St} {H : Hp} {s : Shared} {d : V} {ud : Value} {Q : VK}
    (hK : Y.K = k.K) (D : IsD k Y.mg gy fy y act due l t by_ sy) (Dt : TrD k Y.mg gt ft t act' n w hs bt st_) (Ex : ExcOk k Y.mg) (ht : Y.mg t = some (.ref gt)) (kt : PySem.W.keepIn Y.K (.ref gt) = true) (hl : Y.mg l = some (.ref gl)) (kl : PySem.W.keepIn Y.K (.ref gl) = true)
    (Bl : Binds Y.K fl el.ps []) (Fl : FnOk Y.prog Y.w Y.K Y.mg Y.base (L2.CX Y.prog Y.w) j gl fl el.ps (spOf k false el.fn)) (hj : j ≤ kk + 2)
    (Vc : ClV Y.prog Y.w Y.K Y.mg Y.base (frs Y.stack) H s.heap kk f c' q tl) (hr : Room (kk + 3) Y.A) (I : Inv Y pins σ H s) (rd : RelV d ud) (hc : H c' = some (CodeO c' q))
    (h : TTr k w hs tl H (fun v H1 => ∃ u, (some (some d) : Option (Option V)) = some (some u) ∧ spOf k false el.fn [v, u] H1 Q (fun _ _ _ => False))) :
    wpAny (model Y.prog Y.w) Y.A (call (.ref gy) [.ref f, ud]) (EP Y pins σ Q) Y.xe s := by
  obtain ⟨qual, params, F⟩ := D.F
  rw [← hK] at F
  obtain ⟨oc, od, dV, kV, doc, pm, an, cdv, ct, osl, rfl, lk, hcd, _, _⟩ := F.ex
  obtain ⟨p1, p2, p3, p4, p5, p6, p7, rfl⟩ := isOf_ok D.b
  have bnd := D.bnd
  rw [← hK] at bnd
  have rc : codeAny (model Y.prog Y.w) Y.A (.call (.ref gy) ⟨[.ref f, ud], []⟩) (CR C8.CX0 Y.stack Y.prog Y.w H s Q C8.E0) s := by
    refine run_ofS (N := [act, due]) (ps := [act, due]) (us := [.ref f, ud]) (vs := [.ref f, d]) lk hcd D.S hr I.env0 (bnd s [.ref f, ud] I.kIn rfl) (.cons rfl (.cons rd .nil)) rfl fun hr' => ?_
    have frs_out : ∀ b ∈ frs (cxOf C8.CX0 Y.prog Y.w Y.K Y.mg Y.base [act, due] qual sy gy cdv Y.A Y.stack s H C8.E0).nox.stack, b ∈ frs Y.stack ∨ s.heap.get? b = none := fun b hb => by
      rcases List.mem_cons.mp (show b ∈ s.heap.objs.size :: frs Y.stack from hb) with e | e
      · rw [e]
        refine .inr ?_
        cases q : s.heap.get? s.heap.objs.size with
        | none => rfl
        | some o => exact absurd (Heap.lt_size q) (Nat.lt_irrefl _)
      · exact .inl e
    have inner : PE (cxOf C8.CX0 Y.prog Y.w Y.K Y.mg Y.base [act, due] qual sy gy cdv Y.A Y.stack s H C8.E0).nox (.Call (.Name t p2) [.Name act p3] [] p4) (fun σZ HZ Q => σZ[0]? = some (some (.ref f)) ∧ HZ c' = some (CodeO c' q) ∧ TTr k w hs tl HZ Q) := by
      refine ⟨fun pinsZ sZ σZ HZ QZ IZ hz => ?_⟩
      obtain ⟨e0, ec, eq⟩ := hz
      refine wpAny_Call_Name_kw (ld_glob IZ D.gt.1 ht ?_ D.gt.2)
      refine PySem.W.callWith_K (h₀ := Y.base) IZ.ok.mod.kin kt ?_ rfl rfl
      refine thn ((pa_cons (pv_at (X := (cxOf C8.CX0 Y.prog Y.w Y.K Y.mg Y.base [act, due] qual sy gy cdv Y.A Y.stack s H C8.E0).nox) (i := 0) (p := p3) rfl (vis_par D.S (by simp)) D.ok.1) pa_nil).run p4 pinsZ sZ σZ HZ (fun vs H1 => vs = [.ref f] ∧ H1 = HZ) IZ ⟨.ref f, e0, rfl, rfl⟩) fun us s1 ⟨vs, H1, I1, r1, e1, e2⟩ => ⟨I1.kIn, ?_⟩
      subst e1 e2
      cases r1 with
      | cons ra rb =>
        cases rb
        cases ra
        have un := (Lk.at (Z := (cxOf C8.CX0 Y.prog Y.w Y.K Y.mg Y.base [act, due] qual sy gy cdv Y.A Y.stack s H C8.E0).nox) (fr := frs Y.stack) (H0 := H) (h0 := s.heap) ⟨Un.refl, rfl, fun b hb => .inl hb⟩ I1)
        exact run_tried (Y := (cxOf C8.CX0 Y.prog Y.w Y.K Y.mg Y.base [act, due] qual sy gy cdv Y.A Y.stack s H C8.E0).nox) hK Dt Ex Vc hr' I1 ec un frs_out eq
    have outer := pe_callS (X := (cxOf C8.CX0 Y.prog Y.w Y.K Y.mg Y.base [act, due] qual sy gy cdv Y.A Y.stack s H C8.E0).nox) (E := fun _ _ _ _ => False) (x := l) (p := p1) (pos := p6) Fl (hr'.mono hj) D.gl.1 hl kl Bl (fun σ => passAt L2.takes0 σ)
      (pa_cons inner (pa_cons (pv_at (X := (cxOf C8.CX0 Y.prog Y.w Y.K Y.mg Y.base [act, due] qual sy gy cdv Y.A Y.stack s H C8.E0).nox) (i := 1) (p := p5) rfl (vis_par D.S (by simp)) D.ok.2) pa_nil)) D.gl.2 rfl rfl
    refine ⟨_, (pss_one (ps_ret outer)).nox, rfl, hc, h⟩
  refine wpAny_call (codeAny_mono rc fun r s2 hq => ?_)
  cases r with
  | error e => exact (show False from hq).elim
  | ok fl =>
    cases fl with
    | ret u => exact I.after hq
    | next => exact False.elim hq
    | brk => exact False.elim hq
    | cont => exact False.elim hq
theorem AfterF.noE {k : Gk} {g : Gh} {st : Store} {H : Hp} {Q : VK} {E : XK} {t : T} {st' : Store} (q : AfterF k false g st H Q E (.ok t st')) : AfterF k false g st H Q (fun _ _ _ => False) (.ok t st') := q
section
variable {k : Gk} {c : Cfg} {X : Cx} {W : L2.WX}
theorem sx_is {gy gt gl : Addr} {fy ft fl : FuncData} {y act due l t act' n w q : Str} {hs : List HdD} {by_ bt : List Stmt} {sy st_ : Scope} {el : FnE} {ti j kk : Nat} {fa fd : EvT} {params : Arguments} {body e2 : Expr} {scope : Scope} {lpos p pos : Pos} (C : COk k c X W)
    (D : IsD k X.mg gy fy y act due l t by_ sy) (Dt : TrD k X.mg gt ft t act' n w hs bt st_) (Ex : ExcOk k X.mg) (hg : Gl X y) (hdb : (y == ("__debug__" : Str)) = false) (hm : X.mg y = some (.ref gy)) (kp : PySem.W.keepIn X.K (.ref gy) = true)
    (ht : X.mg t = some (.ref gt)) (kt : PySem.W.keepIn X.K (.ref gt) = true) (hl : X.mg l = some (.ref gl)) (kl : PySem.W.keepIn X.K (.ref gl) = true) (Bl : Binds X.K fl el.ps []) (Fl : FnOk X.prog X.w X.K X.mg X.base (L2.CX X.prog X.w) j gl fl el.ps (spOf k false el.fn)) (hj : j ≤ kk + 2)
    (LA : LamAt k X q) (L : LamS X.env.scope scope) (hdef : defaultsOf params X.env = ([], [])) (hbind : ∀ (cl : List (Str × Addr)) (pm cv ctv : Value), bindArgs (PySem.W.kla_fn "<lambda>" (X.env.qual ++ "<lambda>") params body scope cl pm cv ctv) ⟨[], []⟩ = pure []) (hr : Room (kk + 3) X.A) (hs2 : isStar e2 = false)
    (hd : PE X e2 (tV k W fd))
    (hbody : ∀ (f c' : Addr) (A : Around) (outer : List Env) (s : Shared) (H : Hp) (E : XK), Room kk (A.deeper (lamEnv X scope s.heap.objs.size f c')) → PE (lamCx X A outer s H E scope f c') body (tV k (fun cls d _ H' => E cls d H') fa)) :
    PE X (.Call (.Name y p) [.Lambda params body scope lpos, e2] [] pos) (tV k W (isE k.xn w hs ti q fa el.fn fd)) := by
  refine ⟨fun pins s σ H Q I h => ?_⟩
  obtain ⟨g0, env, st, S, h⟩ := h
  unfold isE at h
  cases htb : tabAt st ti q with
  | false => rw [htb] at h; exact h.elim
  | true =>
  rw [htb] at h
  refine wpAny_Call_Name_kw (ld_glob I hg hm ?_ hdb)
  refine PySem.W.callWith_K (h₀ := X.base) I.ok.mod.kin kp ?_ rfl (by rw [star_eq' hs2]; rfl)
  show wpAny _ _ (spliced ((false, eval (.Lambda params body scope lpos) X.env) :: backTo pos (starEach [e2] X.env))) _ _ s
  refine Calls.spliced_cons (lam_sr LA I S htb L hdef fun f c' pm ctv H1 s' g1 I0 x1 S1 hcF hfr => ?_)
  have h1 := After.bind (R1 := rV k) m0V (After.shift m0V x1 h)
  refine thn ((pa_cons hd pa_nil (star_eq' hs2)).run pos _ s' σ H1 (fun vs H2 => ∃ v a st2 g2, vs = [v] ∧ Ext g1 env st σ H1 g2 env st2 σ H2 ∧ SR k g2 env st2 σ H2 ∧ Rep k g2 a v ∧ After k W (rV k) σ env g2 st2 H2 Q ((fun d env st => match triedR k.xn w hs (fa env st) with
    | .ok t st1 => (match el.fn [t, d] st1 with
      | .ok u st2 => .ok u st2
      | _ => .bad)
    | _ => .bad) a env st2)) I0 ⟨g1, env, st, S1, h1.imp fun v H2 ⟨a, st2, g2, x2, S2, r2, q2⟩ => ⟨v, a, st2, g2, rfl, x2, S2, r2, q2⟩⟩) fun us s2 ⟨vs, H2, I2, rv, v, a, st2, g2, ev, x2, S2, r2, q2⟩ => ?_
  subst ev
  cases rv with
  | cons ra rb =>
    cases rb
    rename_i ud
    have I3 := ClX.unpin I2
    have hc := S2.sub _ _ (x2.le.f _ _ hcF)
    have Vc := clv_of I3 L (ClX.pin_at I2) (ClX.pin_un I2) hfr (fun cv => hbind _ pm cv ctv) (hbody f c')
    rw [← LA.e] at Vc
    refine ⟨I2.kIn, run_is (el := el) C.hK D Dt Ex ht kt hl kl Bl Fl hj Vc hr I3 ra hc ?_⟩
    simp only at q2
    cases r : fa env st2 with
    | bad => rw [r] at q2; exact q2.elim
    | ok t st' =>
      simp only [r, triedR] at q2
      refine ⟨fun _ _ _ => False, ⟨g2, env, st2, S2, ?_⟩, fun cls d H' z => z.elim⟩
      rw [r]
      intro v3 H3 g3 x3 S3 r3
      refine ⟨Nat.le_of_ble_eq_true rfl, fun p hp => ⟨_, rfl, ?_⟩⟩
      obtain ⟨g4, x4, S4, r4⟩ := new_tupN S3 hp (xs := [.str w, t]) (vs := [V.str w, v3]) (RepL.cons.mpr ⟨_, _, rfl, rep_str, RepL.one r3⟩)
      have x24 := x3.trans x4
      refine ⟨g4, st', [.tup [.str w, t], a], S4.bare, RepL.cons.mpr ⟨_, _, rfl, r4, RepL.one (Rep.mono x24.le _ _ r2)⟩, ?_⟩
      cases rl : el.fn [.tup [.str w, t], a] st' with
      | ok u st5 =>
        rw [rl] at q2
        exact AfterF.noE (After.toF (fr := false) S4 (After.shift m0V x24 q2))
      | err c vs st5 => rw [rl] at q2; exact q2.elim
      | bad => rw [rl] at q2; exact q2.elim
    | err c vs st' =>
      simp only [r, triedR] at q2
      refine ⟨fun cls d H' => ∃ g', Ext g2 env st2 σ H2 g' env st' σ H' ∧ SR k g' env st' σ H' ∧ ErrOk k g' H' c vs cls d, ⟨g2, env, st2, S2, ?_⟩, fun cls d H' z => ?_⟩
      · rw [r]
        exact fun cls d H' g' x3 S3 er => ⟨g', x3, S3, er⟩
      · obtain ⟨g', x3, S3, er⟩ := z
        split at q2
        · rename_i t st1 he
          split at he
          · rename_i fl ns h1 h2
            split at he
            · rename_i ts h3
              cases he
              refine hdl_of Ex S3 er h2 h3 (fun v4 H4 g4 x4 S4 r4 => ⟨_, rfl, ?_⟩) (fun h' m => ⟨(Dt.cs h' m).1, fun c m2 => ((Dt.cs h' m).2 c m2).1⟩) h1
              have x24 := x3.trans x4
              refine ⟨g4, st', [.tup ts, a], S4.bare, RepL.cons.mpr ⟨_, _, rfl, r4, RepL.one (Rep.mono x24.le _ _ r2)⟩, ?_⟩
              cases rl : el.fn [.tup ts, a] st' with
              | ok u st5 =>
                rw [rl] at q2
                exact AfterF.noE (After.toF (fr := false) S4 (After.shift m0V x24 q2))
              | err c vs st5 => rw [rl] at q2; exact q2.elim
              | bad => rw [rl] at q2; exact q2.elim
            · cases he
          · cases he
        · exact q2.elim
end
end Mp


set_option Elab.async false
set_option linter.all false
set_option maxRecDepth 100000
set_option maxHeartbeats 2000000
/-! Snd2: the soundness of expressions, by induction. -/
namespace Mp
open PySem PySem.Spec PyProof.Rows L2
section
variable {k : Gk} {c : Cfg} {X : Cx} {W : L2.WX}
/-! ### a comprehension's block -/
theorem blkOk_of (C : COk k c X W) {scope : Scope} (h : blkB c.N c.sc scope = true) : BlkOk X.N X.env.scope scope (ownOf c.N scope.names) := by
  have q := blkOk_by (N := c.N) (sc := { scope with names := c.sc }) (scope := scope) (own := ownOf c.N scope.names) h
  rw [C.hN]
  exact ⟨q.kind, q.uniq, q.ix, fun y hy e => by rw [C.sc]; exact q.free y hy e, q.own⟩
theorem own_mem {N : List Str} : ∀ {names : List (Str × NameKind)} {x : Str}, x ∈ (ownOf N names).map (·.1) → (x, .local) ∈ names ∨ (x, .cell) ∈ names
  | [], x, h => by simp [ownOf] at h
  | (n, kd) :: r, x, h => by
    unfold ownOf at h
    split at h
    · rw [List.map_cons, List.mem_cons] at h
      rcases h with h | h
      · left; rw [h]; exact List.mem_cons_self
      · rcases own_mem h with h | h
        · exact .inl (List.mem_cons_of_mem _ h)
        · exact .inr (List.mem_cons_of_mem _ h)
    · rw [List.map_cons, List.mem_cons] at h
      rcases h with h | h
      · right; rw [h]; exact List.mem_cons_self
      · rcases own_mem h with h | h
        · exact .inl (List.mem_cons_of_mem _ h)
        · exact .inr (List.mem_cons_of_mem _ h)
    · rcases own_mem h with h | h
      · exact .inl (List.mem_cons_of_mem _ h)
      · exact .inr (List.mem_cons_of_mem _ h)
theorem own_slot {N : List Str} : ∀ {names : List (Str × NameKind)} {x : Str} {i : Nat}, x ∈ (ownOf N names).map (·.1) → ixS x N = some i → i ∈ (ownOf N names).map (·.2)
  | [], x, i, h, _ => by simp [ownOf] at h
  | (n, kd) :: r, x, i, h, e => by
    unfold ownOf at h ⊢
    split at h
    · rename_i j h1
      rw [List.map_cons, List.mem_cons] at h
      rw [List.map_cons, List.mem_cons]
      rcases h with h | h
      · left; have h : x = n := h; subst h; rw [h1] at e; cases e; rfl
      · exact .inr (own_slot h e)
    · rename_i j h1
      rw [List.map_cons, List.mem_cons] at h
      rw [List.map_cons, List.mem_cons]
      rcases h with h | h
      · left; have h : x = n := h; subst h; rw [h1] at e; cases e; rfl
      · exact .inr (own_slot h e)
    · exact own_slot h e
theorem contains_mem {x : Str} {l : List Str} (h : l.contains x = true) : x ∈ l := by simpa using h
theorem blk_COk (C : COk k c X W) {scope : Scope} (h : blkB c.N c.sc scope = true) (s : Shared) (H : Hp) (A : Addr) (cl : List (Str × Addr)) (fp : List Addr) : COk k (c.blk scope) (X.blk s H scope (compEnvC scope cl A X.env) fp) WF := by
  have q := blkOk_of C h
  have hn : (compEnvC scope cl A X.env).scope.names = relN scope c.sc := by
    show (scope.names.map fun (n, kd) => if (kd == NameKind.free && X.env.scope.kind == ScopeKind.function && X.env.scope.names.lookup n == some NameKind.cell) then (n, NameKind.cell) else (n, kd)) = _
    unfold relN
    congr 1
    funext p
    rw [C.kd, C.sc]
    simp
  refine ⟨C.hK, C.hN, C.nd, C.nm, q.kind, hn, C.calm, L2.takes0, PassesOwn.never, C.room, C.un, fun x h1 h2 => ?_, C.G, fun ti q h => by cases h⟩
  have hm : x ∈ (ownOf c.N scope.names).map (·.1) := contains_mem h1
  show (scope.names.lookup x == some .cell) = true
  rcases own_mem hm with h3 | h3
  · have e := q.uniq _ h3
    have e2 : (relN scope c.sc).lookup x = some .local := by
      rw [← hn]
      exact lookup_relS_keep (sc := X.env.scope) (fun z => by cases z) e
    have h2 : (relN scope c.sc).lookup x = some .cell := h2
    rw [e2] at h2
    cases h2
  · have e := q.uniq _ h3
    simp at e
    rw [e]
    rfl
theorem blk_in (C : COk k c X W) {scope : Scope} : ∀ x i, (c.blk scope).setSlot x = some i → i ∈ (ownOf c.N scope.names).map (·.2) := fun x i h => by
  unfold Cfg.setSlot at h
  have hset : ∀ {x : Str}, (c.blk scope).set.contains x = true → x ∈ (ownOf c.N scope.names).map (·.1) := fun h => contains_mem h
  split at h
  · split at h
    · cases h
      exact own_slot (hset (by assumption)) (by assumption)
    · cases h
  · split at h
    · cases h
      exact own_slot (hset (by assumption)) (by assumption)
    · cases h
  · cases h

/-! ### what the induction tells -/
/-- a test that the model makes by the value -/
def byVal : Expr → Bool
  | .BoolOp _ _ _ => false
  | .UnaryOp .Not _ _ => false
  | .IfExp _ _ _ _ => false
  | _ => true
structure Snd (k : Gk) (n : Nat) : Prop where
  E : ∀ {c : Cfg} {X : Cx} {W : L2.WX}, COk k c X W → ∀ e, PE X e (tV k W (dE c n e))
  F : ∀ {c : Cfg} {X : Cx} {W : L2.WX}, COk k c X W → ∀ e, freshX c e = true → PE X e (tF k W (dE c n e))
  L : ∀ {c : Cfg} {X : Cx} {W : L2.WX}, COk k c X W → ∀ elt gs scope pos, PE X (.ListComp elt gs scope pos) (tF k W (dLc c n elt gs scope)) ∧
    ∀ (x : Str) (px spos : Pos) (i : Nat), c.setSlot x = some i → PS X (.Assign [.Name x px] (.ListComp elt gs scope pos) spos) (tAsg (tF k W (dLc c n elt gs scope)) (gName i))
  P : ∀ {c : Cfg} {X : Cx} {W : L2.WX}, COk k c X W → ∀ e, byVal e = true → PT X e (tTest (tV k W (dE c n e)))
  B : ∀ {c : Cfg} {X : Cx} {W : L2.WX}, COk k c X W → ∀ e, PE X e (tS k W (dB c n e))
  Es : ∀ {c : Cfg} {X : Cx} {W : L2.WX}, COk k c X W → ∀ es, PA X es (tL k W (dEs c n es))
  O : ∀ {c : Cfg} {X : Cx} {W : L2.WX}, COk k c X W → ∀ o, PO X o (tR k W rP (dO c n o))
  Bl : ∀ {c : Cfg} {X : Cx} {W : L2.WX}, COk k c X W → ∀ op es pos, PE X (.BoolOp op es pos) (tV k W (dBool c n op es))
  Te : ∀ {c : Cfg} {X : Cx} {W : L2.WX}, COk k c X W → ∀ e, PT X e (tT k W (dT c n e))
  Ts : ∀ {c : Cfg} {X : Cx} {W : L2.WX}, COk k c X W → ∀ op es pos, PW X (.BoolOp op es pos) (tT k W (dTs c n op es))
  I : ∀ {c : Cfg} {X : Cx} {W : L2.WX}, COk k c X W → ∀ tg e, PI X tg e (tI k W (dI c n tg e))
  Ca : ∀ {c : Cfg} {X : Cx} {W : L2.WX}, COk k c X W → ∀ f args pos, PE X (.Call f args [] pos) (tV k W (dC c n f args)) ∧ (freshX c (.Call f args [] pos) = true → PE X (.Call f args [] pos) (tF k W (dC c n f args)))
  Ks : ∀ {c : Cfg} {X : Cx} {W : L2.WX}, COk k c X W → ∀ kws : List Keyword, PK X kws (tL k W (dEs c n (kws.map kwVal)))
  Cl : ∀ {c : Cfg} {X : Cx} {W : L2.WX}, COk k c X W → ∀ f args kws pos, PE X (.Call f args kws pos) (tV k W (dCall c n f args kws pos)) ∧ (freshX c (.Call f args kws pos) = true → PE X (.Call f args kws pos) (tF k W (dCall c n f args kws pos)))
  B1 : ∀ {c : Cfg} {X : Cx} {W : L2.WX}, COk k c X W → ∀ f p a pos, c.blt f = true → isStar a = false → PE X (.Call (.Name f p) [a] [] pos) (tV k W (dBlt1 c n f a)) ∧ (f = ("list" : Str) ∨ f = ("sorted" : Str) → PE X (.Call (.Name f p) [a] [] pos) (tF k W (dBlt1 c n f a)))
/-! ### nothing told -/
theorem tR_bad {α β : Type} {R : Rdg α β} {σ : L2.St} {H : Hp} {Q : β → Hp → Prop} (q : tR k W R Ev.bad σ H Q) : False := by
  obtain ⟨g, env, st, S, q⟩ := q
  exact q
theorem peb {e : Expr} {R : Rdg T V} : PE X e (tR k W R Ev.bad) := ⟨fun _ _ _ _ _ _ q => (tR_bad q).elim⟩
theorem ptb {e : Expr} : PT X e (tT k W Ev.bad) := ⟨fun _ _ _ _ _ _ q => (tR_bad q).elim⟩
theorem pwb {e : Expr} : PW X e (tT k W Ev.bad) := ⟨fun _ _ _ _ _ _ _ q => (tR_bad q).elim⟩
theorem pib {tg e : Expr} : PI X tg e (tI k W Ev.bad) := ⟨fun _ _ _ _ _ _ q => (tR_bad q).elim⟩
theorem pob {e : Option Expr} : PO X e (tR k W rP Ev.bad) := ⟨fun _ _ _ _ _ _ q => (tR_bad q).elim⟩
theorem pab {es : List Expr} {fs : List EvT} : PA X es (tL k W (Ev.bad :: fs)) := ⟨fun _ _ _ _ _ _ _ q => by obtain ⟨g, env, st, S, q⟩ := q; exact q.elim⟩
theorem pkb {kws : List Keyword} {fs : List EvT} : PK X kws (tL k W (Ev.bad :: fs)) := ⟨fun _ _ _ _ _ _ _ q => by obtain ⟨g, env, st, S, q⟩ := q; exact q.elim⟩
theorem ptt {e : Expr} : PT X e (tTest (tV k W Ev.bad)) := ⟨fun _ _ _ _ _ _ q => (tR_bad q).elim⟩
theorem psb {s : Stmt} {g : TG} {R : Rdg T V} : PS X s (tAsg (tR k W R Ev.bad) g) := ⟨fun _ _ _ _ _ _ q => (tR_bad q).elim⟩
theorem star_eq {e : Expr} {es : List Expr} {env : Env} (h : isStar e = false) : starEach (e :: es) env = (false, eval e env) :: starEach es env := by
  cases e <;> first | rfl | (cases h; done)
theorem snd0 : Snd k 0 where
  E := fun C e => peb
  F := fun C e h => peb
  L := fun C elt gs scope pos => ⟨peb, fun _ _ _ _ _ => psb⟩
  P := fun C e h => ptt
  B := fun C e => Mp.PE.toS peb
  Es := fun C es => pab
  O := fun C o => pob
  Bl := fun C op es pos => peb
  Te := fun C e => ptb
  Ts := fun C op es pos => pwb
  I := fun C tg e => pib
  Ca := fun C f args pos => ⟨peb, fun _ => peb⟩
  Ks := fun C kws => pkb
  Cl := fun C f args kws pos => ⟨peb, fun _ => peb⟩
  B1 := fun C f p a pos h1 h2 => ⟨peb, fun _ => peb⟩
variable {n : Nat}
theorem s_Es (S : Snd k n) (C : COk k c X W) (es : List Expr) : PA X es (tL k W (dEs c (n + 1) es)) := by
  cases es with
  | nil => unfold dEs; exact sx_nil pa_nil
  | cons e es =>
    unfold dEs
    by_cases hs : isStar e = true
    · cases e <;> first | (cases hs; done) | skip
      cases n with
      | zero => exact pab
      | succ n => unfold dE; exact pab
    · have hs : isStar e = false := by simpa using hs
      exact sx_cons (pa_cons (S.E C e) (S.Es C es) (star_eq hs))
theorem PK.imp {X : Cx} {kws : List Keyword} {t t' : TA} (h : PK X kws t) (i : ∀ σ H Q, t' σ H Q → t σ H Q) : PK X kws t' := ⟨fun pos pins s σ H Q I q => h.run pos pins s σ H Q I (i σ H Q q)⟩
theorem s_Ks (S : Snd k n) (C : COk k c X W) (kws : List Keyword) : PK X kws (tL k W (dEs c (n + 1) (kws.map kwVal))) := by
  cases kws with
  | nil => exact Mp.PK.imp pk_nil fun σ H Q ⟨g, env, st, S, q⟩ => q [] H g Ext.refl S (RepL.nil.mpr rfl)
  | cons a r =>
    obtain ⟨nm, e, p⟩ := a
    show PK X _ (tL k W (dE c n e :: dEs c n (r.map kwVal)))
    exact Mp.PK.imp (pk_cons (S.E C e) (S.Ks C r)) fun σ H Q q => rd_cons q
/-- the keywords' names -/
theorem kw_names {env : Env} {pos : Pos} : ∀ kws : List Keyword, (backToKw pos (keywordEach kws env)).filterMap (·.1) = kws.filterMap kwName ∧ ((kws.all fun k => (kwName k).isSome) = true → (backToKw pos (keywordEach kws env)).all (·.1.isSome) = true ∧ (backToKw pos (keywordEach kws env)).any (·.1.isNone) = false)
  | [] => ⟨rfl, fun _ => ⟨rfl, rfl⟩⟩
  | ⟨nm, e, p⟩ :: r => by
    obtain ⟨h1, h2⟩ := kw_names (env := env) (pos := pos) r
    refine ⟨?_, fun h => ?_⟩
    · show ((nm, _) :: backToKw pos (keywordEach r env)).filterMap (·.1) = _
      rw [List.filterMap_cons, List.filterMap_cons, h1]
      rfl
    · rw [List.all_cons, Bool.and_eq_true] at h
      obtain ⟨h3, h4⟩ := h2 h.2
      refine ⟨?_, ?_⟩
      · show (nm.isSome && _) = true
        rw [Bool.and_eq_true]
        exact ⟨h.1, h3⟩
      · show (nm.isNone || _) = false
        have : nm.isNone = false := by
          have h0 : nm.isSome = true := h.1
          cases nm <;> simp_all
        rw [this, Bool.false_or]
        exact h4
theorem kw_len : ∀ kws : List Keyword, (kws.all fun k => (kwName k).isSome) = true → kws.length = (kws.filterMap kwName).length
  | [], _ => rfl
  | a :: r, h => by
    rw [List.all_cons, Bool.and_eq_true] at h
    cases hn : kwName a with
    | none => rw [hn] at h; cases h.1
    | some x => rw [List.filterMap_cons, hn, List.length_cons, List.length_cons, ← kw_len r h.2]
theorem dEs_ok : ∀ (n : Nat) (es : List Expr) (env : En) (st st' : Store) (ts : List T), evL (dEs c n es) env st = .ok ts st' → ts.length = es.length
  | 0, es, env, st, st', ts, h => by unfold dEs at h; cases h
  | n + 1, [], env, st, st', ts, h => by unfold dEs at h; cases h; rfl
  | n + 1, e :: es, env, st, st', ts, h => by
    unfold dEs at h
    have h : ((dE c n e).bind fun x => (evL (dEs c n es)).bind fun xs => Ev.pure (x :: xs)) env st = .ok ts st' := h
    cases e1 : dE c n e env st with
    | bad => simp only [Ev.bind, e1] at h; cases h
    | err d vs s1 => simp only [Ev.bind, e1] at h; cases h
    | ok a s1 =>
      cases e2 : evL (dEs c n es) env s1 with
      | bad => simp only [Ev.bind, e1, e2] at h; cases h
      | err d vs s1 => simp only [Ev.bind, e1, e2] at h; cases h
      | ok b s2 =>
        simp only [Ev.bind, e1, e2, Ev.pure] at h
        cases h
        simp [dEs_ok n es _ _ _ _ e2]
theorem p_var (C : COk k c X W) {x : Str} {i : Nat} {p : Pos} (h : c.slot x = some i) : PE X (.Name x p) (tVar i) := by
  obtain ⟨h1, h2⟩ := slot_of C h
  obtain ⟨h3, h4⟩ := name_of C h1
  exact pe_var h1 h2 h3 h4
theorem s_B (S : Snd k n) (C : COk k c X W) (e : Expr) : PE X e (tS k W (dB c (n + 1) e)) := by
  unfold dB
  split
  · rename_i x p
    cases h : c.slot x with
    | none => exact Mp.PE.toS (S.E C _)
    | some i =>
      simp only
      split
      · exact sx_peek (p_var C h)
      · exact Mp.PE.toS (sx_var (p_var C h))
  · exact Mp.PE.toS (S.E C _)
theorem s_O (S : Snd k n) (C : COk k c X W) (o : Option Expr) : PO X o (tR k W rP (dO c (n + 1) o)) := by
  cases o with
  | none => unfold dO; exact sx_none po_none
  | some e => unfold dO; exact sx_part (po_some (S.E C e))
theorem s_Bl (S : Snd k n) (C : COk k c X W) (op : BoolOp) (es : List Expr) (pos : Pos) : PE X (.BoolOp op es pos) (tV k W (dBool c (n + 1) op es)) := by
  cases es with
  | nil => cases op <;> (unfold dBool; exact peb)
  | cons e es =>
    cases es with
    | nil => cases op <;> (unfold dBool; exact pe_one (S.E C e))
    | cons e2 es =>
      cases op with
      | And => unfold dBool; exact sx_andV (pe_and (S.E C e) (S.Bl C .And (e2 :: es) pos))
      | Or => unfold dBool; exact sx_orV (pe_or (S.E C e) (S.Bl C .Or (e2 :: es) pos))
theorem s_Ts (S : Snd k n) (C : COk k c X W) (op : BoolOp) (es : List Expr) (pos : Pos) : PW X (.BoolOp op es pos) (tT k W (dTs c (n + 1) op es)) := by
  cases es with
  | nil => cases op <;> (unfold dTs; exact pwb)
  | cons e es =>
    cases es with
    | nil => cases op with
      | And => unfold dTs; exact pw_and1 (S.Te C e)
      | Or => unfold dTs; exact pw_or1 (S.Te C e)
    | cons e2 es =>
      cases op with
      | And => unfold dTs; exact sx_andB (pw_and (S.Te C e) (S.Ts C .And (e2 :: es) pos))
      | Or => unfold dTs; exact sx_orB (pw_or (S.Te C e) (S.Ts C .Or (e2 :: es) pos))
theorem pt_ifE {X : Cx} {t a b : Expr} {pos : Pos} {tt ta tb : TT} (h1 : PT X t tt) (h2 : PT X a ta) (h3 : PT X b tb) : PT X (.IfExp t a b pos) (fun σ H Q => tt σ H fun c H1 => if c = true then ta σ H1 Q else tb σ H1 Q) := by
  refine ⟨fun pins s σ H Q I h => ?_⟩
  rw [arm_isTrue_IfExp]
  refine wpAny_bind (thn (h1.run pins s σ H _ I h) fun c s1 hc => ?_)
  obtain ⟨H1, I1, q⟩ := hc
  cases c with
  | true =>
    rw [if_pos rfl] at q ⊢
    exact h2.run pins s1 σ H1 Q I1 q
  | false =>
    rw [if_neg (by decide)] at q ⊢
    exact h3.run pins s1 σ H1 Q I1 q
theorem sx_iteT {e : Expr} {c f h' : EvB} (h : PT X e (fun σ H Q => (tT k W c) σ H fun b H1 => if b = true then (tT k W f) σ H1 Q else (tT k W h') σ H1 Q)) : PT X e (tT k W (c.bind (pick f h'))) := by
  refine Mp.PT.imp h fun σ H Q ⟨g, env, st, S, q⟩ => ⟨g, env, st, S, (q.bind (R1 := rT) m0T).imp fun v H1 ⟨x, st1, g1, x1, S1, r1, q1⟩ => ?_⟩
  obtain rfl : x = v := r1
  exact After.pick S1 q1
theorem s_Te (S : Snd k n) (C : COk k c X W) (e : Expr) : PT X e (tT k W (dT c (n + 1) e)) := by
  unfold dT
  split
  · exact (S.Ts C _ _ _).pt
  · exact sx_notT (pt_not (S.Te C _))
  · exact sx_iteT (pt_ifE (S.Te C _) (S.Te C _) (S.Te C _))
  · rename_i h1 h2 h3
    refine sx_testV (S.P C e ?_)
    cases e with
    | BoolOp a b c => exact absurd rfl (h1 a b c)
    | UnaryOp op a p => cases op with
      | Not => exact absurd rfl (h2 a p)
      | _ => rfl
    | IfExp a b c d => exact absurd rfl (h3 a b c d)
    | _ => rfl
/-- the iterables' and the calls' fuel -/
theorem s_I (S : Snd k n) (C : COk k c X W) (tg e : Expr) : PI X tg e (tI k W (dI c (n + 1) tg e)) := by
  have seq : ∀ e, PI X tg e (tI k W (itSeq (dE c n e))) := fun e => sx_itSeq (by rw [← C.hK]; exact pi_seq (S.E C e))
  unfold dI
  split
  · rename_i f p args q
    split
    · rename_i h
      rw [Bool.and_eq_true] at h
      obtain ⟨h1, h2⟩ := h
      have ef : f = ("range" : Str) := by simpa using h2
      subst ef
      obtain ⟨g1, g2, _⟩ := blt_of C h1
      split
      · rename_i a
        by_cases hs : isStar a = true
        · cases a <;> first | (cases hs; done) | skip
          cases n with
          | zero => exact ⟨fun _ _ _ _ _ _ q => by obtain ⟨g, env, st, S, q⟩ := q; exact q.elim⟩
          | succ n => unfold dE; exact ⟨fun _ _ _ _ _ _ q => by obtain ⟨g, env, st, S, q⟩ := q; exact q.elim⟩
        · have hs : isStar a = false := by simpa using hs
          exact sx_itRng1 (pi_range1 g1 g2 (pa_cons (S.E C a) pa_nil (star_eq hs)) (star_eq hs))
      · rename_i a b
        split
        · exact pib
        · rename_i h
          have hs : isStar a = false := by cases e : isStar a <;> simp_all
          have hs2 : isStar b = false := by cases e : isStar b <;> simp_all
          exact sx_itRng2 (pi_range2 g1 g2 (pa_cons (S.E C a) (pa_cons (S.E C b) pa_nil (star_eq hs2)) (star_eq hs)) (by rw [star_eq hs, star_eq hs2]; rfl) (star_eq hs2))
      · exact pib
    · split
      · rename_i h
        rw [Bool.and_eq_true] at h
        obtain ⟨h1, h2⟩ := h
        have ef : f = ("enumerate" : Str) := by simpa using h2
        subst ef
        obtain ⟨g1, g2, _⟩ := blt_of C h1
        split
        · rename_i a
          split
          · rename_i hh
            rw [Bool.and_eq_true] at hh
            have hs : isStar a = false := by simpa using hh.2
            cases tg <;> first | (cases hh.1; done) | skip
            exact sx_itEnu (by rw [← C.hK]; exact pi_enu g1 g2 (pa_cons (S.E C a) pa_nil (star_eq hs)) (star_eq hs))
          · exact pib
        · exact pib
      · exact seq _
  · split
    · exact seq _
    · exact pib
/-! ### built-ins of one argument -/
theorem hpl0 {pos : Pos} {env : Env} : (backTo pos (starEach [] env)).any (·.1) = false := rfl
theorem s_B2 (S : Snd k n) (C : COk k c X W) (f : Str) (p : Pos) (a : Expr) (pos : Pos) (hb : c.blt f = true) (hs : isStar a = false) :
    PE X (.Call (.Name f p) [a] [] pos) (tV k W (dBlt2 f (dB c n a))) ∧ (f = ("list" : Str) ∨ f = ("sorted" : Str) → f ≠ ("list" : Str) → PE X (.Call (.Name f p) [a] [] pos) (tF k W (dBlt2 f (dB c n a)))) := by
  obtain ⟨g1, g2, _⟩ := blt_of C hb
  have ha : PA X [a] (tCons (tB k W (dB c n a)) tNil) := pa_cons (Mp.PE.toB (S.B C a)) pa_nil (star_eq hs)
  unfold dBlt2
  split
  · rename_i h
    have ef : f = ("sum" : Str) := by simpa using h
    subst ef
    refine ⟨sx_ev1S m0V post_V (OpOk1.v ok_sum) (Mp.PE.imp (pe_callB (cr_sum C.calm) g1 g2 boot_sum ha (by decide) (by decide) (star_eq hs) hpl0) fun σ H Q q => ?_), fun e _ => by rcases e with e | e <;> cases e⟩
    rw [C.hK]
    exact q
  · split
    · rename_i h
      have ef : f = ("max" : Str) := by simpa using h
      subst ef
      refine ⟨sx_ev1S m0V post_V (OpOk1.v ok_max1) (Mp.PE.imp (pe_callB (cr_max C.calm) g1 g2 boot_max ha (by decide) (by decide) (star_eq hs) hpl0) fun σ H Q q => ?_), fun e _ => by rcases e with e | e <;> cases e⟩
      rw [C.hK]
      exact q
    · split
      · rename_i h
        have ef : f = ("min" : Str) := by simpa using h
        subst ef
        refine ⟨sx_ev1S m0V post_V (OpOk1.v ok_min1) (Mp.PE.imp (pe_callB (cr_min C.calm) g1 g2 boot_min ha (by decide) (by decide) (star_eq hs) hpl0) fun σ H Q q => ?_), fun e _ => by rcases e with e | e <;> cases e⟩
        rw [C.hK]
        exact q
      · split
        · rename_i h
          have ef : f = ("sorted" : Str) := by simpa using h
          subst ef
          have base : PE X (.Call (.Name "sorted" p) [a] [] pos) (fun σ H Q => tB k W (dB c n a) σ H fun x H1 => rSortedI k.K [x] H1 Q) := by
            refine Mp.PE.imp (pe_callB cr_sortedI g1 g2 boot_sorted ha (by decide) (by decide) (star_eq hs) hpl0) fun σ H Q q => ?_
            rw [C.hK]
            exact q
          exact ⟨sx_ev1S m0V post_V (OpOk1.v ok_sort) base, fun _ _ => sx_ev1S m0F post_F ok_sort base⟩
        · split
          · rename_i h
            have ef : f = ("int" : Str) := by simpa using h
            subst ef
            exact ⟨sx_ev1S (op := fun _ => intT) m0V post_V (OpOk1.v ok_int) (Mp.PE.imp (pe_callTy call_int1 g1 g2 boot_int ha (by decide) (by decide) (star_eq hs) hpl0) fun σ H Q q => q), fun e _ => by rcases e with e | e <;> cases e⟩
          · split
            · rename_i h
              have ef : f = ("str" : Str) := by simpa using h
              subst ef
              exact ⟨sx_ev1S (op := fun _ => strT) m0V post_V (OpOk1.v ok_str) (Mp.PE.imp (pe_callTy (call_str_int.or SkE.call_str_str) g1 g2 boot_str ha (by decide) (by decide) (star_eq hs) hpl0) fun σ H Q q => q), fun e _ => by rcases e with e | e <;> cases e⟩
            · split
              · rename_i h
                have ef : f = ("dict" : Str) := by simpa using h
                subst ef
                refine ⟨sx_ev1S (op := fun _ => dictT) m0V post_V (OpOk1.v ok_dict) (Mp.PE.imp (pe_callTy (call_dictP C.calm) g1 g2 PyProof.Rows.boot_dict ha (by decide) (by decide) (star_eq hs) hpl0) fun σ H Q q => ?_), fun e _ => by rcases e with e | e <;> cases e⟩
                rw [C.hK]
                exact q
              · exact ⟨peb, fun _ _ => peb⟩
theorem s_B1 (S : Snd k n) (C : COk k c X W) (f : Str) (p : Pos) (a : Expr) (pos : Pos) (hb : c.blt f = true) (hs : isStar a = false) :
    PE X (.Call (.Name f p) [a] [] pos) (tV k W (dBlt1 c (n + 1) f a)) ∧ (f = ("list" : Str) ∨ f = ("sorted" : Str) → PE X (.Call (.Name f p) [a] [] pos) (tF k W (dBlt1 c (n + 1) f a))) := by
  obtain ⟨g1, g2, _⟩ := blt_of C hb
  have ha : PA X [a] (tCons (tB k W (dB c n a)) tNil) := pa_cons (Mp.PE.toB (S.B C a)) pa_nil (star_eq hs)
  unfold dBlt1
  split
  · rename_i h
    have ef : f = ("len" : Str) := by simpa using h
    subst ef
    refine ⟨sx_ev1S m0V post_V (OpOk1.v ok_len) (Mp.PE.imp (pe_callB (call_len_seq.or call_len_str) g1 g2 boot_len ha (by decide) (by decide) (star_eq hs) hpl0) fun σ H Q q => ?_), fun e => by rcases e with e | e <;> cases e⟩
    obtain ⟨g, env, st, S', q⟩ := q
    refine ⟨g, env, st, S', q.imp fun v H1 q1 => ?_⟩
    rcases q1 with ⟨p, ys, rfl, h1, q1⟩ | ⟨z, rfl, h1, q1⟩
    · exact .inl ⟨p, ys, rfl, by rw [C.hK]; exact h1, q1⟩
    · exact .inr ⟨z, rfl, h1, q1⟩
  · split
    · rename_i h
      have ef : f = ("tuple" : Str) := by simpa using h
      subst ef
      refine ⟨sx_ev1S m0V post_V (OpOk1.v ok_tuple) (Mp.PE.imp (pe_callTy call_tuple_of g1 g2 boot_tuple ha (by decide) (by decide) (star_eq hs) hpl0) fun σ H Q q => ?_), fun e => by rcases e with e | e <;> cases e⟩
      obtain ⟨g, env, st, S', q⟩ := q
      refine ⟨g, env, st, S', q.imp fun v H1 q1 => ?_⟩
      obtain ⟨p, ys, rfl, h1⟩ := q1
      exact ⟨p, ys, rfl, by rw [C.hK]; exact h1⟩
    · split
      · rename_i h
        have ef : f = ("list" : Str) := by simpa using h
        subst ef
        have base : PE X (.Call (.Name "list" p) [a] [] pos) (fun σ H Q => tB k W (dB c n a) σ H fun x H1 => ∃ p ys, x = .ref p ∧ (SqL k.K H1 p ys ∨ SqT k.K H1 p ys) ∧ ∀ l, H1 l = none → Q (.ref l) (upd H1 l (.lst ys))) := by
          refine Mp.PE.imp (pe_callTy call_list_of g1 g2 boot_list ha (by decide) (by decide) (star_eq hs) hpl0) fun σ H Q q => ?_
          obtain ⟨g, env, st, S', q⟩ := q
          refine ⟨g, env, st, S', q.imp fun v H1 q1 => ?_⟩
          obtain ⟨p, ys, rfl, h1⟩ := q1
          exact ⟨p, ys, rfl, by rw [C.hK]; exact h1⟩
        exact ⟨sx_ev1S m0V post_V (OpOk1.v ok_list) base, fun _ => sx_ev1S m0F post_F ok_list base⟩
      · split
        · rename_i h
          have ef : f = ("all" : Str) := by simpa using h
          subst ef
          refine ⟨sx_ev1S (op := fun _ => allT) m0V post_V (OpOk1.v ok_all) (Mp.PE.imp (pe_callB (cr_all C.calm) g1 g2 boot_all ha (by decide) (by decide) (star_eq hs) hpl0) fun σ H Q q => ?_), fun e => by rcases e with e | e <;> cases e⟩
          rw [C.hK]
          exact q
        · split
          · rename_i h
            have ef : f = ("any" : Str) := by simpa using h
            subst ef
            refine ⟨sx_ev1S (op := fun _ => anyT) m0V post_V (OpOk1.v ok_any) (Mp.PE.imp (pe_callB (cr_any C.calm) g1 g2 boot_any ha (by decide) (by decide) (star_eq hs) hpl0) fun σ H Q q => ?_), fun e => by rcases e with e | e <;> cases e⟩
            rw [C.hK]
            exact q
          · rename_i hnl _ _
            obtain ⟨b1, b2⟩ := s_B2 S C f p a pos hb hs
            exact ⟨b1, fun e => b2 e fun z => by subst z; simp_all⟩

/-! ### calls -/
theorem kind_in {c : Cfg} {e : Expr} {b : String} (h : tyName1 c e = some b) : b ∈ kinds5 ∧ ∃ x p, e = .Name x p ∧ c.blt x = true ∧ kindName x = some b := by
  unfold tyName1 at h
  split at h
  · rename_i x p
    split at h
    · rename_i hb
      refine ⟨?_, x, p, rfl, hb, h⟩
      unfold kindName at h
      repeat' split at h
      all_goals first | (cases h; decide) | (cases h; done)
    · cases h
  · cases h
theorem p_ty (C : COk k c X W) {e : Expr} {b : String} (h : tyName1 c e = some b) : PE X e (tC (.ty b)) ∧ isStar e = false := by
  obtain ⟨_, x, p, rfl, hb, hk⟩ := kind_in h
  obtain ⟨g1, g2, _⟩ := blt_of C hb
  refine ⟨?_, rfl⟩
  unfold kindName at hk
  split at hk
  · rename_i h; have ef : x = ("bool" : Str) := by simpa using h
    subst ef; cases hk; exact pe_bltn g1 g2 boot_bool rfl (by decide) (by decide)
  · split at hk
    · rename_i h; have ef : x = ("int" : Str) := by simpa using h
      subst ef; cases hk; exact pe_bltn g1 g2 boot_int rfl (by decide) (by decide)
    · split at hk
      · rename_i h; have ef : x = ("str" : Str) := by simpa using h
        subst ef; cases hk; exact pe_bltn g1 g2 boot_str rfl (by decide) (by decide)
      · split at hk
        · rename_i h; have ef : x = ("tuple" : Str) := by simpa using h
          subst ef; cases hk; exact pe_bltn g1 g2 boot_tuple rfl (by decide) (by decide)
        · split at hk
          · rename_i h; have ef : x = ("list" : Str) := by simpa using h
            subst ef; cases hk; exact pe_bltn g1 g2 boot_list rfl (by decide) (by decide)
          · cases hk
/-- some constants as arguments -/
def tTys : List String → TA
  | [] => tNil
  | b :: bs => tCons (tC (.ty b)) (tTys bs)
theorem p_tys (C : COk k c X W) : ∀ {es : List Expr} {bs : List String}, tyNames1 c es = some bs → PA X es (tTys bs) ∧ ∀ b ∈ bs, b ∈ kinds5
  | [], bs, h => by cases h; exact ⟨pa_nil, fun _ h => by cases h⟩
  | e :: es, bs, h => by
    unfold tyNames1 at h
    cases h1 : tyName1 c e with
    | none => rw [h1] at h; cases h
    | some b =>
      rw [h1] at h
      cases h2 : tyNames1 c es with
      | none => rw [h2] at h; cases h
      | some r =>
        rw [h2] at h
        cases h
        obtain ⟨a1, a2⟩ := p_tys C h2
        obtain ⟨b1, b2⟩ := p_ty C h1
        refine ⟨pa_cons b1 a1 (star_eq b2), fun x hx => ?_⟩
        rcases List.mem_cons.mp hx with rfl | hx
        · exact (kind_in h1).1
        · exact a2 x hx
theorem tTys_of : ∀ (bs : List String) (σ : L2.St) (H : Hp) (Q : List V → Hp → Prop), Q (bs.map V.ty) H → tTys bs σ H Q
  | [], _, _, _, q => q
  | b :: bs, σ, H, Q, q => tTys_of bs σ H (fun vs H2 => Q (.ty b :: vs) H2) q
theorem cls_pair : ∀ bs : List String, Paired ClsV (bs.map V.ty) (bs.map Value.type)
  | [] => .nil
  | b :: bs => .cons (.ty b) (cls_pair bs)
theorem RepB.skip {g : Gh} {H : Hp} {p : Addr} {o : HO} {x : T} {v : V} (hp : H p = none) (r : RepB k g H x v) : RepB k g (upd H p o) x v := by
  rcases r with r | ⟨a, e, ow⟩
  · exact .inl r
  · refine .inr ⟨a, e, Own.mono (GLe.refl g) ?_ _ ow⟩
    obtain ⟨u, hu⟩ := ow.there
    exact upd_ne (ne_of_none hu hp)
theorem s_isi (S : Snd k n) (C : COk k c X W) {p pos : Pos} {a b : Expr} {ns : List String} (hb : c.blt "isinstance" = true) (hs : isStar a = false) (h : tyNames c b = some ns) : PE X (.Call (.Name "isinstance" p) [a, b] [] pos) (tV k W (ev1S (isKind ns) (dB c n a))) := by
  obtain ⟨g1, g2, _⟩ := blt_of C hb
  have fin : ∀ {g : Gh} {env : En} {st : Store} {σ : L2.St} {H : Hp} {x z : T} {v : V}, SR k g env st σ H → RepB k g H x v → isKind ns st x = some z → (∀ b ∈ ns, b ∈ kinds5) → ∃ s : String, TyX k.K H v (.type s) ∧ s ∈ kinds7 ∧ z = .bl (ns.any (subKind s)) ∧ ∀ (p : Addr) (o : HO), H p = none → TyX k.K (upd H p o) v (.type s) := fun {g env st σ H x z v} S' r e hk => by
    unfold isKind at e
    cases h1 : kindOf st x with
    | none => rw [h1] at e; cases e
    | some s =>
      rw [h1] at e
      cases e
      exact ⟨s, kind_ty S' r h1, kind_mem h1, rfl, fun p o hp => kind_ty (S'.skip (o := o) hp).1 (RepB.skip hp r) h1⟩
  unfold tyNames at h
  split at h
  · rename_i es _ _
    cases h0 : tyNames1 c es with
    | none => rw [h0] at h; cases h
    | some bs =>
    rw [h0] at h
    have h : (if bs.length ≤ 10 then some bs else none) = some ns := h
    split at h
    rotate_left
    · cases h
    rename_i h10
    cases h
    obtain ⟨a1, a2⟩ := p_tys C h0
    refine Mp.PE.imp (pe_callB call_isiT g1 g2 PyProof.Rows.boot_isinstance (pa_cons (Mp.PE.toB (S.B C a)) (pa_cons (pe_tup a1) pa_nil (star_eq rfl)) (star_eq hs)) (by decide) (by decide) (star_eq hs) (by rw [star_eq rfl]; rfl)) fun σ H Q ⟨g, env, st, S', q⟩ => ?_
    refine ⟨g, env, st, S', (q.bind (R1 := rB k) m0V).imp fun v H1 ⟨x, st1, g1', x1, S1, r1, q1⟩ => ?_⟩
    obtain ⟨z, ez, q2⟩ := After.opt (o := isKind ns st1 x) q1
    obtain ⟨s, t1, t2, rfl, t3⟩ := fin S1 r1 ez a2
    refine tTys_of ns σ H1 _ ⟨?_, fun tp htp => ⟨v, tp, ns.map V.ty, .type s, ns.map Value.type, ns.any (subKind s), rfl, upd_same, cls_pair ns, ?_, ?_, ?_⟩⟩
    · rw [List.length_map, sizeLine_eq]; omega
    · rw [C.hK]; exact t3 tp _ htp
    · rw [C.hK]; exact kit_any t2 a2
    · obtain ⟨S2, x2, _⟩ := S1.skip (o := .tup (ns.map V.ty)) htp
      exact q2 _ _ g1' x2 S2 rep_bl
  · rename_i x px
    cases h1 : tyName1 c (.Name x px) with
    | none => rw [h1] at h; cases h
    | some b =>
      rw [h1] at h
      cases h
      obtain ⟨b1, b2⟩ := p_ty C h1
      refine Mp.PE.imp (pe_callB call_isi g1 g2 PyProof.Rows.boot_isinstance (pa_cons (Mp.PE.toB (S.B C a)) (pa_cons b1 pa_nil (star_eq b2)) (star_eq hs)) (by decide) (by decide) (star_eq hs) (by rw [star_eq b2]; rfl)) fun σ H Q ⟨g, env, st, S', q⟩ => ?_
      refine ⟨g, env, st, S', (q.bind (R1 := rB k) m0V).imp fun v H1 ⟨x', st1, g1', x1, S1, r1, q1⟩ => ?_⟩
      obtain ⟨z, ez, q2⟩ := After.opt (o := isKind [b] st1 x') q1
      have hk : ∀ b' ∈ [b], b' ∈ kinds5 := fun b' hb' => by
        have : b' = b := by simpa using hb'
        subst this
        exact (kind_in h1).1
      obtain ⟨s, t1, t2, rfl, _⟩ := fin S1 r1 ez hk
      refine ⟨v, .ty b, .type s, .type b, subKind s b, rfl, .ty b, by rw [C.hK]; exact t1, by rw [C.hK]; exact kit_sub t2 (hk b (by simp)), ?_⟩
      have := q2 (.bl (subKind s b)) H1 g1' Ext.refl S1 (by simp; exact rep_bl)
      exact this
  · cases h
theorem any_star : ∀ {es : List Expr} {env : Env} {pos : Pos}, es.any isStar = false → (backTo pos (starEach es env)).any (·.1) = false
  | [], _, _, _ => rfl
  | e :: es, env, pos, h => by
    rw [List.any_cons, Bool.or_eq_false_iff] at h
    rw [star_eq h.1]
    show (false || (backTo pos (starEach es env)).any (·.1)) = false
    rw [any_star h.2]
    rfl
theorem dEs_len : ∀ (n : Nat) (es : List Expr), True := fun _ _ => trivial
/-- a call without arguments, the wish at the caller's slots -/
theorem pe_call0S {CX : CXT} {j : Nat} {f : Addr} {fd : FuncData} {ps : List Str} {sp : Sp} {E : L2.St → XK} {x : Str} {p pos : Pos} (F : FnOk X.prog X.w X.K X.mg X.base CX j f fd ps sp) (hr : Room j X.A) (hg : Gl X x) (hm : X.mg x = some (.ref f)) (hk : PySem.W.keepIn X.K (.ref f) = true) (hb : Binds X.K fd ps []) (hx : ∀ σ, PassesAt CX X σ (E σ))
    (hdb : (x == ("__debug__" : Str)) = false) : PE X (.Call (.Name x p) [] [] pos) (fun σ H Q => sp [] H Q (E σ)) := by
  refine ⟨fun pins s σ H Q I h => ?_⟩
  refine wpAny_Call_Name_kw (ld_glob I hg hm ?_ hdb)
  exact PySem.W.callWith_K0 I.kIn hk (run_fnSD (us := []) (vs := []) (dvs := []) F hr hb .nil (hx σ) I .nil h)
theorem s_Ca (S : Snd k n) (C : COk k c X W) (f : Expr) (args : List Expr) (pos : Pos) : PE X (.Call f args [] pos) (tV k W (dC c (n + 1) f args)) ∧ (freshX c (.Call f args [] pos) = true → PE X (.Call f args [] pos) (tF k W (dC c (n + 1) f args))) := by
  cases f with
  | Name f p =>
    unfold dC
    simp only
    split
    · rename_i hg
      obtain ⟨g1, g2⟩ := glob_of C hg
      split
      · rename_i e he
        split
        · rename_i hc
          simp only [Bool.and_eq_true, decide_eq_true_eq, beq_iff_eq, Bool.not_eq_true'] at hc
          obtain ⟨⟨hl, hn⟩, hst⟩ := hc
          obtain ⟨fa, fd, hm, hk, hb, F⟩ := C.G.fns f e he
          have base : PE X (.Call (.Name f p) args [] pos) (tR k W (rFn k e.fresh) (callP e.fn (dEs c n args))) := by
            refine sx_call ?_
            cases args with
            | nil =>
              refine Mp.PE.imp (pe_call0S (E := fun σ cls d H' => W cls d σ H') F (C.room _ hl) g1 hm hk hb (fun σ => passAt C.tk σ) g2) fun σ H Q q => ?_
              cases n with
              | zero => obtain ⟨g, env, st, _, q⟩ := q; exact q.elim
              | succ n =>
                unfold dEs at q
                obtain ⟨g, env, st, S', q⟩ := q
                exact q [] H g Ext.refl S' (RepL.nil.mpr rfl)
            | cons a args =>
              rw [List.any_cons, Bool.or_eq_false_iff] at hst
              refine Mp.PE.imp (pe_callSD (E := fun σ cls d H' => W cls d σ H') F (C.room _ hl) g1 hm hk hb .nil (fun σ => passAt C.tk σ) (S.Es C (a :: args)) g2 (star_eq hst.1) (any_star hst.2)) fun σ H Q q => ?_
              obtain ⟨g, env, st, S', q⟩ := q
              refine ⟨g, env, st, S', q.imp fun vs H1 q1 => ?_⟩
              rw [List.append_nil]
              exact q1
          refine ⟨Mp.PE.thawFn base, fun hf => ?_⟩
          unfold freshX at hf
          simp only [hg, he, if_true] at hf
          rw [hf] at base
          exact base
        · exact ⟨peb, fun _ => peb⟩
      · rename_i he
        split
        · rename_i hb
          split
          · rename_i a
            split
            · exact ⟨peb, fun _ => peb⟩
            · rename_i hs
              have hs : isStar a = false := by simpa using hs
              obtain ⟨b1, b2⟩ := S.B1 C f p a pos hb hs
              refine ⟨b1, fun hf => ?_⟩
              unfold freshX at hf
              simp only [hg, he, if_true] at hf
              rw [Bool.or_eq_true] at hf
              rcases hf with hf | hf
              · exact b2 (.inl (by simpa using hf))
              · exact b2 (.inr (by simpa using hf))
          · rename_i a b
            split
            · rename_i hi
              have ef : f = ("isinstance" : Str) := by simpa using hi
              subst ef
              split
              · rename_i ns hns
                by_cases hs : isStar a = true
                · cases a <;> first | (cases hs; done) | skip
                  have hB : ∀ e q, dB c n (.Starred e q) = Ev.bad := fun e q => by
                    cases n with
                    | zero => unfold dB; rfl
                    | succ n =>
                      unfold dB
                      cases n with
                      | zero => rfl
                      | succ n => rfl
                  rw [hB]
                  refine ⟨⟨fun _ _ _ _ _ _ q => ?_⟩, fun hf => ⟨fun _ _ _ _ _ _ q => ?_⟩⟩
                  · obtain ⟨g, env, st, _, q⟩ := q; exact q.elim
                  · obtain ⟨g, env, st, _, q⟩ := q; exact q.elim
                · have hs : isStar a = false := by simpa using hs
                  refine ⟨s_isi S C hb hs hns, fun hf => ?_⟩
                  unfold freshX at hf
                  simp only [hg, he, if_true] at hf
                  cases hf
              · exact ⟨peb, fun _ => peb⟩
            · exact ⟨peb, fun _ => peb⟩
          · exact ⟨peb, fun _ => peb⟩
        · exact ⟨peb, fun _ => peb⟩
    · exact ⟨peb, fun _ => peb⟩
  | _ => unfold dC; exact ⟨peb, fun _ => peb⟩
/-! ### comprehensions -/
theorem PTs.imp {X : Cx} {e : List Expr} {t t' : TT} (h : PTs X e t) (i : ∀ σ H Q, t' σ H Q → t σ H Q) : PTs X e t' := ⟨fun pins s σ H Q I q => h.run pins s σ H Q I (i σ H Q q)⟩
theorem folded {iter : Expr} {env : Env} (h : isPlain iter = true) : ∀ x, foldedSetIterable iter env x = pure x := by
  intro x
  cases iter <;> first | rfl | (cases h; done)
theorem s_Ic (S : Snd k n) (C : COk k c X W) (tg it : Expr) (vs : List Nat) : PI X tg it (tR k W (rIc k vs) (pickI (itOwn c vs it) (dI c n tg it))) := by
  cases h : itOwn c vs it with
  | none => exact pi_toC (S.I C tg it)
  | some i =>
    unfold itOwn at h
    split at h
    · rename_i x p
      split at h
      · rename_i j hj
        split at h
        · rename_i hh
          cases h
          rw [Bool.and_eq_true] at hh
          have hv : ¬ i ∈ vs := by simpa using hh.2
          refine pi_own hv ?_
          rw [← C.hK]
          exact pi_seq (p_var C hj)
        · cases h
      · cases h
    · cases h
/-- the parts of a comprehension of one clause -/
structure LcOk (k : Gk) (c : Cfg) (n : Nat) (X : Cx) (W : L2.WX) (elt tg it : Expr) (ifs : List Expr) (scope : Scope) (f : EvT) : Prop where
  ex : ∃ (g : Tg) (fc : EvB), f = comp1 ((ownOf c.N scope.names).map (·.2)) (pickI (itOwn c ((ownOf c.N scope.names).map (·.2)) it) (dI c n tg it)) g fc (dE (c.blk scope) n elt) ∧ BlkOk X.N X.env.scope scope (ownOf c.N scope.names) ∧ isPlain it = true ∧ PI X tg it (tR k W (rIc k ((ownOf c.N scope.names).map (·.2))) (pickI (itOwn c ((ownOf c.N scope.names).map (·.2)) it) (dI c n tg it))) ∧
    GOk k (· ∈ (ownOf c.N scope.names).map (·.2)) g (gOf k.K g) ∧ (∀ (s : Shared) (H : Hp) (A : Addr) (cl : List (Str × Addr)) (fp : List Addr), PG (X.blk s H scope (compEnvC scope cl A X.env) fp) tg (gOf k.K g)) ∧
    (∀ (s : Shared) (H : Hp) (A : Addr) (cl : List (Str × Addr)) (fp : List Addr), PTs (X.blk s H scope (compEnvC scope cl A X.env) fp) ifs (tT k WF fc)) ∧
    (∀ (s : Shared) (H : Hp) (A : Addr) (cl : List (Str × Addr)) (fp : List Addr), PE (X.blk s H scope (compEnvC scope cl A X.env) fp) elt (tV k WF (dE (c.blk scope) n elt)))
/-- a comprehension tells nothing, or it is of one clause -/
theorem lc_cases (S : Snd k n) (C : COk k c X W) (elt : Expr) (gs : List Comprehension) (scope : Scope) (pos : Pos) : dLc c (n + 1) elt gs scope = Ev.bad ∨ ∃ tg it ifs, gs = [⟨tg, it, ifs, 0⟩] ∧ LcOk k c n X W elt tg it ifs scope (dLc c (n + 1) elt gs scope) := by
  unfold dLc
  split
  · rename_i tg it ifs
    split
    · exact .inl rfl
    · rename_i h
      have h1 : blkB c.N c.sc scope = true := by cases e : blkB c.N c.sc scope <;> simp_all
      have h2 : isPlain it = true := by cases e : isPlain it <;> simp_all
      split
      · rename_i g hg
        have Cb := blk_COk C h1
        have one : ∀ (fc : EvB), (∀ (s : Shared) (H : Hp) (A : Addr) (cl : List (Str × Addr)) (fp : List Addr), PTs (X.blk s H scope (compEnvC scope cl A X.env) fp) ifs (tT k WF fc)) →
            LcOk k c n X W elt tg it ifs scope (comp1 ((ownOf c.N scope.names).map (·.2)) (pickI (itOwn c ((ownOf c.N scope.names).map (·.2)) it) (dI c n tg it)) g fc (dE (c.blk scope) n elt)) := fun fc ht =>
          ⟨g, fc, rfl, blkOk_of C h1, h2, s_Ic S C tg it _, gok_of g (by
            -- any state will do to see where the target stores
            exact (dG_in (c.blk scope) n tg g hg) _ (blk_in C)), fun s H A cl fp => (dG_ok (Cb s H A cl fp) n tg g hg).2.1, ht, fun s H A cl fp => S.E (Cb s H A cl fp) elt⟩
        split
        · exact .inr ⟨_, _, _, rfl, one _ fun s H A cl fp => Mp.PTs.imp pts_nil fun σ H Q q => tR_pure (v := true) (fun _ _ _ _ _ _ => rfl) q⟩
        · rename_i t
          exact .inr ⟨_, _, _, rfl, one _ fun s H A cl fp => pts_one (S.Te (Cb s H A cl fp) t)⟩
        · exact .inl rfl
      · exact .inl rfl
  · exact .inl rfl
theorem lc_pe (C : COk k c X W) {elt tg it : Expr} {ifs : List Expr} {scope : Scope} {pos : Pos} {f : EvT} (L : LcOk k c n X W elt tg it ifs scope f) : PE X (.ListComp elt [⟨tg, it, ifs, 0⟩] scope pos) (tF k W f) := by
  obtain ⟨g, fc, rfl, h1, h2, h3, h4, h5, h6, h7⟩ := L.ex
  exact Mp.PE.imp (pe_lc C.calm (by rw [C.hN]; exact C.nd) h3 h1 h5 h6 h7 (folded h2)) fun σ H Q q => comp_tLc h4 q
theorem sw_false {elt : Expr} {gs : List Comprehension} {scope : Scope} {pos py : Pos} {y : Str} {l : Nat} {env : Env} (hk : env.scope.kind = .function) (h : ¬ (env.scope.names.lookup y = some .local ∧ (py.line == pos.line) = true ∧ (scope.names.any fun (n, k) => n == y && (k == .local || k == .cell)) = false)) : swapsWith (.ListComp elt gs scope pos) (some (.Name y py)) l env = pure false := by
  have hb : env.blockKind = .function := by unfold Env.blockKind; rw [hk]; rfl
  unfold swapsWith
  simp only [hb, Expr.pos]
  have : (ScopeKind.function == ScopeKind.function && env.kindOf y == some NameKind.local && py.line == pos.line && !scope.names.any fun x => x.1 == y && (x.2 == .local || x.2 == .cell)) = false := by
    cases e1 : (env.kindOf y == some NameKind.local) with
    | false => simp
    | true =>
      have e1' : env.scope.names.lookup y = some .local := by
        have : env.kindOf y = some NameKind.local := by simpa using e1
        exact this
      cases e2 : (py.line == pos.line) with
      | false => simp
      | true =>
        cases e3 : (scope.names.any fun (n, k) => n == y && (k == .local || k == .cell)) with
        | true => simp_all
        | false => exact absurd ⟨e1', e2, e3⟩ h
  rw [this]
/-- a comprehension by its value, and given to a name -/
theorem s_Lc (S : Snd k n) (C : COk k c X W) (elt : Expr) (gs : List Comprehension) (scope : Scope) (pos : Pos) : PE X (.ListComp elt gs scope pos) (tF k W (dLc c (n + 1) elt gs scope)) ∧
    ∀ (x : Str) (px spos : Pos) (i : Nat), c.setSlot x = some i → PS X (.Assign [.Name x px] (.ListComp elt gs scope pos) spos) (tAsg (tF k W (dLc c (n + 1) elt gs scope)) (gName i)) := by
  rcases lc_cases S C elt gs scope pos with h | ⟨tg, it, ifs, rfl, L⟩
  · rw [h]; exact ⟨peb, fun _ _ _ _ _ => psb⟩
  · refine ⟨lc_pe C L, fun x px spos i hx => ?_⟩
    obtain ⟨h1, h2, h3, _⟩ := setSlot_of C hx
    have nd : X.N.Nodup := by rw [C.hN]; exact C.nd
    by_cases hsw : X.env.scope.names.lookup x = some .local ∧ (px.line == pos.line) = true ∧ (scope.names.any fun (n, k) => n == x && (k == .local || k == .cell)) = false
    · obtain ⟨g, fc, e, q1, q2, q3, q4, q5, q6, q7⟩ := L.ex
      refine Mp.PS.imp (ps_setLc C.calm nd h1 hsw.1 (sw_true C.kd hsw.1 hsw.2.1 hsw.2.2) q3 q1 q5 q6 q7 (folded q2)) fun D σ H q => ?_
      rw [e] at q
      exact comp_tLc q4 q
    · exact ps_set nd h1 h2 (lc_pe C L) (sw_false C.kd hsw) h3

/-! ### the step -/
theorem bB (S : Snd k n) (C : COk k c X W) (e : Expr) : PE X e (tB k W (dB c n e)) := Mp.PE.toB (S.B C e)
theorem isStar_sub {i : Expr} (h : ∀ a b c d, i ≠ .Slice a b c d) : PlainIx i := fun o j => by
  cases i <;> first | rfl | exact absurd rfl (h _ _ _ _)
theorem cut_pe (S : Snd k n) (C : COk k c X W) (o : Expr) (lo hi : Option Expr) (p1 pos : Pos) : PE X (.Subscript o (.Slice lo hi none p1) pos) (tF k W (ev3S opCut (dB c n o) (dO c n lo) (dO c n hi))) :=
  sx_cut (pe_slice (sl_M C.hK) (S.B C o) (S.O C lo) (S.O C hi))
theorem rev_pe (S : Snd k n) (C : COk k c X W) {p : Post} {R : Rdg T V} (m : Mono0 R) (hp : PostOk k p R) (hw : OpOk1 k p (rRev k.K) opRev) (o : Expr) (lo hi : Option Expr) (s : Expr) (p1 pos : Pos) (h : isRev lo hi s = true) : PE X (.Subscript o (.Slice lo hi (some s) p1) pos) (tR k W R (ev1S opRev (dB c n o))) := by
  unfold isRev at h
  split at h
  · refine sx_ev1S m hp hw (Mp.PE.imp (pe_rev (Mp.PE.toB (S.B C o))) fun σ H Q q => ?_)
    rw [C.hK]
    exact q
  · cases h
theorem bin_pe (S : Snd k n) (C : COk k c X W) {p : Post} {R : Rdg T V} (m : Mono0 R) (hp : PostOk k p R) (a b : Expr) (op : Operator) (pos : Pos) {f : T → T → Option T} (hw : ∀ r, OpOk k (pF k) r (fun _ => f) → OpOk k p r fun _ => f) (h : binOp op = some f) : PE X (.BinOp a op b pos) (tR k W R (ev2 f (dB c n a) (dB c n b))) := by
  obtain ⟨r, h1, h2⟩ := bin_table (k := k) C.hK h
  exact sx_ev2S m hp (hw r h2) (pe_op h1 (S.B C a) (bB S C b))
theorem s_E (S : Snd k n) (C : COk k c X W) (e : Expr) : PE X e (tV k W (dE c (n + 1) e)) := by
  unfold dE
  split
  · exact sx_con pe_non fun g => rep_non
  · exact sx_con pe_bl fun g => rep_bl
  · exact sx_con pe_int fun g => rep_int
  · exact sx_con pe_str fun g => rep_str
  · rename_i x p
    cases h : c.slot x with
    | some i => exact sx_var (p_var C h)
    | none =>
      simp only
      split
      · rename_i hg
        obtain ⟨g1, g2⟩ := glob_of C hg
        split
        · rename_i t ht
          obtain ⟨u, v, hm, r, hr⟩ := C.G.consts x t ht
          exact sx_con (pe_glob g1 hm r g2) hr
        · exact peb
      · exact peb
  · rename_i a op b p
    cases h : binOp op with
    | none => exact peb
    | some f => exact bin_pe S C m0V post_V a b op p (fun r h => OpOk.v h) h
  · exact sx_ev1S (op := fun _ => opNeg) m0V post_V (OpOk1.v ok_neg) (pe_un un_neg (Mp.PE.vB (S.E C _)))
  · exact sx_notV (pe_not (S.E C _))
  · exact S.Bl C _ _ _
  · rename_i a op b p
    cases h : cmpOp op with
    | none => exact peb
    | some f =>
      obtain ⟨r, h1, h2⟩ := cmp_table (k := k) C.hK C.un h
      simp only
      split
      · exact peb
      · rename_i hm
        exact sx_ev2S (op := fun _ => f) m0V post_V (OpOk.v h2) (pe_cmpR h1 (S.B C a) (bB S C b) (by simpa using hm))
  · rename_i a op op' b b' p
    cases h : cmpOp op with
    | none => exact peb
    | some f =>
      cases h' : cmpOp op' with
      | none => exact peb
      | some f' =>
        obtain ⟨r, h1, h2⟩ := cmp_table (k := k) C.hK C.un h
        obtain ⟨r', h1', h2'⟩ := cmp_table (k := k) C.hK C.un h'
        simp only
        split
        · exact peb
        · rename_i hm
          exact sx_chain (OpOk.v h2) (OpOk.v h2') (pe_chain h1 h1' (S.E C a) (S.E C b) (S.E C b') (by
            show behindInMarks op' b' = false
            simpa using hm))
  · exact sx_ite (pe_ifExp (S.Te C _) (S.E C _) (S.E C _))
  · exact sx_evN m0V post_V (OpOkL.v ok_tup) (pe_tup (S.Es C _))
  · exact sx_evN m0V post_V (OpOkL.v ok_lst) (pe_lst (S.Es C _))
  · rename_i o i p
    split
    · exact Mp.PE.thaw (cut_pe S C o _ _ _ _)
    · split
      · rename_i hr
        exact rev_pe S C m0V post_V (OpOk1.v ok_rev) o _ _ _ _ _ hr
      · exact peb
    · rename_i h1 h2
      refine sx_ev2S m0V post_V ok_ixM (pe_ix (ix_M C.hK C.un) (S.B C o) (Mp.PE.vB (S.E C i)) (isStar_sub fun a b d p e => ?_))
      subst e
      cases d with
      | none => exact h1 a b p rfl
      | some d => exact h2 a b d p rfl
  · exact Mp.PE.thaw (S.L C _ _ _ _).1
  · rename_i o f p
    split
    · rename_i hb
      exact sx_fld C (S.E C o) hb
    · exact peb
  · exact (S.Cl C _ _ _ _).1
  · exact peb
theorem s_Cc (S : Snd k n) (C : COk k c X W) (f : Expr) (args : List Expr) (kws : List Keyword) (pos : Pos) : PE X (.Call f args kws pos) (tV k W (match clsAt c f args kws with
        | some (x, ce, sh) => newC x ce.fn sh.src (dEs c n args) (dEs c n (kws.map kwVal))
        | none => (match kws with
          | [] => dC c n f args
          | _ => Ev.bad))) ∧ (freshX c (.Call f args kws pos) = true → PE X (.Call f args kws pos) (tF k W (match clsAt c f args kws with
        | some (x, ce, sh) => newC x ce.fn sh.src (dEs c n args) (dEs c n (kws.map kwVal))
        | none => (match kws with
          | [] => dC c n f args
          | _ => Ev.bad)))) := by
  have old : PE X (.Call f args kws pos) (tV k W (match kws with
        | [] => dC c n f args
        | _ => Ev.bad)) ∧ (freshX c (.Call f args kws pos) = true → PE X (.Call f args kws pos) (tF k W (match kws with
        | [] => dC c n f args
        | _ => Ev.bad))) := by
    cases kws with
    | nil => exact S.Ca C f args pos
    | cons a r => exact ⟨peb, fun _ => peb⟩
  split
  · rename_i x ce sh hc
    unfold clsAt at hc
    split at hc
    rotate_left
    · cases hc
    rename_i y py
    split at hc
    rotate_left
    · cases hc
    rename_i ce' hl
    split at hc
    rotate_left
    · cases hc
    rename_i hh
    cases hfd : (ce'.shp.find? fun sh => decide (sh.np = args.length) && sh.ks == kws.filterMap kwName) with
    | none => rw [hfd] at hc; cases hc
    | some sh' =>
      rw [hfd] at hc
      cases hc
      simp only [Bool.and_eq_true, decide_eq_true_iff] at hh
      obtain ⟨⟨⟨⟨⟨⟨⟨⟨h1, h2⟩, h3⟩, h4⟩, h5⟩, h6⟩, h7⟩, h8⟩, h9⟩ := hh
      have hsh := List.find?_some hfd
      rw [Bool.and_eq_true, decide_eq_true_iff] at hsh
      have hks : sh.ks = kws.filterMap kwName := by simpa using hsh.2
      obtain ⟨g1, g2⟩ := glob_of C h1
      cases args with
      | nil => cases h3
      | cons e es =>
        have h4 : (e :: es).any isStar = false := by simpa using h4
        obtain ⟨n1, n2⟩ := kw_names (env := X.env) (pos := pos) kws
        obtain ⟨n3, n4⟩ := n2 h5
        have h4' := h4
        rw [List.any_cons, Bool.or_eq_false_iff] at h4'
        refine ⟨sx_new C g1 g2 hl (List.mem_of_find?_eq_some hfd) h2 (S.Es C (e :: es)) (S.Ks C kws) (fun env st st' ts q => by rw [dEs_ok n _ env st st' ts q]; exact hsh.1.symm)
          (fun env st st' ts q => by
            rw [dEs_ok n _ env st st' ts q, List.length_map, hks]
            exact kw_len kws h5) n3 (by rw [n1, hks]) (star_eq h4'.1) (by rw [(star_all h4).2, n4]; rfl), fun hf => ?_⟩
        have hf : (if c.glob x then (match c.G.fns.lookup x with
          | some e => e.fresh
          | none => x == ("list" : Str) || x == ("sorted" : Str)) else false) = true := hf
        rw [if_pos h1] at hf
        cases hfn : c.G.fns.lookup x with
        | some e => rw [hfn] at h6; cases h6
        | none =>
          rw [hfn] at hf
          have hf : (x == ("list" : Str) || x == ("sorted" : Str)) = true := hf
          rw [Bool.or_eq_true] at hf
          rcases hf with hf | hf
          · rw [hf] at h7; cases h7
          · rw [hf] at h8; cases h8
  · exact old
theorem hofAt_ok {f : Expr} {args : List Expr} {kws : List Keyword} {e : HofE} {ti : Nat} {q : Str} {scope : Scope} {body : Expr} {o : Option Expr} (h : hofAt c f args kws = some (e, ti, q, scope, body, o)) :
    ∃ x p lp rest, f = .Name x p ∧ kws = [] ∧ args = .Lambda ⟨[], [], none, [], [], none, []⟩ body scope lp :: rest ∧ c.lam = some (ti, q) ∧ c.G.hof.lookup x = some e ∧ c.glob x = true ∧ lamB c scope = true ∧ e.okB c = true ∧ (c.G.fns.lookup x).isNone = true ∧ (x == ("list" : Str)) = false ∧ (x == ("sorted" : Str)) = false ∧
      ((rest = [] ∧ o = none) ∨ ∃ d, rest = [d] ∧ isStar d = false ∧ o = some d) := by
  unfold hofAt at h
  split at h
  · rename_i hlam
    split at h
    · rename_i hl e' he
      split at h
      · rename_i hh
        simp only [Bool.and_eq_true, Bool.not_eq_true'] at hh
        obtain ⟨⟨⟨⟨⟨h1, h2⟩, h3⟩, h4⟩, h5⟩, h6⟩ := hh
        split at h
        · cases h
          exact ⟨_, _, _, _, rfl, rfl, rfl, hlam, he, h1, h2, h3, h4, h5, h6, .inl ⟨rfl, rfl⟩⟩
        · split at h
          · cases h
          · rename_i hs
            cases h
            exact ⟨_, _, _, _, rfl, rfl, rfl, hlam, he, h1, h2, h3, h4, h5, h6, .inr ⟨_, rfl, by simpa using hs, rfl⟩⟩
        · cases h
      · cases h
    · cases h
  · cases h
theorem lam_COk (C : COk k c X W) {scope : Scope} (h : lamB c scope = true) (f c' : Addr) (A : Around) (outer : List Env) (s : Shared) (H : Hp) (E : XK) (hr : Room (c.lvl - 4) (A.deeper (LamX.lamEnv X scope s.heap.objs.size f c'))) :
    COk k (c.lamC scope) (LamX.lamCx X A outer s H E scope f c') (fun cls d _ H' => E cls d H') := by
  have hl := h
  unfold lamB at hl
  rw [Bool.and_eq_true, decide_eq_true_iff] at hl
  have L := LamX.lamS_by hl.1
  refine ⟨C.hK, C.hN, C.nd, C.nm, L.kind, rfl, rfl, takes_of rfl rfl rfl rfl, passes_of rfl, fun j hj => hr.mono ?_, ?_, fun x h1 h2 => ?_, C.G, fun ti q h => by cases h⟩
  · have hj : j < c.lvl - 3 := hj
    omega
  · have := hr.un
    show (A.deeper (LamX.lamEnv X scope s.heap.objs.size f c')).units + 70 < cLine
    omega
  · have h1 : ([] : List Str).contains x = true := h1
    cases h1
theorem s_Cl (S : Snd k n) (C : COk k c X W) (f : Expr) (args : List Expr) (kws : List Keyword) (pos : Pos) : PE X (.Call f args kws pos) (tV k W (dCall c (n + 1) f args kws pos)) ∧ (freshX c (.Call f args kws pos) = true → PE X (.Call f args kws pos) (tF k W (dCall c (n + 1) f args kws pos))) := by
  unfold dCall
  split
  · rename_i o m ap
    split
    · rename_i ents hm
      split
      · rename_i hh
        unfold mthB at hh
        simp only [Bool.and_eq_true, decide_eq_true_iff] at hh
        obtain ⟨⟨⟨⟨⟨h1, h2⟩, h3⟩, h4⟩, h5⟩, h6⟩ := hh
        have hne : ents ≠ [] := by rintro rfl; cases h1
        cases n with
        | zero => exact ⟨⟨fun _ _ _ _ _ _ q => by obtain ⟨g, env, st, _, q⟩ := q; exact q.elim⟩, fun _ => ⟨fun _ _ _ _ _ _ q => by obtain ⟨g, env, st, _, q⟩ := q; exact q.elim⟩⟩
        | succ n =>
        have base := sx_meth (m := m) (apos := ap) (pos := pos) C hm h2 hne (S.E C o) (S.Es C args) (fun e => by
          subst e
          unfold dEs
          rfl) h3 (by simpa using h4) h5 h6
        refine ⟨Mp.PE.thawFn base, fun hf => ?_⟩
        have hf : (match c.G.mth.lookup m with
          | some ents => mfr ents
          | none => false) = true := hf
        rw [hm] at hf
        have hf : mfr ents = true := hf
        rw [hf] at base
        exact base
      · exact ⟨peb, fun _ => peb⟩
    · exact ⟨peb, fun _ => peb⟩
  · rename_i hna
    have nofr : ∀ {e : HofE} {ti : Nat} {q : Str} {scope : Scope} {body : Expr} {o : Option Expr}, hofAt c f args kws = some (e, ti, q, scope, body, o) → freshX c (.Call f args kws pos) = true → False := fun h hf => by
      obtain ⟨x, p, lp, rest, rfl, rfl, rfl, h1, h2, h3, h4, h5, h6, h7, h8, _⟩ := hofAt_ok h
      have hf : (if c.glob x then (match c.G.fns.lookup x with
        | some e => e.fresh
        | none => x == ("list" : Str) || x == ("sorted" : Str)) else false) = true := hf
      rw [h3, if_pos rfl] at hf
      cases hx : c.G.fns.lookup x with
      | some e => rw [hx] at h6; cases h6
      | none => rw [hx, h7, h8] at hf; cases hf
    have lamS : ∀ {scope : Scope}, lamB c scope = true → LamX.LamS X.env.scope scope := fun {scope} h => by
      unfold lamB at h
      rw [Bool.and_eq_true] at h
      have L := LamX.lamS_by h.1
      exact ⟨L.kind, L.co, L.gen, L.own, fun y hy e => by have := L.free y hy e; rw [C.sc]; exact this⟩
    split
    · rename_i w hs ti q scope body hh
      refine ⟨?_, fun hf => (nofr hh hf).elim⟩
      obtain ⟨x, p, lp, rest, rfl, rfl, rfl, h1, h2, h3, h4, h5, h6, h7, h8, h9⟩ := hofAt_ok hh
      obtain ⟨g, fd, act, nn, bd, sg, hm, kp, D⟩ := C.G.hof x _ h2
      obtain ⟨g1, g2⟩ := glob_of C h3
      rcases h9 with ⟨rfl, _⟩ | ⟨d, _, _, hx⟩
      · have l4 : 4 ≤ c.lvl := by unfold lamB at h4; rw [Bool.and_eq_true, decide_eq_true_iff] at h4; exact h4.2
        rw [← C.G.xn]
        exact sx_tried (kk := c.lvl - 4) C D C.G.exc g1 g2 hm (by rw [C.hK]; exact kp) (C.lam ti q h1) (lamS h4) rfl (fun _ _ _ _ => rfl) (C.room _ (by omega)) fun f' c' A outer s H E hr => S.E (lam_COk C h4 f' c' A outer s H E hr) body
      · cases hx
    · rename_i w hs like ti q scope body d hh
      refine ⟨?_, fun hf => (nofr hh hf).elim⟩
      obtain ⟨x, p, lp, rest, rfl, rfl, rfl, h1, h2, h3, h4, h5, h6, h7, h8, h9⟩ := hofAt_ok hh
      obtain ⟨gy, fy, act, due, l, t, by_, sy, gt, ft, act', nn, bt, st_, gl, fl, hm, kp, D, ht, kt, Dt, hl, kl, Bl, Fl⟩ := C.G.hof x _ h2
      obtain ⟨g1, g2⟩ := glob_of C h3
      rcases h9 with ⟨_, hx⟩ | ⟨d', rfl, hs2, hx⟩
      · cases hx
      · cases hx
        have l4 : 4 ≤ c.lvl := by unfold lamB at h4; rw [Bool.and_eq_true, decide_eq_true_iff] at h4; exact h4.2
        have h5' : (decide (like.lvl + 2 ≤ c.lvl) && !like.fresh) = true := h5
        rw [Bool.and_eq_true, decide_eq_true_iff, Bool.not_eq_true'] at h5'
        rw [h5'.2] at Fl
        rw [← C.G.xn]
        rw [← C.hK] at kp kt kl Bl Fl
        exact sx_is (kk := c.lvl - 4) C D Dt C.G.exc g1 g2 hm kp ht kt hl kl Bl Fl (by omega) (C.lam ti q h1) (lamS h4) rfl (fun _ _ _ _ => rfl) (C.room _ (by omega)) hs2 (S.E C d) fun f' c' A outer s H E hr => S.E (lam_COk C h4 f' c' A outer s H E hr) body
    · rename_i hh1 hh2 hh3
      refine ⟨peb, fun _ => peb⟩
    · exact s_Cc S C f args kws pos
theorem s_F (S : Snd k n) (C : COk k c X W) (e : Expr) (h : freshX c e = true) : PE X e (tF k W (dE c (n + 1) e)) := by
  cases e with
  | List es p => unfold dE; exact sx_evN m0F post_F ok_lst (pe_lst (S.Es C _))
  | ListComp elt gs scope p => unfold dE; exact (S.L C _ _ _ _).1
  | BinOp a op b p =>
    unfold dE
    simp only
    cases h : binOp op with
    | none => exact peb
    | some f => exact bin_pe S C m0F post_F a b op p (fun r h => h) h
  | Subscript o i p =>
    cases i with
    | Slice lo hi s p1 =>
      unfold dE
      cases s with
      | none => exact cut_pe S C o lo hi p1 p
      | some s =>
        simp only
        split
        · rename_i hr
          exact rev_pe S C m0F post_F ok_rev o _ _ _ _ _ hr
        · exact peb
    | _ => cases h
  | Call f args kws p => unfold dE; exact (S.Cl C f args kws p).2 h
  | _ => cases h
theorem s_P (S : Snd k n) (C : COk k c X W) (e : Expr) (h : byVal e = true) : PT X e (tTest (tV k W (dE c (n + 1) e))) := by
  cases e with
  | Compare a ops bs p =>
    unfold dE
    split <;> first | exact ptt | skip
    all_goals first | (rename_i h0; cases h0; done) | skip
    · rename_i a op b p e
      cases e
      cases h : cmpOp op with
      | none => exact ptt
      | some f =>
        obtain ⟨r, h1, h2⟩ := cmp_table (k := k) C.hK C.un h
        simp only
        split
        · exact ptt
        · rename_i hm
          exact Mp.PT.imp (pt_cmpR h1 (S.B C a) (bB S C b) (by simpa using hm)) fun σ H Q q => rd_ev2S (op := fun _ => f) m0V post_V (OpOk.v h2) q
    · rename_i a op op' b b' p e
      cases e
      cases h : cmpOp op with
      | none => exact ptt
      | some f =>
        cases h' : cmpOp op' with
        | none => exact ptt
        | some f' =>
          obtain ⟨r, h1, h2⟩ := cmp_table (k := k) C.hK C.un h
          obtain ⟨r', h1', h2'⟩ := cmp_table (k := k) C.hK C.un h'
          simp only
          split
          · exact ptt
          · rename_i hm
            exact Mp.PT.imp (pt_chain h1 h1' (S.E C a) (S.E C b) (S.E C b') (by
              show behindInMarks op' b' = false
              simpa using hm)) fun σ H Q q => rd_chain (OpOk.v h2) (OpOk.v h2') q
  | BoolOp a b p => cases h
  | IfExp a b d p => cases h
  | UnaryOp op a p =>
    cases op with
    | Not => cases h
    | _ => exact pt_val (s_E S C _) (by intro _; rfl)
  | _ => exact pt_val (s_E S C _) (by intro _; rfl)
theorem snd : ∀ n, Snd k n
  | 0 => snd0
  | n + 1 =>
    have S := snd n
    { E := fun C e => s_E S C e, F := fun C e h => s_F S C e h, L := fun C elt gs scope pos => s_Lc S C elt gs scope pos, P := fun C e h => s_P S C e h, B := fun C e => s_B S C e, Es := fun C es => s_Es S C es, O := fun C o => s_O S C o,
      Bl := fun C op es pos => s_Bl S C op es pos, Te := fun C e => s_Te S C e, Ts := fun C op es pos => s_Ts S C op es pos, I := fun C tg e => s_I S C tg e, Ca := fun C f args pos => s_Ca S C f args pos, Ks := fun C kws => s_Ks S C kws, Cl := fun C f args kws pos => s_Cl S C f args kws pos, B1 := fun C f p a pos h1 h2 => s_B1 S C f p a pos h1 h2 }
end
end Mp


set_option Elab.async false
set_option linter.all false
set_option maxRecDepth 100000
set_option maxHeartbeats 2000000
/-! Dct: dicts by a comprehension, given to a name. -/
namespace Mp
open PySem PySem.Spec PyProof.Rows L2
section
variable {k : Gk} {W : L2.WX} {X : Cx} {g : Gh} {env : En} {st : Store} {σ : L2.St} {H : Hp}
theorem dict_loop {gT : TG} {gt : Tg} {fc : EvB} {fk fv : EvT} {vs : List Nat} {J : It} {xs : List T} {D : Addr} {R0 : Hp → Prop} (hg : GOk k (· ∈ vs) gt gT) (S : SR k g env st σ H) {H00 : Hp} (hJ : rIc k vs H00 env st σ g H xs J) (hD : H D = none) (hz : xs.length ≤ 100000) {ys : List T} {st' : Store}
    (e : compD gt fc fk fv (wipeE vs env) xs [] st = .ok ys st') (hQ : ∀ ws g' H', Ext g env st σ H g' env st' σ H' → SR k g' env st' σ H' → H' D = some (.dK ws) → ¬ Trk g' env st' σ H' D → RepE k g' ys ws → R0 H') :
    ∃ Wi : Nat → Nat → Hp → Prop, (∃ m, Wi 0 m (upd H D (.dK []))) ∧ ∀ i m H, Wi i m H → (J.stop i H ∧ R0 H) ∨ (J.go i H ∧ ∃ Nx : Hp → Prop, (∀ H', Nx H' → ∃ m', m' < m ∧ Wi (i + 1) m' H') ∧ ∀ x H', J.yld i H x H' → gT x (L2.wipe σ vs) H' fun σ2 H2 => L2.wipe σ2 vs = L2.wipe σ vs ∧
      tT k WF fc σ2 H2 fun b H3 => if b = true then tV k WF fk σ2 H3 fun y H4 => tV k WF fv σ2 H4 fun z H5 => ∃ kvs kk, y = kV kk ∧ H5 D = some (.dK kvs) ∧ kvs.length < sizeLine ∧ Nx (upd H5 D (.dK (putK kvs kk z))) else Nx H3) := by
  have b : Sub (wipeE vs env) (L2.wipe σ vs) env σ := Sub.wipe vs
  have Sw0 : SR k g (wipeE vs env) st (L2.wipe σ vs) H := (S.wipe vs).1
  have lw : (wipeE vs env).length = (L2.wipe σ vs).length := Sw0.len
  obtain ⟨Sw, xw, nw⟩ := Sw0.skip (o := .dK []) hD
  have r0 : RepE k (g) [] ([] : List (Key × V)) := by unfold RepE; rfl
  refine ⟨fun i m H1 => m = xs.length - i ∧ i ≤ xs.length ∧ ∃ g1 st1 acc ws, Ext g (wipeE vs env) st (L2.wipe σ vs) H g1 (wipeE vs env) st1 (L2.wipe σ vs) H1 ∧ SR k g1 (wipeE vs env) st1 (L2.wipe σ vs) H1 ∧
    H1 D = some (.dK ws) ∧ ¬ Trk g1 (wipeE vs env) st1 (L2.wipe σ vs) H1 D ∧ RepE k g1 acc ws ∧ ws.length ≤ i ∧ compD gt fc fk fv (wipeE vs env) (xs.drop i) acc st1 = .ok ys st', ⟨xs.length, by simp, Nat.zero_le _, g, st, [], [], xw, Sw, upd_same, nw, r0, Nat.le_refl _, by simpa using e⟩, ?_⟩
  rintro i m H1 ⟨rfl, hi, g1, st1, acc, ws, x1, S1, hD1, n1, r1, hw, e1⟩
  have it := hJ i g1 st1 H1 x1.le S1
  by_cases hlt : i < xs.length
  · right
    obtain ⟨go, yl⟩ := it.1 xs[i] (by simp [hlt])
    rw [List.drop_eq_getElem_cons hlt] at e1
    refine ⟨go, fun H' => ∃ g2 st2 acc2 ws2, Ext g (wipeE vs env) st (L2.wipe σ vs) H g2 (wipeE vs env) st2 (L2.wipe σ vs) H' ∧ SR k g2 (wipeE vs env) st2 (L2.wipe σ vs) H' ∧
      H' D = some (.dK ws2) ∧ ¬ Trk g2 (wipeE vs env) st2 (L2.wipe σ vs) H' D ∧ RepE k g2 acc2 ws2 ∧ ws2.length ≤ i + 1 ∧ compD gt fc fk fv (wipeE vs env) (xs.drop (i + 1)) acc2 st2 = .ok ys st', fun H' h => ⟨xs.length - (i + 1), by omega, rfl, hlt, h⟩, fun x H' y => ?_⟩
    obtain ⟨g2, gr, rx⟩ := yl x H' y
    unfold compD at e1
    cases hp : Tg.put gt xs[i] (wipeE vs env) with
    | none => rw [hp] at e1; cases e1
    | some env2 =>
      rw [hp] at e1
      simp only at e1
      have S2 := S1.grow gr
      have x2 := x1.trans (Ext.grow S1 gr)
      have nD2 := (Ext.grow S1 gr).keep D _ hD1 n1
      refine hg xs[i] _ env2 hp g2 st1 (L2.wipe σ vs) H' x _ S2 rx fun σ2 S3 x3 same l3 => ?_
      have nD3 := x3.keep D _ nD2.1 nD2.2
      have w2 : L2.wipe σ2 vs = L2.wipe σ vs := wipe_eq (by rw [l3, L2.wipe_length]) fun j hj => (same j hj).1
      refine ⟨w2, g2, env2, st1, S3, ?_⟩
      have sb : Sub (wipeE vs env) (L2.wipe σ vs) env2 σ2 := ⟨fun j => by
        by_cases hj : j ∈ vs
        · exact .inr (wipeE_in hj)
        · exact .inl ⟨(same j hj).2.symm, (same j hj).1.symm⟩⟩
      cases ec : fc env2 st1 with
      | bad => rw [ec] at e1; cases e1
      | err c vs' st2 => rw [ec] at e1; cases e1
      | ok bb st2 =>
        rw [ec] at e1
        intro bv H3 g3 x4 S4 rb
        obtain rfl : bb = bv := rb
        have nD4 := x4.keep D _ nD3.1 nD3.2
        cases bb with
        | false =>
          rw [if_neg (by decide)]
          have S5 := S4.part sb lw
          have x5 := (((x2.trans x3).trans x4).trans (Ext.part S4 sb))
          exact ⟨g3, st2, acc, ws, x5, S5, nD4.1, fun z => nD4.2 (z.up sb), RepE.mono (gr.le.trans x4.le) _ _ r1, by omega, e1⟩
        | true =>
          rw [if_pos rfl]
          simp only at e1
          refine ⟨g3, env2, st2, S4, ?_⟩
          cases ek : fk env2 st2 with
          | bad => rw [ek] at e1; cases e1
          | err c vs' st3 => rw [ek] at e1; cases e1
          | ok kt st3 =>
            rw [ek] at e1
            simp only at e1
            intro y H4 g4 x5 S5 ry
            have nD5 := x5.keep D _ nD4.1 nD4.2
            refine ⟨g4, env2, st3, S5, ?_⟩
            cases ev : fv env2 st3 with
            | bad => rw [ev] at e1; cases e1
            | err c vs' st4 => rw [ev] at e1; cases e1
            | ok vt st4 =>
              rw [ev] at e1
              simp only at e1
              intro z H5 g5 x6 S6 rz
              have nD6 := x6.keep D _ nD5.1 nD5.2
              split at e1
              · rename_i hkt
                obtain ⟨kk, rk, rfl⟩ := repK_of (k := k) (g := g4) (H := H4) hkt (.inl ry)
                have S7 := S6.part sb lw
                have x7 := (((((x2.trans x3).trans x4).trans x5).trans x6).trans (Ext.part S6 sb))
                have n7 : ¬ Trk g5 (wipeE vs env) st4 (L2.wipe σ vs) H5 D := fun z => nD6.2 (z.up sb)
                have no : ∀ a, HO.dK ws ≠ .own a := fun a z => by cases z
                have ni : ∀ C dx fs, HO.dK (putK ws kk z) ≠ .ins C dx fs := fun _ _ _ z => by cases z
                obtain ⟨S8, n8⟩ := S7.updU (u := .dK (putK ws kk z)) nD6.1 no ni n7
                have x8 := x7.updU S7 (u := .dK (putK ws kk z)) nD6.1 no ni n7 (fun z => absurd hD z)
                have hl := length_putK ws kk z
                exact ⟨ws, kk, rfl, nD6.1, by rw [sizeLine_eq]; omega, g5, st4, dput kt vt acc, putK ws kk z, x8, S8, upd_same, n8, repE_put rk rz (RepE.mono (((gr.le.trans x4.le).trans x5.le).trans x6.le) _ _ r1), by omega, e1⟩
              · cases e1
  · have ei : i = xs.length := by omega
    subst ei
    left
    rw [List.drop_length] at e1
    cases e1
    obtain ⟨S2, x2⟩ := S.back b x1 S1
    exact ⟨it.2 (Nat.le_refl _), hQ ws g1 H1 x2 S2 hD1 (Trk.back S b x1 S1 hD n1) r1⟩
/-- a new dict -/
theorem dict_tDc {fi : EvI} {gt : Tg} {gT : TG} {fc : EvB} {fk fv : EvT} {vs : List Nat} (hg : GOk k (· ∈ vs) gt gT) {Q : VK} (q : tF k W (dcomp vs fi gt fc fk fv) σ H Q) : tDc (tR k W (rIc k vs) fi) gT (tT k WF fc) (tV k WF fk) (tV k WF fv) vs σ H Q := by
  obtain ⟨g, env, st, S, q⟩ := q
  refine ⟨g, env, st, S, (q.bind (R1 := rIc k vs) m0F).imp fun J H1 ⟨xs, st1, g1, x1, S1, r1, q1⟩ D hD => ?_⟩
  have q1 : After k W (rF k) σ env g1 st1 H1 Q (if xs.length ≤ 100000 then (match compD gt fc fk fv (wipeE vs env) xs [] st1 with
    | .ok kvs st2 => .ok (.dct kvs) st2
    | _ => .bad) else .bad) := q1
  split at q1
  · rename_i hz
    split at q1
    · rename_i ys st2 e
      exact dict_loop hg S1 r1 hD hz e fun ws g' H' x2 S2 hD2 n2 r2 => q1 (.ref D) H' g' x2 S2 ⟨D, ws, rfl, hD, hD2, r2, n2⟩
    · exact q1.elim
  · exact q1.elim
/-! ### given to a name -/
theorem ps_setD {i : Nat} {y : Str} {py : Pos} {kx vx tg iter : Expr} {ifs : List Expr} {scope : Scope} {own : List (Str × Nat)} {pos spos : Pos} {wi : TI} {gt : TG} {tt : TT} {tk tv : TE} (hc : X.calm = true) (hN : X.N.Nodup) (hy : X.N[i]? = some y) (hyl : X.env.scope.names.lookup y = some .local)
    (hsw : swapsWith (.DictComp kx vx [⟨tg, iter, ifs, 0⟩] scope pos) (some (.Name y py)) spos.line X.env = pure true) (hi : PI X tg iter wi) (ok : BlkOk X.N X.env.scope scope own)
    (h1 : ∀ (s : Shared) (H : Hp) (A : Addr) (cl : List (Str × Addr)) (fp : List Addr), PG (X.blk s H scope (compEnvC scope cl A X.env) fp) tg gt)
    (h2 : ∀ (s : Shared) (H : Hp) (A : Addr) (cl : List (Str × Addr)) (fp : List Addr), PTs (X.blk s H scope (compEnvC scope cl A X.env) fp) ifs tt)
    (h3 : ∀ (s : Shared) (H : Hp) (A : Addr) (cl : List (Str × Addr)) (fp : List Addr), PE (X.blk s H scope (compEnvC scope cl A X.env) fp) kx tk)
    (h4 : ∀ (s : Shared) (H : Hp) (A : Addr) (cl : List (Str × Addr)) (fp : List Addr), PE (X.blk s H scope (compEnvC scope cl A X.env) fp) vx tv) (hs : ∀ x, foldedSetIterable iter X.env x = pure x) :
    PS X (.Assign [.Name y py] (.DictComp kx vx [⟨tg, iter, ifs, 0⟩] scope pos) spos) (tAsg (tDc wi gt tt tk tv (own.map (·.2))) (gName i)) := by
  refine ⟨fun pins s σ H E I q0 => ?_⟩
  rw [exec_Assign_Name_used _ _ _ _ hsw]
  refine wpAny_bind (wpAny_standAt (wpAny_bind ?_))
  show wpAny _ X.A (do let _ ← comprehension (.DictComp kx vx [⟨tg, iter, ifs, 0⟩] scope pos) scope X.env (firstIterPos [⟨tg, iter, ifs, 0⟩] pos) newDict false (eval iter X.env) (some (assign (.Name y py) X.env))) _ _ s
  have q0 : tDc wi gt tt tk tv (own.map (·.2)) σ H (fun x H1 => gName i x σ H1 E.nx) := q0
  refine wpAny_bind (thn (dc_core (Qf := fun _ s' => SP X pins E .next s') hc hN I hi ok h1 h2 h3 h4 hs q0 fun L A s' m H' J qd hn f => ?_) fun _ s' z => wpAny_pure (wpAny_pure z))
  show wpAny _ _ (assign (.Name y py) X.env (.ref L)) _ _ _
  refine wpAny_assign_Name (store_ok2 (v := V.ref L) J hN hy (.inl hyl) rfl (fun s2 J2 ⟨a, sb, ha⟩ => ?_) (.inr hyl))
  obtain ⟨f0, f1, f2, f3, f4, f5⟩ := f
  have ne : A ≠ a := by
    rcases ha with z | z
    · rw [z]; exact f1
    · exact fun e => f4 y a z e.symm
  exact ⟨m, hn.sameBut sb ne, fun h3 sb3 => ⟨_, H', J2.turned (t' := s2.toks) (fun b o hb e => (sb3.2 b hb).trans e) f0 f1 f3 f4 f5, qd⟩⟩
theorem swD {kx vx : Expr} {gs : List Comprehension} {scope : Scope} {pos py : Pos} {y : Str} {l : Nat} {env : Env} (hk : env.scope.kind = .function) :
    swapsWith (.DictComp kx vx gs scope pos) (some (.Name y py)) l env = pure (decide (env.scope.names.lookup y = some .local) && (py.line == pos.line && !(scope.names.any fun (n, k) => n == y && (k == .local || k == .cell)))) := by
  have hb : env.blockKind = .function := by unfold Env.blockKind; rw [hk]; rfl
  have e : swapsWith (.DictComp kx vx gs scope pos) (some (.Name y py)) l env = swapsWith (.ListComp kx gs scope pos) (some (.Name y py)) l env := rfl
  rw [e]
  by_cases h : env.scope.names.lookup y = some .local ∧ (py.line == pos.line) = true ∧ (scope.names.any fun (n, k) => n == y && (k == .local || k == .cell)) = false
  · rw [sw_true hk h.1 h.2.1 h.2.2, h.2.1, h.2.2, decide_eq_true h.1]
    rfl
  · rw [sw_false hk h]
    congr 1
    cases e1 : decide (env.scope.names.lookup y = some .local) with
    | false => rfl
    | true =>
      cases e2 : (py.line == pos.line) with
      | false => rfl
      | true =>
        cases e3 : (scope.names.any fun (n, k) => n == y && (k == .local || k == .cell)) with
        | true => rfl
        | false => exact absurd ⟨of_decide_eq_true e1, e2, e3⟩ h
variable {c : Cfg} {n : Nat}
theorem asg_D (S : Snd k n) (C : COk k c X W) {x : Str} {px spos pos : Pos} {i : Nat} {kx vx : Expr} {gs : List Comprehension} {scope : Scope} (hx : c.setSlot x = some i) : PS X (.Assign [.Name x px] (.DictComp kx vx gs scope pos) spos) (tAsg (tV k W (dDc c n kx vx gs scope)) (gName i)) := by
  obtain ⟨h1, h2, h3, _⟩ := setSlot_of C hx
  have nd : X.N.Nodup := by rw [C.hN]; exact C.nd
  unfold dDc
  split
  · rename_i tg it
    split
    · exact psb
    · rename_i h
      have e1 : blkB c.N c.sc scope = true := by cases e : blkB c.N c.sc scope <;> simp_all
      have e2 : isPlain it = true := by cases e : isPlain it <;> simp_all
      split
      · rename_i gt hg
        have Cb := blk_COk C e1
        have p1 := fun s H A cl fp => (dG_ok (Cb s H A cl fp) n tg gt hg).2.1
        have p2 : ∀ (s : Shared) (H : Hp) (A : Addr) (cl : List (Str × Addr)) (fp : List Addr), PTs (X.blk s H scope (compEnvC scope cl A X.env) fp) [] (tT k WF tYes) := fun s H A cl fp => Mp.PTs.imp pts_nil fun σ H Q q => tR_pure (v := true) (fun _ _ _ _ _ _ => rfl) q
        have p3 := fun s H A cl fp => S.E (Cb s H A cl fp) kx
        have p4 := fun s H A cl fp => S.E (Cb s H A cl fp) vx
        have gk : GOk k (· ∈ (ownOf c.N scope.names).map (·.2)) gt (gOf k.K gt) := gok_of gt ((dG_in (c.blk scope) n tg gt hg) _ (blk_in C))
        have hi := s_Ic S C tg it ((ownOf c.N scope.names).map (·.2))
        have sw := swD (kx := kx) (vx := vx) (gs := [⟨tg, it, [], 0⟩]) (scope := scope) (pos := pos) (py := px) (y := x) (l := spos.line) C.kd
        cases hb : (decide (X.env.scope.names.lookup x = some .local) && (px.line == pos.line && !(scope.names.any fun (n, k) => n == x && (k == .local || k == .cell)))) with
        | true =>
          rw [hb] at sw
          have hyl : X.env.scope.names.lookup x = some .local := by
            rw [Bool.and_eq_true] at hb
            exact of_decide_eq_true hb.1
          exact Mp.PS.imp (ps_setD C.calm nd h1 hyl sw hi (blkOk_of C e1) p1 p2 p3 p4 (folded e2)) fun D σ H q => dict_tDc gk (rd_thaw q)
        | false =>
          rw [hb] at sw
          have pe : PE X (.DictComp kx vx [⟨tg, it, [], 0⟩] scope pos) (tF k W (dcomp ((ownOf c.N scope.names).map (·.2)) (pickI (itOwn c ((ownOf c.N scope.names).map (·.2)) it) (dI c n tg it)) gt tYes (dE (c.blk scope) n kx) (dE (c.blk scope) n vx))) :=
            Mp.PE.imp (pe_dc C.calm nd hi (blkOk_of C e1) p1 p2 p3 p4 (folded e2)) fun σ H Q q => dict_tDc gk q
          exact ps_set nd h1 h2 (Mp.PE.thaw pe) sw h3
      · exact psb
  · exact psb
end
end Mp


set_option Elab.async false
set_option linter.all false
set_option maxRecDepth 100000
set_option maxHeartbeats 2000000
/-! Snd3: the soundness of statements, by induction; of a def. -/
namespace Mp
open PySem PySem.Spec PyProof.Rows L2
section
variable {k : Gk} {c : Cfg} {X : Cx} {W : L2.WX} {H00 : Hp}
structure SndS (k : Gk) (n : Nat) : Prop where
  S : ∀ {c : Cfg} {X : Cx} {W : L2.WX}, COk k c X W → ∀ (H00 : Hp) s, PS X s (tSx k W c.fresh H00 (dS c n s))
  SS : ∀ {c : Cfg} {X : Cx} {W : L2.WX}, COk k c X W → ∀ (H00 : Hp) s, PSs X s (tSx k W c.fresh H00 (dSs c n s))
theorem bad_sx {D : L2.Ends} {σ : L2.St} {H : Hp} {fr : Bool} (q : tSx k W fr H00 sBad D σ H) : False := by
  obtain ⟨g, env, st, B, q⟩ := q
  exact q
theorem psx {s : Stmt} {fr : Bool} : PS X s (tSx k W fr H00 sBad) := ⟨fun _ _ _ _ _ _ q => (bad_sx q).elim⟩
theorem pssx {s : List Stmt} {fr : Bool} : PSs X s (tSx k W fr H00 sBad) := ⟨fun _ _ _ _ _ _ q => (bad_sx q).elim⟩
theorem sndS0 : SndS k 0 := ⟨fun C H00 s => by unfold dS; exact psx, fun C H00 s => by unfold dSs; exact pssx⟩
variable {n : Nat}
theorem tR_imp {α β : Type} {R : Rdg α β} {f : Ev α} {σ : L2.St} {H : Hp} {Q Q' : β → Hp → Prop} (h : tR k W R f σ H Q) (i : ∀ v H', Q v H' → Q' v H') : tR k W R f σ H Q' := by
  obtain ⟨g, env, st, S, q⟩ := h
  exact ⟨g, env, st, S, q.imp i⟩
theorem sw_plain {e : Expr} {t : Option Expr} {l : Nat} {env : Env} (h1 : isPlain e = true) (h2 : isComp e = false) : swapsWith e t l env = pure false := by
  cases e <;> first | rfl | (cases h1; done) | (cases h2; done)
/-- name = value -/
theorem asg_V (C : COk k c X W) {x : Str} {px pos : Pos} {i : Nat} {e : Expr} (hx : c.setSlot x = some i) (hp : isPlain e = true) : PS X (.Assign [.Name x px] e pos) (tAsg (tV k W (dE c n e)) (gName i)) := by
  obtain ⟨h1, h2, h3, _⟩ := setSlot_of C hx
  have nd : X.N.Nodup := by rw [C.hN]; exact C.nd
  cases hc : isComp e with
  | false => exact ps_set nd h1 h2 ((snd n).E C e) (sw_plain hp hc) h3
  | true =>
    cases e <;> first | (cases hc; done) | skip
    rename_i elt gs scope p
    cases n with
    | zero => unfold dE; exact psb
    | succ n =>
      unfold dE
      exact Mp.PS.imp (((snd n).L C elt gs scope p).2 x px pos i hx) fun D σ H q => rd_thaw q
theorem asg_F (C : COk k c X W) {x : Str} {px pos : Pos} {i : Nat} {e : Expr} (hx : c.setSlot x = some i) (hp : isPlain e = true) (hf : freshX c e = true) : PS X (.Assign [.Name x px] e pos) (tAsg (tF k W (dE c n e)) (gName i)) := by
  obtain ⟨h1, h2, h3, _⟩ := setSlot_of C hx
  have nd : X.N.Nodup := by rw [C.hN]; exact C.nd
  cases hc : isComp e with
  | false => exact ps_set nd h1 h2 ((snd n).F C e hf) (sw_plain hp hc) h3
  | true =>
    cases e <;> first | (cases hc; done) | skip
    rename_i elt gs scope p
    cases n with
    | zero => unfold dE; exact psb
    | succ n =>
      unfold dE
      exact ((snd n).L C elt gs scope p).2 x px pos i hx
theorem swapped_none {tgs : List Expr} {kk : Nat} {p : Pos} {e : Expr} {env : Env} (h : ∀ es k' p', e ≠ .Tuple es k' p') : swappedStores [.Tuple tgs kk p] e env = pure none := by
  cases e <;> first | rfl | exact absurd rfl (h _ _ _)
theorem swapped_env {x y : Str} {px py p p' : Pos} {kk k' : Nat} {a b : Expr} {env : Env} (k1 : env.kindOf x = some .local) (k2 : env.kindOf y = some .local) (hb' : env.blockKind = .function) (hne : x ≠ y) (hl' : py.line = px.line) (ha : isStar a = false) (hb : isStar b = false)
    (h1 : ([a, b].all (foldedForSure 8)) = false) (h2 : ([a, b].all (constantsAlone 8)) = false) : swappedStores [.Tuple [.Name x px, .Name y py] kk p] (.Tuple [a, b] k' p') env = pure (some [x, y]) := by
  have hp : (Expr.Name x px).pos = px := rfl
  have hd : [x, y].eraseDups.length = 2 := by
    simp [List.eraseDups_cons, Ne.symm hne]
  simp only [List.all_cons, List.all_nil, Bool.and_true] at h1 h2
  unfold swappedStores
  simp [hb', hp, k1, k2, hl', hd, h1, h2]
  intro h
  rcases h with h | h
  · cases a <;> first | (cases ha; done) | (cases h; done)
  · cases b <;> first | (cases hb; done) | (cases h; done)
theorem acc_slot {x : Str} {j : Nat} (hj : accS c x = some j) : c.slot x = some j := by
  unfold accS at hj
  cases h : c.slot x with
  | none => rw [h] at hj; cases hj
  | some i =>
    rw [h] at hj
    simp only at hj
    split at hj
    · exact hj
    · cases hj
theorem assignEach1 {e : Expr} {env : Env} (h : isStar e = false) : (assignEach [e] env).map (·.2) = [assign e env] := by
  rw [each_cons h]
  rfl
theorem ok_addI : OpOk k (pF k) (ipI fun i j => i + j) (fun _ => opAddI) := by
  intro st x y z e g env σ H v w Q S rx ry q
  cases x with
  | int i => cases y with
    | int j => cases e; exact ⟨i, j, rx.int, ry.int, q _ H ⟨g, Grow.refl S, rep_int⟩⟩
    | _ => cases e
  | _ => cases e
theorem ok_subI : OpOk k (pF k) (ipI fun i j => i - j) (fun _ => opSub) := by
  intro st x y z e g env σ H v w Q S rx ry q
  cases x with
  | int i => cases y with
    | int j => cases e; exact ⟨i, j, rx.int, ry.int, q _ H ⟨g, Grow.refl S, rep_int⟩⟩
    | _ => cases e
  | _ => cases e
theorem aug_table (hK : X.K = k.K) {op : Operator} {f : T → T → Option T} (h : augOp op = some f) : ∃ r, PIp X op r ∧ OpOk k (pF k) r fun _ => f := by
  cases op with
  | Add => cases h; exact ⟨_, ip_add, ok_addI⟩
  | Sub => cases h; exact ⟨_, ip_sub, ok_subI⟩
  | _ => cases h
/-- raise C(..) -/
theorem st_raise (C : COk k c X W) {fr : Bool} {x : Str} {ns : List Str} {args : List Expr} {p pos rp : Pos} (hx : c.G.exc.lookup x = some ns) (hg : c.glob x = true) (hl : 3 < c.lvl) (hs : args.any isStar = false) :
    PS X (.Raise (some (.Call (.Name x p) args [] pos)) none rp) (tSx k W fr H00 (sRaise x ns (evL (dEs c n args)))) := by
  obtain ⟨g1, g2⟩ := glob_of C hg
  have R := C.G.rse x ns hx
  obtain ⟨fI, fd, ps, names, mk, r1, r2, r3, F, B, hn, hmk⟩ := R.ok
  have T := R.ex
  rw [← C.hK] at T r1 r2 r3 F B
  have he := pmkG (p := p) (pos := pos) T r1 r2 r3 F (C.room 3 hl) B (passes_call C.tk fun _ _ _ _ z => z.elim) g1 R.at_ ((snd n).Es C args) (by omega) (fun e σ H Q q => by
    subst e
    obtain ⟨g, env, st, S, q⟩ := q
    cases n with
    | zero => unfold dEs at q; exact q.elim
    | succ n => unfold dEs at q; exact q [] H g Ext.refl S (RepL.nil.mpr rfl)) g2 hs
  refine Mp.PS.imp (ps_raise C.calm C.tk he) fun D σ H q => ?_
  have q := tSx.bind (R1 := rL k) q
  refine tR_imp q fun vs H1 ⟨g0, H0, env, st, a, st1, g1', x1, B1, ra, d0, q1⟩ => ?_
  split at q1
  · rename_i hlen
    have ra : RepL k g1' a vs := ra
    have lv := ra.length
    refine ⟨by omega, fun d hd => ?_⟩
    obtain ⟨h1, h2⟩ := hmk vs (by omega)
    obtain ⟨S2, x2, _⟩ := B1.s.skip (o := .xd (mk vs)) hd
    refine q1 _ _ σ _ g1' x2 (B1.ext x2 S2 B1.b) ⟨rfl, d, mk vs, rfl, upd_same, ?_, ?_⟩
    · rw [C.G.xn, h1]; exact hx
    · rw [h2]
      exact (RepL.reverse ra).append (RepL.one rep_str)
  · exact q1.elim
theorem s_S (I : SndS k n) (C : COk k c X W) (s : Stmt) : PS X s (tSx k W c.fresh H00 (dS c (n + 1) s)) := by
  have nd : X.N.Nodup := by rw [C.hN]; exact C.nd
  have bk : X.env.blockKind = .function := by unfold Env.blockKind; rw [C.kd]; rfl
  unfold dS
  split
  · exact st_nx ps_pass
  · exact st_brk ps_break
  · exact st_ct ps_continue
  · exact st_nx ps_doc
  · rename_i o m ap a cp p
    split
    · rename_i j hj
      split
      · rename_i h
        simp only [Bool.and_eq_true, Bool.not_eq_true', beq_iff_eq] at h
        obtain ⟨⟨h1, h2⟩, h3⟩ := h
        subst h1
        have ex : ∃ x px, o = .Name x px ∧ accS c x = some j := by
          unfold accO at hj
          split at hj
          · exact ⟨_, _, rfl, hj⟩
          · cases hj
        obtain ⟨x, px, rfl, hj⟩ := ex
        refine st_sFrz _ (st_app (ps_expr ?_ rfl))
        rw [← C.hK]
        refine pe_bm PySem.F.plainAttrs_list PySem.F.slot_list_append PySem.F.type_list_append mt_append (p_var C (acc_slot hj)) (sx_cons (pa_cons ((snd n).E C a) (sx_nil pa_nil) (star_eq h2))) (hbase := rfl) (hfew := ?_) (hline := by simpa using h3) (hs := star_eq h2) (hplain := rfl)
        rw [star_eq h2]
        rfl
      · exact psx
    · split
      · rename_i h
        simp only [Bool.and_eq_true, Bool.not_eq_true', beq_iff_eq] at h
        obtain ⟨⟨⟨h1, hb⟩, h2⟩, h3⟩ := h
        subst h1
        have few : ((backTo cp (starEach [a] X.env)).all (fun x => !x.1) && (backToKw cp (keywordEach [] X.env)).all (fun x => x.1.isSome) && decide (([a] : List Expr).length + ([] : List Keyword).length + (if ([] : List Keyword).isEmpty then 0 else 1) < 30)) = true := by
          rw [star_eq h2]
          rfl
        split
        · rename_i hl
          rw [Bool.and_eq_true] at hl
          refine st_sFrz _ (st_appN (ps_expr ?_ rfl))
          rw [← C.hK]
          refine pe_bm PySem.F.plainAttrs_list PySem.F.slot_list_append PySem.F.type_list_append mt_append ((snd n).E C o) (pa_cons ((snd n).F C a ?_) pa_nil (star_eq h2)) (hbase := base_of hb) (hfew := few) (hline := by simpa using h3) (hs := star_eq h2) (hplain := rfl)
          cases a <;> first | rfl | (cases hl.1; done)
        · refine st_sFrz _ (st_appS (ps_expr ?_ rfl))
          rw [← C.hK]
          exact pe_bm PySem.F.plainAttrs_list PySem.F.slot_list_append PySem.F.type_list_append mt_append ((snd n).E C o) (pa_cons ((snd n).E C a) pa_nil (star_eq h2)) (hbase := base_of hb) (hfew := few) (hline := by simpa using h3) (hs := star_eq h2) (hplain := rfl)
      · exact st_sFrz _ (st_expr (ps_expr ((snd n).E C _) rfl))
  · rename_i o m ap cp p
    split
    · rename_i h
      simp only [Bool.and_eq_true, beq_iff_eq] at h
      obtain ⟨⟨⟨h1, hb⟩, h3⟩, h4⟩ := h
      subst h1
      refine st_sFrz _ (st_clrS (ps_expr ?_ rfl))
      rw [← C.hK]
      exact pe_bm0 PySem.F.plainAttrs_list PySem.F.slot_list_clear PySem.F.type_list_clear mt_clear ((snd n).E C o) (hbase := base_of hb) (hline := by simpa using h3)
    · exact st_sFrz _ (st_expr (ps_expr ((snd n).E C _) rfl))
  · rename_i e p h0 h1 h2
    split
    · rename_i h
      rw [Bool.and_eq_true] at h
      exact st_sFrz _ (st_expr (ps_expr ((snd n).E C e) (sw_plain h.1 (by simpa using h.2))))
    · exact psx
  · rename_i x p args cp rp
    split
    · rename_i ns hx
      split
      · rename_i h
        simp only [Bool.and_eq_true, decide_eq_true_iff, Bool.not_eq_true'] at h
        exact st_sFrz _ (st_raise C hx h.1.1 h.1.2 h.2)
      · exact psx
    · exact psx
  · rename_i x px f fp e p
    split
    · rename_i hp
      refine st_sFrz _ (st_fld (fun cn fs h1 h2 => C.G.fld cn fs f h1 h2) (ps_fld ((snd n).E C _) ((snd n).E C e) ?_))
      cases e <;> first | rfl | (cases hp; done)
    · exact psx
  · exact st_retN ps_retN
  · rename_i x px p
    split
    · rename_i i hi
      split
      · exact st_retO (ps_ret (p_var C (acc_slot hi)))
      · rename_i hf
        exact st_retP (by simpa using hf) (ps_ret (p_var C (acc_slot hi)))
    · split
      · exact psx
      · rename_i hf
        exact st_retV (by simpa using hf) (ps_ret ((snd n).E C _))
  · rename_i e p h0
    split
    · exact psx
    · rename_i hf
      refine st_sFrz _ ?_
      cases hfr : c.fresh with
      | false => exact st_retV rfl (ps_ret ((snd n).E C e))
      | true =>
        have hx : freshX c e = true := by
          rw [hfr] at hf
          simpa using hf
        exact st_retF rfl (ps_ret ((snd n).F C e hx))
  · rename_i x px kx vx gs scope dp p
    split
    · rename_i i hi
      refine st_sFrz _ (st_asg (gown_of (.name i)) ?_)
      unfold gOf
      exact asg_D (snd n) C hi
    · exact psx
  · rename_i x px e p
    split
    · rename_i i hi
      split
      · rename_i hp
        refine st_sFrz _ ?_
        split
        · rename_i h
          rw [Bool.and_eq_true] at h
          exact st_own (asg_F C hi hp h.2)
        · split
          · rename_i h
            rw [Bool.and_eq_true] at h
            exact st_shr (asg_F C hi hp h.2)
          · refine st_asg (gown_of (.name i)) ?_
            unfold gOf
            exact asg_V C hi hp
      · exact psx
    · exact psx
  · rename_i x px y py kk p a b k' p' q
    split
    · rename_i i j hi hj
      split
      · rename_i h
        simp only [Bool.and_eq_true, Bool.not_eq_true', beq_iff_eq, bne_iff_ne] at h
        obtain ⟨⟨⟨⟨⟨⟨⟨⟨h1, h2⟩, h3⟩, h4⟩, h5⟩, h6⟩, h7⟩, h8⟩, h9⟩ := h
        obtain ⟨a1, a2, a3, _⟩ := setSlot_of C hi
        obtain ⟨b1, b2, b3, _⟩ := setSlot_of C hj
        refine st_sFrz _ ?_
        have l1 : X.env.scope.names.lookup x = some .local := by rw [C.sc]; exact h3
        have l2 : X.env.scope.names.lookup y = some .local := by rw [C.sc]; exact h4
        refine st_par (ps_par C.calm nd a1 b1 h1 l1 l2 ((snd n).Es C [a, b]) (swapped_env l1 l2 bk h2 h5.symm h6 h7 h8 h9) rfl)
      · exact psx
    · exact psx
  · exact psx
  · rename_i tgs kk p e q h00 h0
    split
    · rename_i g hg
      split
      · rename_i h
        rw [Bool.and_eq_true] at h
        obtain ⟨d1, d2, d3⟩ := dG_ok C n _ g hg
        refine st_sFrz _ (st_asg (gown_of g) (ps_asg ((snd n).E C e) d2 ?_ (swapped_none fun es k' p' e' => h0 es k' p' e') (assignEach1 d1)))
        unfold swapsWithSole
        exact sw_plain h.1 (by simpa using h.2)
      · exact psx
    · exact psx
  · rename_i x px i sp e p
    split
    · exact psx
    · rename_i hsl
      have hsl : isSlice i = false := by simpa using hsl
      have sub : ∀ {to ti : TE} {t : TSet}, PE X (.Name x px) to → PE X i ti → PSet X t → PG X (.Subscript (.Name x px) i sp) (gSub to ti t) := fun ho hi hs => pg_sub ho hi hs (by
        intro v
        cases i <;> first | rfl | (cases hsl; done))
      split
      · rename_i j hj
        exact st_sFrz _ (st_put (ps_asg ((snd n).E C e) (sub (p_var C (acc_slot hj)) ((snd n).E C i) set_list) (by cases e <;> rfl) (by cases e <;> rfl) rfl))
      · exact st_ix (ps_asg ((snd n).E C e) (sub ((snd n).E C _) ((snd n).E C i) set_list) (by cases e <;> rfl) (by cases e <;> rfl) rfl)
  · rename_i x px op e p
    split
    · rename_i i f hi hf
      obtain ⟨a1, a2, a3, _⟩ := setSlot_of C hi
      obtain ⟨r, h1, h2⟩ := aug_table (k := k) C.hK hf
      exact st_sFrz _ (st_aug (OpOk.v h2) (ps_aug nd a1 a2 ((snd n).E C e) h1 a3))
    · exact psx
  · exact st_sFrz _ (st_if (ps_if ((snd n).Te C _) (I.SS C H00 _) (I.SS C H00 _)))
  · rename_i tg it body p
    split
    · rename_i g hg
      obtain ⟨d1, d2, d3⟩ := dG_ok C n _ g hg
      split
      · rename_i hp
        exact st_sFrz _ (st_for (gown_of g) (ps_for C.po C.calm ((snd n).I C tg it) d2 (I.SS C H00 _) (folded hp)))
      · exact psx
    · exact psx
  · exact st_while (ps_while C.po ((snd n).Te C _) (I.SS C H00 _)) turns
  · exact psx
theorem s_SS (I : SndS k n) (C : COk k c X W) (s : List Stmt) : PSs X s (tSx k W c.fresh H00 (dSs c (n + 1) s)) := by
  cases s with
  | nil => unfold dSs; exact sts_nx pss_nil
  | cons a s =>
    cases s with
    | nil =>
      unfold dSs
      exact pss_one (I.S C H00 a)
    | cons b s =>
      unfold dSs
      exact sts_seq (pss_cons (I.S C H00 a) (I.SS C H00 _))
theorem sndS : ∀ n, SndS k n
  | 0 => sndS0
  | n + 1 => ⟨fun C H00 s => s_S (sndS n) C s, fun C H00 s => s_SS (sndS n) C s⟩
end
end Mp


set_option Elab.async false
set_option linter.all false
set_option maxRecDepth 100000
set_option maxHeartbeats 2000000
/-! Fn: a def keeps what its body's interpretation tells. -/
namespace Mp
open PySem PySem.Spec PyProof.Rows L2
section
variable {k : Gk} {g g' : Gh} {env env' : En} {st st' : Store} {σ σ' : L2.St} {H H' : Hp}
/-- nothing of one's own but values -/
theorem start_held {ts : List T} {n : Nat} {q : Tk} {a : Addr} (h : Held g (startE n ts) st σ H q a) : Held g [] st [] H q a := by
  have no : ∀ {i : Nat} {s : Slot}, (startE n ts)[i]? = some s → (∃ t, s = .fr t) ∨ s = .no := fun {i s} e => by
    unfold startE at e
    by_cases hi : i < (ts.map Slot.fr).length
    · rw [List.getElem?_append_left hi] at e
      rw [List.getElem?_map] at e
      cases h : ts[i]? with
      | none => rw [h] at e; cases e
      | some t => rw [h] at e; cases e; exact .inl ⟨t, rfl⟩
    · rw [List.getElem?_append_right (by omega), List.getElem?_replicate] at e
      split at e
      · cases e; exact .inr rfl
      · cases e
  cases q with
  | slot i =>
    rcases h with ⟨t, h1, _⟩ | ⟨c, ns, ds, h1, _⟩
    · rcases no h1 with ⟨_, z⟩ | z <;> cases z
    · rcases no h1 with ⟨_, z⟩ | z <;> cases z
  | cell n => exact h
  | fld n j => exact h
  | sfld i j =>
    obtain ⟨c, ns, ds, b, h1, _⟩ := h
    rcases no h1 with ⟨_, z⟩ | z <;> cases z
theorem SR.start (S : SR k g [] st [] H) {N : List Str} {ts : List T} {vs : List V} (r : RepL k g ts vs) (hl : ts.length ≤ N.length) : SR k g (startE N.length ts) st (L2.start N vs) H := by
  have l := r.length
  have no : ∀ {i : Nat} {s : Slot}, (startE N.length ts)[i]? = some s → (∃ t, s = .fr t ∧ ts[i]? = some t) ∨ s = .no := fun {i s} e => by
    unfold startE at e
    by_cases hi : i < (ts.map Slot.fr).length
    · rw [List.getElem?_append_left hi] at e
      rw [List.getElem?_map] at e
      cases h : ts[i]? with
      | none => rw [h] at e; cases e
      | some t => rw [h] at e; cases e; exact .inl ⟨t, rfl, rfl⟩
    · rw [List.getElem?_append_right (by omega), List.getElem?_replicate] at e
      split at e
      · cases e; exact .inr rfl
      · cases e
  refine ⟨S.sub, S.sz, ?_, fun i t e => ?_, fun i t e => ?_, fun i c ns ds e => ?_, S.cell, fun q q' a h1 h2 => S.uniq q q' a (start_held h1) (start_held h2), fun q a h => S.nof q a (start_held h)⟩
  · unfold startE L2.start
    simp [l]
  · rcases no e with ⟨u, z, ht⟩ | z
    · cases z
      obtain ⟨v, h1, h2⟩ := r.get ht
      refine ⟨v, ?_, h2⟩
      unfold L2.start
      have hi : i < vs.length := (List.getElem?_eq_some_iff.mp h1).1
      rw [List.getElem?_append_left (by simpa using hi), List.getElem?_map, h1]
      rfl
    · cases z
  · rcases no e with ⟨_, z, _⟩ | z <;> cases z
  · rcases no e with ⟨_, z, _⟩ | z <;> cases z
theorem Ext.bare {ts : List T} {n : Nat} (x : Ext g (startE n ts) st σ H g' env' st' σ' H') : Ext g [] st [] H g' [] st' [] H' := by
  refine ⟨x.le, fun a o h nt => ?_, x.there⟩
  obtain ⟨h1, n1⟩ := x.keep a o h fun z => nt (by
    rcases z with z | ⟨q, z⟩
    · exact .inl z
    · exact .inr ⟨q, start_held z⟩)
  exact ⟨h1, fun z => n1 (z.up Sub.nil)⟩
theorem Ext.nil (x : Ext g [] st [] H g' env' st' σ' H') : Ext g [] st [] H g' [] st' [] H' := ⟨x.le, fun a o h nt => let ⟨h1, n1⟩ := x.keep a o h nt; ⟨h1, fun z => n1 (z.up Sub.nil)⟩, x.there⟩
/-- what a body tells, the def tells -/
theorem fn_after {fr : Bool} {ts : List T} {n : Nat} {Q : VK} {E : XK} {body : EvS} (q : AfterF k fr g st H Q E (endFn (body (startE n ts) st))) :
    AfterS k (fun cls d _ H' => E cls d H') fr H g (startE n ts) st σ H { nx := fun _ H' => Q .non H', rt := Q } (body (startE n ts) st) := by
  cases e : body (startE n ts) st with
  | bad => rw [e] at q; exact q
  | err c vs env1 st1 =>
    rw [e] at q
    exact fun cls d σ' H' g' x B h => q cls d H' g' x.bare B.s.bare h
  | ok fl env1 st1 =>
    rw [e] at q
    cases fl with
    | nx =>
      intro σ' H' g' x B
      refine q .non H' g' x.bare B.s.bare ?_
      split
      · exact (rep_non : Rep k g' .non .non)
      · exact (rep_non : Rep k g' .non .non)
    | brk => exact q.elim
    | ct => exact q.elim
    | ret t =>
      intro v σ' H' g' x B r
      rcases r with ⟨i, e1, e2⟩ | r
      · -- one's own list is handed out
        obtain ⟨a, e3, ow⟩ := B.s.own i t e1
        rw [e2] at e3
        cases e3
        have held : Held g' env1 st1 σ' H' (.slot i) a := .inl ⟨t, e1, e2⟩
        cases fr with
        | true =>
          refine q _ H' g' x.bare B.s.bare ?_
          rw [if_pos rfl]
          have nt : ¬ Trk g' [] st1 [] H' a := fun z => by
            rcases z with z | ⟨q', z⟩
            · exact z (B.s.nof _ _ held)
            · have := B.s.uniq _ _ _ held (z.up Sub.nil)
              subst this
              rcases z with ⟨t', z, _⟩ | ⟨_, _, _, z, _⟩ <;> cases z
          have h0 : H a = none := B.b i t a e1 e2
          cases t with
          | lst xs => obtain ⟨vs, h1, h2⟩ := ow; exact ⟨a, vs, rfl, h0, h1, h2, nt⟩
          | dct xs => obtain ⟨vs, h1, h2⟩ := ow; exact ⟨a, vs, rfl, h0, h1, h2, nt⟩
          | _ => exact ow.elim
        | false =>
          obtain ⟨g2, S2, x2⟩ := B.s.frzOwn e1
          have hi : i < env1.length := (List.getElem?_eq_some_iff.mp e1).1
          obtain ⟨v', e4, rp⟩ := S2.fr i t (by rw [List.getElem?_set_self hi])
          rw [e2] at e4
          cases e4
          refine q _ H' g2 (x.trans x2).bare S2.bare ?_
          rw [if_neg (by decide)]
          exact rp
      · refine q v H' g' x.bare B.s.bare ?_
        cases fr with
        | true =>
          rw [if_pos rfl] at r ⊢
          cases t with
          | lst xs => obtain ⟨a, vs, h1, h2, h3, h4, n⟩ := r; exact ⟨a, vs, h1, h2, h3, h4, fun z => n (z.up Sub.nil)⟩
          | dct xs => obtain ⟨a, vs, h1, h2, h3, h4, n⟩ := r; exact ⟨a, vs, h1, h2, h3, h4, fun z => n (z.up Sub.nil)⟩
          | _ => exact r
        | false =>
          rw [if_neg (by decide)] at r ⊢
          exact r
end
section
variable {P : Program} {w : World} {K : PySem.W.Frag} {mg : Str → Option Value} {base : Heap} {f : Addr} {fd : FuncData} {x qual : Str} {params : Arguments} {body : List Stmt} {scope : Scope} {dvs : List V} {kws : List (Str × V)}
/-- what a def's configuration must keep -/
def cfgB (N ps : List Str) (scope : Scope) : Bool :=
  (match scope.kind with | .function => true | _ => false) && !scope.isCoroutine && !scope.isGenerator && decide N.Nodup && decide (N.take ps.length = ps) &&
  (ps.all fun x => match scope.names.lookup x with | some .local => true | some .cell => true | _ => false) && (scope.names.all fun y => match y.2 with | .free => false | _ => true) &&
  (N.all fun x => !(x == ("__debug__" : Str)) && !(x == ("__classdict__" : Str)))
theorem fnScope_of {N ps : List Str} (h : cfgB N ps scope = true) : FnScope N ps scope ∧ (N.all fun x => !(x == ("__debug__" : Str)) && !(x == ("__classdict__" : Str))) = true := by
  unfold cfgB at h
  simp only [Bool.and_eq_true, decide_eq_true_eq, Bool.not_eq_true'] at h
  obtain ⟨⟨⟨⟨⟨⟨⟨h1, h2⟩, h3⟩, h4⟩, h5⟩, h6⟩, h7⟩, h8⟩ := h
  refine ⟨⟨?_, h2, h3, h4, h5, fun y hy => ?_, fun y hy => ?_⟩, ?_⟩
  · split at h1
    · assumption
    · cases h1
  · have := List.all_eq_true.mp h6 y hy
    split at this
    · exact .inl (by assumption)
    · exact .inr (by assumption)
    · cases this
  · have := List.all_eq_true.mp h7 y hy
    intro e
    rw [e] at this
    cases this
  · simpa using h8
/-- the code object of the def at f -/
def cdOf (K : PySem.W.Frag) (f : Addr) : Value := match K.lookup f with
  | some ⟨_, _, .func fd, _⟩ => fd.code
  | _ => .none
theorem FunD_okC {CX : CXT} {N ps : List Str} {k : Nat} {sp : Sp} (F : FunD K x qual params body scope dvs kws f fd) (S : FnScope N ps scope) (len : ∀ vs H Q E, sp vs H Q E → vs.length = ps.length)
    (hbody : ∀ (A : Around) (outer : List Env) (s : Shared) (H : Hp) (vs : List V) (Q : VK) (E : XK), Room k (A.deeper (envOfC qual scope s.heap.objs.size f (cdOf K f))) → sp vs H Q E →
      ∃ t, PSs (cxOf CX P w K mg base N qual scope f (cdOf K f) A outer s H E) body t ∧ t { nx := fun _ H' => Q .non H', rt := Q } (L2.start N vs) H) : FnOk P w K mg base CX (k + 1) f fd ps sp := by
  obtain ⟨oc, od, dV, kV, doc, pm, an, cdv, ct, osl, rfl, lk, hcd, _, _⟩ := F.ex
  have e : cdOf K f = cdv := by unfold cdOf; rw [lk]
  rw [e] at hbody
  exact fn_of lk hcd S len fun A outer s H vs Q E hr hsp => hbody A outer s H vs Q E hr hsp
theorem fn_den {k : Gk} (hK : K = k.K) (F : FunD K x qual params body scope dvs kws f fd) {c : Cfg} {N ps : List Str} {j fuel : Nat} (hN : c.N = N) (hc : cfgB N ps scope = true) (hsc : c.sc = scope.names) (hl : c.lvl = j + 1) (G : GenOk k c.G P w K mg base)
    (hlam : ∀ ti q, c.lam = some (ti, q) → q = (envOfC qual scope 0 0 .none).qual ++ "<lambda>" ∧ ∃ cc, cdOf K f = .ref cc ∧ LamX.TabB base mg cc (k.tb q)) :
    FnOk P w K mg base (L2.CX P w) c.lvl f fd ps (spOf k c.fresh (runFn ps.length c.N.length (dSs c fuel body))) := by
  subst hN
  obtain ⟨S, hnm⟩ := fnScope_of hc
  have hpl : ps.length ≤ c.N.length := by have := congrArg List.length S.pre; rw [List.length_take] at this; omega
  rw [hl]
  have len : ∀ vs H Q E, spOf k c.fresh (runFn ps.length c.N.length (dSs c fuel body)) vs H Q E → vs.length = ps.length := by
    rintro vs H Q E ⟨g, st, ts, S0, r, q⟩
    rw [← r.length]
    unfold runFn at q
    split at q
    · assumption
    · exact q.elim
  refine FunD_okC F S len fun A outer s H vs Q E hr hsp => ?_
  obtain ⟨g, st, ts, S0, r, q⟩ := hsp
  have hlen : ts.length = ps.length := by
    unfold runFn at q
    split at q
    · assumption
    · exact q.elim
  have C : COk k c (cxOf (L2.CX P w) P w K mg base c.N qual scope f (cdOf K f) A outer s H E) (fun cls d _ H' => E cls d H') :=
    ⟨hK, rfl, S.nd, hnm, S.kind, hsc.symm, rfl, takes_of rfl rfl rfl rfl, passes_of rfl, fun i hi => hr.mono (by omega), by have := hr.un; show (A.deeper (envOfC qual scope s.heap.objs.size f (cdOf K f))).units + 70 < cLine; omega, fun x h1 h2 => rfl, G, fun ti q h => let ⟨e1, cc, e2, e3⟩ := hlam ti q h; ⟨e1, cc, e2, e3⟩⟩
  refine ⟨_, (sndS fuel).SS C H body, g, startE c.N.length ts, st, ⟨S0.start r (by omega), fun _ h => h, ?_⟩, ?_⟩
  · intro i t a e1 e2
    unfold startE at e1
    by_cases hi : i < (ts.map Slot.fr).length
    · rw [List.getElem?_append_left hi, List.getElem?_map] at e1
      cases h : ts[i]? with
      | none => rw [h] at e1; cases e1
      | some t => rw [h] at e1; cases e1
    · rw [List.getElem?_append_right (by omega), List.getElem?_replicate] at e1
      split at e1 <;> cases e1
  · unfold runFn at q
    rw [if_pos hlen] at q
    exact fn_after q
end
end Mp


set_option Elab.async false
set_option linter.all false
set_option maxRecDepth 100000
set_option maxHeartbeats 2000000
/-! End: tables of defs, the law's end. -/
namespace Mp
open PySem PySem.Spec PyProof.Rows L2
section
variable {P : Program} {w : World} {K : PySem.W.Frag} {mg : Str → Option Value} {base : Heap} {k : Gk}
theorem FnOk.cx {CX CX' : CXT} {j : Nat} {f : Addr} {fd : FuncData} {ps : List Str} {sp : Sp} (F : FnOk P w K mg base CX j f fd ps sp) (h : ∀ outer H s E u s', CX outer H s E u s' → CX' outer H s E u s') : FnOk P w K mg base CX' j f fd ps sp :=
  ⟨F.len, fun A outer s H args us vs Q E hr he hb hv hs => codeAny_mono (F.run A outer s H args us vs Q E hr he hb hv hs) fun r s' q => by
    cases r with
    | error e => exact h _ _ _ _ _ _ q
    | ok fl => cases fl with
      | ret u => exact q
      | _ => exact q⟩
def CXE (P : Program) : CXT := fun outer H s E u s' => ∃ w, L2.CX P w outer H s E u s'
theorem cxe_none {P : Program} (H : Hp) (s : Shared) (e : Value) (s' : Shared) (h : CXE P [] H s (fun _ _ _ => False) e s') : False := by
  obtain ⟨w, _, _, _, _, _, _, _, _, _, _, _, _, z⟩ := h
  exact z
theorem fn_bad {CX : CXT} {j : Nat} {f : Addr} {fd : FuncData} {ps : List Str} {fr : Bool} : FnOk P w K mg base CX j f fd ps (spOf k fr fun _ _ => .bad) :=
  ⟨fun vs H Q E h => by obtain ⟨g, st, ts, _, _, q⟩ := h; exact q.elim, fun A outer s H args us vs Q E _ _ _ _ h => by obtain ⟨g, st, ts, _, _, q⟩ := h; exact q.elim⟩
theorem look_cons {α : Type} {x y : Str} {a b : α} {r : List (Str × α)} (h : List.lookup y ((x, a) :: r) = some b) : (y = x ∧ b = a) ∨ r.lookup y = some b := by
  rw [List.lookup_cons] at h
  cases hy : y == x with
  | true =>
    rw [hy] at h
    cases h
    exact .inl ⟨by simpa using hy, rfl⟩
  | false =>
    rw [hy] at h
    exact .inr h
theorem look_none {α : Type} {x y : Str} {a : α} {r : List (Str × α)} (h : (List.lookup y ((x, a) :: r)).isSome = false) : (r.lookup y).isSome = false := by
  rw [List.lookup_cons] at h
  cases hy : y == x with
  | true => rw [hy] at h; cases h
  | false => rw [hy] at h; exact h
theorem GenOk.cons {G : Genv} (g : GenOk k G P w K mg base) {x : Str} {e : FnE} {f : Addr} {fd : FuncData} (hm : mg x = some (.ref f)) (hk : PySem.W.keepIn K (.ref f) = true) (hb : Binds K fd e.ps []) (F : FnOk P w K mg base (L2.CX P w) e.lvl f fd e.ps (spOf k e.fresh e.fn)) :
    GenOk k { G with fns := (x, e) :: G.fns } P w K mg base := by
  refine ⟨g.consts, fun y e' h => ?_, fun y h1 h2 => g.blt y ?_ h2, g.cls, g.fld, g.mth, g.xn, g.exc, g.rse, g.hof⟩
  · rcases look_cons h with ⟨rfl, rfl⟩ | h
    · exact ⟨f, fd, hm, hk, hb, F⟩
    · exact g.fns y e' h
  · unfold Genv.known at h1 ⊢
    simp only [Bool.or_eq_false_iff] at h1 ⊢
    exact ⟨⟨h1.1.1, look_none h1.1.2⟩, h1.2⟩
theorem GenOk.addCls {G : Genv} (g : GenOk k G P w K mg base) {x : Str} {e : ClsE} {f : Addr} {fd : FuncData} {ps : List Str} (hm : mg x = some (.ref (k.cl x))) (M : Mk K (k.cl x) f) (F : FnOk P w K mg base (L2.CX P w) e.lvl f fd ps (spOf k false e.fn))
    (hs : ∀ sh ∈ e.shp, ∃ gA gV, KBn K fd ps (sh.np + 1) sh.ks gA gV ∧ ∀ (gh : Gh) (x : Addr) ts vs zs ws us, RepL k gh ts vs → RepL k gh zs ws → vs.length = sh.np → ws.length = sh.ks.length → fillT sh.src ts zs = some us → ∃ vs', gV (.ref x :: vs) ws = .ref x :: vs' ∧ RepL k gh us vs') :
    GenOk k { G with cls := (x, e) :: G.cls } P w K mg base := by
  refine ⟨g.consts, g.fns, fun y h1 h2 => g.blt y ?_ h2, fun y e' h => ?_, g.fld, g.mth, g.xn, g.exc, g.rse, g.hof⟩
  · unfold Genv.known at h1 ⊢
    simp only [Bool.or_eq_false_iff] at h1 ⊢
    exact ⟨h1.1, look_none h1.2⟩
  · rcases look_cons h with ⟨rfl, rfl⟩ | h
    · exact ⟨f, fd, ps, hm, M, F, hs⟩
    · exact g.cls y e' h
theorem GenOk.addFld {G : Genv} (g : GenOk k G P w K mg base) {x : Str} {fs : List Str} (hc : Cls K (k.cl x)) (hn : ∀ f, fs.contains f = true → NoAttr K (k.cl x) f) : GenOk k { G with fld := (x, fs) :: G.fld } P w K mg base := by
  refine ⟨g.consts, g.fns, g.blt, g.cls, fun y gs f h h2 => ?_, g.mth, g.xn, g.exc, g.rse, g.hof⟩
  rcases look_cons h with ⟨rfl, rfl⟩ | h
  · exact ⟨hc, hn f h2⟩
  · exact g.fld y gs f h h2
theorem GenOk.addMth {G : Genv} (g : GenOk k G P w K mg base) {m : Str} {ents : List (Str × FnE)} (h : ∀ c e, ents.lookup c = some e → ∃ f fd, Cls K (k.cl c) ∧ Meth K (k.cl c) m f ∧ Binds K fd e.ps [] ∧ FnOk P w K mg base (L2.CX P w) e.lvl f fd e.ps (spOf k e.fresh e.fn)) :
    GenOk k { G with mth := (m, ents) :: G.mth } P w K mg base := by
  refine ⟨g.consts, g.fns, g.blt, g.cls, g.fld, fun y es c e h1 h2 => ?_, g.xn, g.exc, g.rse, g.hof⟩
  rcases look_cons h1 with ⟨rfl, rfl⟩ | h1
  · exact h c e h2
  · exact g.mth y es c e h1 h2
theorem GenOk.addHof {G : Genv} (g : GenOk k G P w K mg base) {x : Str} {e : HofE} (h : HofOk k mg P w base x e) : GenOk k { G with hof := (x, e) :: G.hof } P w K mg base := by
  refine ⟨g.consts, g.fns, g.blt, g.cls, g.fld, g.mth, g.xn, g.exc, g.rse, fun y e' h1 => ?_⟩
  rcases look_cons h1 with ⟨rfl, rfl⟩ | h1
  · exact h
  · exact g.hof y e' h1
theorem gen_base {cs : List (Str × T)} {ex : List (Str × List Str)} (hc : ∀ p ∈ cs, ∃ u v, mg p.1 = some u ∧ RelV v u ∧ ∀ g, Rep k g p.2 v) (hb : ∀ x ∈ bltNames, mg x = none)
    (hx : k.xn = fun c => ex.lookup c) (he : ExcOk k mg) (hr : ∀ c ns, ex.lookup c = some ns → RaiseOk k P w mg base c ns) : GenOk k { consts := cs, fns := [], exc := ex } P w K mg base := by
  refine ⟨fun x t h => ?_, fun x e h => (by cases h), fun x h1 h2 => hb x (by simpa using h2), fun x e h => (by cases h), fun c fs f h => (by cases h), fun m es c e h => (by cases h), hx, he, hr, fun x e h => (by cases h)⟩
  exact hc (x, t) (lookup_mem h)
/-- without exceptions -/
theorem exc_none (h : k.xn = fun _ => none) : ExcOk k mg := ⟨fun c ns e => (by rw [h] at e; cases e), fun c ns e => (by rw [h] at e; cases e), fun c d ns ms e => (by rw [h] at e; cases e)⟩
theorem rep_ints {g : Gh} : ∀ ns : List Int, RepL k g (ns.map T.int) (ns.map V.int)
  | [] => RepL.nil.mpr rfl
  | n :: ns => RepL.cons.mpr ⟨_, _, rfl, rep_int, rep_ints ns⟩
/-- a law's start: the script, the tables of inner code -/
theorem law_sp {fn : FnD} {H : Hp} {a : Addr} {ns : List Int} {qs : List Str} (hK : K = k.K) (hS : SqL K H a (ns.map V.int)) (hq : (qs.map k.tb).Nodup) (ht : ∀ q ∈ qs, H (k.tb q) = some (.tbl #[])) (ha : ∀ q ∈ qs, k.tb q ≠ a)
    (h : ∃ st', fn [.obj 0] (.scr (ns.map T.int) :: qs.map Cell.tab) = .ok (.bl true) st') : spOf k false fn [.ref a] H (fun v _ => v = .bl true) (fun _ _ _ => False) := by
  obtain ⟨st', h⟩ := h
  let st : Store := .scr (ns.map T.int) :: qs.map Cell.tab
  let al : Nat → Addr := fun n => match n with
    | 0 => a
    | n + 1 => (qs.map k.tb).getD n a
  let g : Gh := ⟨fun b => if b = a then H b else none, al, st.length⟩
  have hsub : FSub g.F H := fun b o e => by
    have e : (if b = a then H b else none) = some o := e
    split at e
    · exact e
    · cases e
  have hF : SqL k.K g.F a (ns.map V.int) := by
    rw [← hK]
    have ha : g.F a = H a := if_pos rfl
    rcases hS with (h | ⟨o, h⟩) | h
    · exact .inl (.inl (ha.trans h))
    · exact .inl (.inr ⟨o, ha.trans h⟩)
    · exact .inr h
  have cellq : ∀ {n : Nat} {c : Cell}, (qs.map Cell.tab)[n]? = some c → ∃ q, qs[n]? = some q ∧ c = .tab q ∧ al (n + 1) = k.tb q ∧ q ∈ qs := fun {n c} e => by
    rw [List.getElem?_map] at e
    cases hq : qs[n]? with
    | none => rw [hq] at e; cases e
    | some q =>
      rw [hq] at e
      cases e
      refine ⟨q, rfl, rfl, ?_, List.mem_of_getElem? hq⟩
      show (qs.map k.tb).getD n a = _
      rw [List.getD_eq_getElem?_getD, List.getElem?_map, hq]
      rfl
  have hold : ∀ {q : Tk} {b : Addr}, Held g [] st [] H q b → ∃ n q', q = .cell (n + 1) ∧ qs[n]? = some q' ∧ b = k.tb q' := fun {q b} h => by
    cases q with
    | slot i => rcases h with ⟨t, z, _⟩ | ⟨_, _, _, z, _⟩ <;> cases z
    | cell n =>
      obtain ⟨c, h1, h2, h3⟩ := h
      cases n with
      | zero => cases h1; exact h2.elim
      | succ n =>
        obtain ⟨q', e1, rfl, e3, _⟩ := cellq h1
        exact ⟨n, q', rfl, e1, by rw [← h3, ← e3]⟩
    | fld n j =>
      obtain ⟨c, ns', ds, h1, _⟩ := h
      cases n with
      | zero => cases h1
      | succ n => obtain ⟨_, _, z, _⟩ := cellq h1; cases z
    | sfld i j => obtain ⟨_, _, _, _, z, _⟩ := h; cases z
  refine ⟨g, st, [.obj 0], ⟨hsub, rfl, rfl, fun i t e => (by cases e), fun i t e => (by cases e), fun i c ns ds e => (by cases e), fun n c e => ?_, fun q q' b h1 h2 => ?_, fun q b h => ?_⟩, ?_, ?_⟩
  · cases n with
    | zero => cases e; exact ⟨_, hF, rep_ints ns⟩
    | succ n =>
      obtain ⟨q, e1, rfl, e3, e4⟩ := cellq e
      exact ⟨e3, #[], by rw [show g.α (n + 1) = k.tb q from e3]; exact ht q e4, trivial, fun p cv z => by cases z⟩
  · obtain ⟨n, q1, rfl, e1, rfl⟩ := hold h1
    obtain ⟨m, q2, rfl, e2, e⟩ := hold h2
    have i1 : (qs.map k.tb)[n]? = some (k.tb q1) := by rw [List.getElem?_map, e1]; rfl
    have i2 : (qs.map k.tb)[m]? = some (k.tb q1) := by rw [List.getElem?_map, e2, e]; rfl
    have hn : n < (qs.map k.tb).length := (List.getElem?_eq_some_iff.mp i1).1
    have : n = m := (List.getElem?_inj hn hq).mp (i1.trans i2.symm)
    rw [this]
  · obtain ⟨n, q1, rfl, e1, rfl⟩ := hold h
    exact if_neg (ha q1 (List.mem_of_getElem? e1))
  · refine RepL.cons.mpr ⟨_, [], rfl, ?_, RepL.nil.mpr rfl⟩
    unfold Rep
    exact ⟨rfl, Nat.zero_lt_succ _⟩
  · show match fn [.obj 0] st with | .ok _ _ => _ | .err _ _ _ => _ | .bad => _
    rw [show fn [.obj 0] st = .ok (.bl true) st' from h]
    intro v H' g' x S r
    rw [if_neg (by decide)] at r
    exact r.bl
end
end Mp


set_option Elab.async false
set_option linter.all false
set_option maxRecDepth 100000
set_option maxHeartbeats 2000000
/-! Hd: the head of a law with own exceptions, lambdas. -/
namespace Mp
open PySem PySem.Spec PyProof.Rows L2
/-! ### the part that is looked at -/
def valsAt (g : Addr → Option Obj) (a : Addr) : List Addr := match g a with
  | some ⟨_, _, .dict es _, _⟩ => es.toList.flatMap fun e => He.refV e.val
  | _ => []
def defAt (g : Addr → Option Obj) (a : Addr) : List Addr := match g a with
  | some ⟨_, _, .func fd, _⟩ => He.refV fd.code ++ He.refV fd.defaults
  | _ => []
def glbAt (g : Addr → Option Obj) (a : Addr) : List Addr := match g a with
  | some ⟨_, _, .func fd, _⟩ => a :: (He.refV fd.code ++ He.refV fd.defaults)
  | some ⟨_, _, .cls cd, _⟩ => a :: cd.ns :: (valsAt g cd.ns).flatMap fun m => m :: defAt g m
  | some _ => [a]
  | none => []
def asM (g : Addr → Option Obj) : List Addr := mainGlobals :: cStatics :: (valsAt g mainGlobals).flatMap (glbAt g)
/-! ### facts of exceptions -/
/-- the built-in base -/
inductive TK where
  | V | L | R
def TK.B : TK → String
  | .V => "ValueError"
  | .L => "LookupError"
  | .R => "RuntimeError"
def TK.nw : TK → String
  | .V => "ValueError.__new__"
  | .L => "LookupError.__new__"
  | .R => "RuntimeError.__new__"
def TK.ini : TK → String
  | .V => "ValueError.__init__"
  | .L => "LookupError.__init__"
  | .R => "RuntimeError.__init__"
def TK.tl : TK → List Value
  | .V => tlV
  | .L => tlL
  | .R => tlR
theorem TK.ok : ∀ t : TK, TailOk t.B t.nw t.ini t.tl
  | .V => tail_V
  | .L => tail_L
  | .R => tail_R
theorem TK.refs : ∀ t : TK, refsT t.tl t.tl = true
  | .V => by decide +kernel
  | .L => by decide +kernel
  | .R => by decide +kernel
theorem TK.noref (a : Addr) : ∀ t : TK, t.tl.contains (.ref a) = false
  | .V => rfl
  | .L => rfl
  | .R => rfl
/-- a class over a base of one's own: the parameters behind self -/
structure XcD where
  c : Str
  b : Str
  t : TK
  fs : List Str
def XcD.ns (x : XcD) : List Str := x.fs.reverse ++ [("word" : Str)]
def eqSub (a b : Option Bool) : Bool := decide (a = b)
def eqTy (a b : Option Value) : Bool := decide (a = b)
def clB (K : PySem.W.Frag) (C : Addr) (bm : List Value) (nw : String) : Bool := match K.lookup C with
  | some ⟨.type t, _, .cls cd, sl⟩ => decide (t = "type") && (match sl.toList with
    | [_, _, _, _, some (.builtin n), _] => decide (n = nw) && (decide (cd.mro = .ref C :: bm) && (!cd.hasDel && cd.hasDict))
    | _ => false)
  | _ => false
theorem clB_ok {K : PySem.W.Frag} {C : Addr} {bm : List Value} {nw : String} (h : clB K C bm nw = true) : ∃ nm q N bs sn sub ab col dd k0 k1 k2 k3 k5, K.lookup C = some (excClassObj nm q C N bs bm true sn sub ab col dd k0 k1 k2 k3 k5 nw) := by
  unfold clB at h
  split at h
  · rename_i t dd cd sl e
    rw [Bool.and_eq_true, decide_eq_true_iff] at h
    obtain ⟨rfl, h⟩ := h
    split at h
    · rename_i k0 k1 k2 k3 n k5 es
      simp only [Bool.and_eq_true, decide_eq_true_iff, Bool.not_eq_true'] at h
      obtain ⟨rfl, hm, hd, hh⟩ := h
      obtain ⟨nm, bs, mro, N, qn, hdct, sn, sub, ab, col, del⟩ := cd
      dsimp only at hm hd hh
      subst hm hd hh
      have : sl = #[k0, k1, k2, k3, some (.builtin n), k5] := by
        obtain ⟨l⟩ := sl
        simp only at es
        rw [es]
      subst this
      exact ⟨nm, qn, N, bs, sn, sub, ab, col, dd, k0, k1, k2, k3, k5, e⟩
    · cases h
  · cases h
def xcB (K : PySem.W.Frag) (x : XcD) : Bool :=
  clB K (He.ga K x.c) (.ref (He.ga K x.b) :: x.t.tl) x.t.nw && (He.eqO (PySem.W.nsIn K mainGlobals x.c) (some (some (.ref (He.ga K x.c)))) && (He.eqO (PySem.W.findIn K (.ref (He.ga K x.c)) "__setattr__") (some (some (.builtin "object.__setattr__"))) && (eqSub (PySem.W.subIn K (.ref (He.ga K x.c)) (.type "BaseException")) (some true) &&
  (eqTy (PySem.W.typeIn K (.ref (He.ga K x.c))) (some (.type "type")) && (PySem.W.keepIn K (.ref (He.ga K x.c)) && (xfB K (He.ga K x.c) && (((("word" : Str) :: x.fs).all fun f => He.eqO (PySem.W.findIn K (.ref (He.ga K x.c)) f) (some none)) &&
  (He.eqO (PySem.W.findIn K (.ref (He.ga K x.c)) "__init__") (some (some (.ref (He.ma K (He.ga K x.c) "__init__")))) && eqTy (PySem.W.typeIn K (.ref (He.ma K (He.ga K x.c) "__init__"))) (some (.type "function"))))))))))
structure XcOk (K : PySem.W.Frag) (x : XcD) : Prop where
  at_ : PySem.W.nsIn K mainGlobals x.c = some (some (.ref (He.ga K x.c)))
  lk : ∃ nm q N bs sn sub ab col dd k0 k1 k2 k3 k5, K.lookup (He.ga K x.c) = some (excClassObj nm q (He.ga K x.c) N bs (.ref (He.ga K x.b) :: x.t.tl) true sn sub ab col dd k0 k1 k2 k3 k5 x.t.nw)
  sa : PySem.W.findIn K (.ref (He.ga K x.c)) "__setattr__" = some (some (.builtin "object.__setattr__"))
  exC : PySem.W.subIn K (.ref (He.ga K x.c)) (.type "BaseException") = some true
  tyC : PySem.W.typeIn K (.ref (He.ga K x.c)) = some (.type "type")
  kC : PySem.W.keepIn K (.ref (He.ga K x.c)) = true
  xf : XfC K (He.ga K x.c)
  no : ∀ f ∈ ("word" : Str) :: x.fs, PySem.W.findIn K (.ref (He.ga K x.c)) f = some none
  ini : PySem.W.findIn K (.ref (He.ga K x.c)) "__init__" = some (some (.ref (He.ma K (He.ga K x.c) "__init__")))
  inf : PySem.W.typeIn K (.ref (He.ma K (He.ga K x.c) "__init__")) = some (.type "function")
theorem xcB_ok {K : PySem.W.Frag} {x : XcD} (h : xcB K x = true) : XcOk K x := by
  unfold xcB at h
  simp only [Bool.and_eq_true] at h
  obtain ⟨h1, h2, h3, h4, h5, h6, h7, h8, h9, h10⟩ := h
  exact ⟨He.eqO_ok h2, clB_ok h1, He.eqO_ok h3, of_decide_eq_true h4, of_decide_eq_true h5, h6, xfB_ok h7, fun f hf => He.eqO_ok (List.all_eq_true.mp h8 f hf), He.eqO_ok h9, of_decide_eq_true h10⟩
theorem XcOk.exg {K : PySem.W.Frag} {x : XcD} (h : XcOk K x) : ExG K (He.ga K x.c) := by
  obtain ⟨nm, q, N, bs, sn, sub, ab, col, dd, k0, k1, k2, k3, k5, e⟩ := h.lk
  exact ⟨⟨_, _, _, _, x.t.ok, nm, q, N, bs, _, sn, sub, ab, col, dd, k0, k1, k2, k3, k5, e, x.t.refs⟩, h.sa, h.exC, h.tyC, h.kC⟩
theorem cls_of {K : PySem.W.Frag} {C : Addr} {oc : Value} {od : Option Addr} {cd : ClassData} {sl : Array (Option Value)} (e : K.lookup C = some ⟨oc, od, .cls cd, sl⟩) : PySem.W.clsIn K C = some cd := by
  unfold PySem.W.clsIn
  rw [e]
theorem XcOk.exm {K : PySem.W.Frag} {x y : XcD} (hx : XcOk K x) (hy : XcOk K y) : PySem.W.exmOne K (.ref (He.ga K x.c)) (.ref (He.ga K y.c)) = some ((He.ga K y.c == He.ga K x.c) || (He.ga K y.c == He.ga K x.b)) := by
  obtain ⟨nm, q, N, bs, sn, sub, ab, col, dd, k0, k1, k2, k3, k5, e⟩ := hx.lk
  obtain ⟨nm', q', N', bs', sn', sub', ab', col', dd', k0', k1', k2', k3', k5', e'⟩ := hy.lk
  unfold PySem.W.exmOne
  rw [if_pos (by rw [hy.exC]; rfl)]
  show (if ((PySem.W.clsIn K (He.ga K y.c)).isSome && PySem.W.typeIn K (.ref (He.ga K y.c)) == some (.type "type")) = true then PySem.W.subIn K (.ref (He.ga K x.c)) (.ref (He.ga K y.c)) else none) = _
  rw [cls_of e', hy.tyC, if_pos (by simp)]
  show PySem.W.mroIn K (He.ga K x.c) (.ref (He.ga K y.c)) = _
  unfold PySem.W.mroIn
  rw [cls_of e]
  show (if (Value.ref (He.ga K x.c) :: Value.ref (He.ga K x.b) :: x.t.tl).isEmpty then none else some ((Value.ref (He.ga K x.c) :: Value.ref (He.ga K x.b) :: x.t.tl).contains (.ref (He.ga K y.c)))) = _
  rw [if_neg (by simp), List.contains_cons, List.contains_cons, x.t.noref]
  congr 1
  have r : ∀ a b : Addr, (Value.ref a == Value.ref b) = (a == b) := fun a b => by
    cases h : a == b with
    | true => rw [beq_iff_eq.mp h]; exact beq_self_eq_true _
    | false =>
      refine beq_eq_false_iff_ne.mpr fun z => ?_
      cases z
      simp at h
  rw [r, r, Bool.or_false]
theorem nodup_inj {α β : Type} {f : α → β} : ∀ {l : List α}, (l.map f).Nodup → ∀ {a b : α}, a ∈ l → b ∈ l → f a = f b → a = b
  | [], _, _, _, h, _, _ => by cases h
  | x :: l, h, a, b, ha, hb, e => by
    rw [List.map_cons, List.nodup_cons] at h
    rcases List.mem_cons.mp ha with rfl | ha
    · rcases List.mem_cons.mp hb with rfl | hb
      · rfl
      · exact absurd (List.mem_map.mpr ⟨b, hb, e.symm⟩) h.1
    · rcases List.mem_cons.mp hb with e2 | hb
      · rw [e2] at e
        exact absurd (List.mem_map.mpr ⟨a, ha, e⟩) h.1
      · exact nodup_inj h.2 ha hb e
def ndA : List Addr → Bool
  | [] => true
  | a :: r => (r.all fun b => !(a == b)) && ndA r
theorem ndA_ok : ∀ {l : List Addr}, ndA l = true → l.Nodup
  | [], _ => List.nodup_nil
  | a :: r, h => by
    obtain ⟨h1, h2⟩ := Bool.and_eq_true_iff.mp h
    refine List.nodup_cons.mpr ⟨fun z => ?_, ndA_ok h2⟩
    have := List.all_eq_true.mp h1 a z
    simp at this
/-- the exceptions' table -/
def excT (xs : List XcD) : List (Str × List Str) := xs.map fun x => (x.c, x.ns)
theorem excT_mem {xs : List XcD} {c : Str} {ns : List Str} (h : (excT xs).lookup c = some ns) : ∃ x ∈ xs, x.c = c ∧ x.ns = ns := by
  obtain ⟨x, hx, e⟩ := List.mem_map.mp (lookup_mem h)
  cases e
  exact ⟨x, hx, rfl, rfl⟩
/-- all of them: bs the bases' names -/
def xsB (bs : List Str) (xs : List XcD) (K : PySem.W.Frag) : Bool := (xs.all fun x => xcB K x) && ndA ((bs ++ xs.map (·.c)).map (He.ga K))
theorem exc_ok {K : PySem.W.Frag} {h : Heap} {mg : Str → Option Value} {k : Gk} {bs : List Str} {xs : List XcD} (hK : K = k.K) (hc : k.cl = He.ga K) (hx : k.xn = fun c => (excT xs).lookup c) (X : K.In h) (G : h.Ns mainGlobals mg) (q : xsB bs xs K = true) (hb : ∀ x ∈ xs, x.b ∈ bs) (hd : ∀ x ∈ xs, x.c ∉ bs) : ExcOk k mg := by
  obtain ⟨q1, q2⟩ := Bool.and_eq_true_iff.mp q
  have ok : ∀ x ∈ xs, XcOk K x := fun x hx => xcB_ok (List.all_eq_true.mp q1 x hx)
  subst hK
  refine ⟨fun c ns e => ?_, fun c ns e => ?_, fun c d ns ms e e' => ?_⟩
  · rw [hx] at e
    obtain ⟨x, mx, rfl, rfl⟩ := excT_mem e
    rw [hc]
    refine ⟨(ok x mx).xf, fun f hf => (ok x mx).no f ?_⟩
    unfold XcD.ns at hf
    rcases List.mem_append.mp hf with h | h
    · exact List.mem_cons_of_mem _ (List.mem_reverse.mp h)
    · rcases List.mem_cons.mp h with rfl | h
      · exact List.mem_cons_self
      · cases h
  · rw [hx] at e
    obtain ⟨x, mx, rfl, rfl⟩ := excT_mem e
    rw [hc]
    exact PySem.W.mg_of X G (ok x mx).at_
  · rw [hx] at e e'
    obtain ⟨x, mx, rfl, rfl⟩ := excT_mem e
    obtain ⟨y, my, rfl, rfl⟩ := excT_mem e'
    rw [hc, (ok x mx).exm (ok y my)]
    have nd := ndA_ok q2
    have ix : x.c ∈ bs ++ xs.map (·.c) := List.mem_append_right _ (List.mem_map.mpr ⟨x, mx, rfl⟩)
    have iy : y.c ∈ bs ++ xs.map (·.c) := List.mem_append_right _ (List.mem_map.mpr ⟨y, my, rfl⟩)
    have ib : x.b ∈ bs ++ xs.map (·.c) := List.mem_append_left _ (hb x mx)
    congr 1
    have h2 : (He.ga k.K y.c == He.ga k.K x.b) = false := beq_eq_false_iff_ne.mpr fun z => hd y my (nodup_inj nd iy ib z ▸ hb x mx)
    rw [h2, Bool.or_false]
    by_cases e : x.c = y.c
    · rw [e]; simp
    · have h3 : (He.ga k.K y.c == He.ga k.K x.c) = false := beq_eq_false_iff_ne.mpr fun z => e (nodup_inj nd iy ix z).symm
      rw [h3]
      exact (beq_eq_false_iff_ne.mpr e).symm
/-! ### their __init__ -/
def iniAsg : List Str → List Stmt → Option (List (Str × Pos × Pos × Pos × Pos))
  | [], [] => some []
  | f :: fs, .Assign [.Attribute (.Name s p1) x p2] (.Name y p3) p4 :: r => if s == "self" && (x == f && y == f) then (iniAsg fs r).map ((f, p1, p2, p3, p4) :: ·) else none
  | _, _ => none
theorem iniAsg_ok : ∀ {fs : List Str} {b : List Stmt} {l : List (Str × Pos × Pos × Pos × Pos)}, iniAsg fs b = some l → b = asgsI l ∧ l.map (·.1) = fs := by
  intro fs b
  induction fs, b using iniAsg.induct with
  | case1 => intro l h; cases h; exact ⟨rfl, rfl⟩
  | case2 f fs s p1 x p2 y p3 p4 r hc ih =>
    intro l h
    unfold iniAsg at h
    rw [if_pos hc] at h
    obtain ⟨l', h1, rfl⟩ := Option.map_eq_some_iff.mp h
    obtain ⟨rfl, rfl⟩ := ih h1
    simp only [Bool.and_eq_true, beq_iff_eq] at hc
    obtain ⟨rfl, rfl, rfl⟩ := hc
    exact ⟨rfl, rfl⟩
  | case3 f fs s p1 x p2 y p3 p4 r hc =>
    intro l h
    unfold iniAsg at h
    rw [if_neg hc] at h
    cases h
  | case4 t b h1 h2 =>
    intro l h
    unfold iniAsg at h
    split at h
    · exact (h1 rfl rfl).elim
    · exact (h2 _ _ _ _ _ _ _ _ _ _ rfl rfl).elim
    · cases h
/-- the text of such an __init__ -/
def iniB (B word : Str) (fs : List Str) : List Stmt → Bool
  | .Expr (.Call (.Attribute (.Name x _) m q2) [.Name s _, .Constant (.str z) _ _] [] q5) _ :: r => x == B && (m == "__init__" && (s == "self" && (z == word && (q2.endLine == q5.line && (iniAsg fs r).isSome))))
  | _ => false
theorem iniB_ok {B word : Str} {fs : List Str} {b : List Stmt} (h : iniB B word fs b = true) : ∃ l q1 q2 q3 j q4 q5 q6, b = .Expr (.Call (.Attribute (.Name B q1) "__init__" q2) [.Name "self" q3, .Constant (.str word) j q4] [] q5) q6 :: asgsI l ∧ l.map (·.1) = fs ∧ (q2.endLine == q5.line) = true := by
  unfold iniB at h
  split at h
  · rename_i x q1 m q2 s q3 z j q4 q5 q6 r
    simp only [Bool.and_eq_true, beq_iff_eq] at h
    obtain ⟨rfl, rfl, rfl, rfl, h5, h6⟩ := h
    obtain ⟨l, hl⟩ := Option.isSome_iff_exists.mp h6
    obtain ⟨rfl, h7⟩ := iniAsg_ok hl
    exact ⟨l, q1, q2, q3, j, q4, q5, q6, rfl, h7, by simpa using h5⟩
  · cases h
/-- a base's: self.word = word -/
def basB : List Stmt → Bool
  | [.Assign [.Attribute (.Name s _) w _] (.Name v _) _] => s == "self" && (w == "word" && v == "word")
  | _ => false
theorem basB_ok {b : List Stmt} (h : basB b = true) : ∃ p1 p2 p3 p4, b = [.Assign [.Attribute (.Name "self" p1) "word" p2] (.Name "word" p3) p4] := by
  unfold basB at h
  split at h
  · simp only [Bool.and_eq_true, beq_iff_eq] at h
    obtain ⟨rfl, rfl, rfl⟩ := h
    exact ⟨_, _, _, _, rfl⟩
  · cases h
/-- a class's __init__ among its statements -/
def clsIni (s : Stmt) : Stmt := match s with
  | .ClassDef _ _ _ body _ _ _ _ _ _ _ => (body.find? fun t => match t with
    | .FunctionDef n _ _ _ _ _ _ _ _ _ => n == "__init__"
    | _ => false).getD s
  | _ => s
def bsB (K : PySem.W.Frag) (B : Str) : Bool := He.eqO (PySem.W.nsIn K mainGlobals B) (some (some (.ref (He.ga K B)))) && (PySem.W.readsIn K (He.ga K B) (.type "type") && (He.eqO (PySem.W.specialIn K (.ref (He.ga K B)) "__getattribute__") (some (some (.builtin "type.__getattribute__"))) && ((match PySem.W.findCls K (.ref (He.ga K B)) (.type "type") "__init__" with
  | some (.val (.ref f)) => decide (f = He.ma K (He.ga K B) "__init__")
  | _ => false) && PySem.W.keepIn K (.ref (He.ma K (He.ga K B) "__init__")))))
theorem bsB_ok {K : PySem.W.Frag} {B : Str} (h : bsB K B = true) : PySem.W.nsIn K mainGlobals B = some (some (.ref (He.ga K B))) ∧ InitAt K (He.ga K B) (He.ma K (He.ga K B) "__init__") := by
  unfold bsB at h
  simp only [Bool.and_eq_true] at h
  obtain ⟨h1, h2, h3, h4, h5⟩ := h
  refine ⟨He.eqO_ok h1, ⟨⟨h2, He.eqO_ok h3⟩, ?_, h5⟩⟩
  split at h4
  · rename_i f e
    rw [e, of_decide_eq_true h4]
  · cases h4
theorem fldI_out : ∀ (l : List (Str × Pos × Pos × Pos × Pos)) (ys : List V) (fs : List (Str × V)), ys.length = l.length → (fldI l ys fs).map (·.1) = (l.map (·.1)).reverse ++ fs.map (·.1) ∧ (fldI l ys fs).map (·.2) = ys.reverse ++ fs.map (·.2)
  | [], [], fs, _ => ⟨rfl, rfl⟩
  | [], _ :: _, _, h => by cases h
  | _ :: _, [], _, h => by cases h
  | (x, q) :: l, y :: ys, fs, h => by
    obtain ⟨h1, h2⟩ := fldI_out l ys ((x, y) :: fs) (by simpa using h)
    refine ⟨?_, ?_⟩
    · show (fldI l ys ((x, y) :: fs)).map (·.1) = _
      rw [h1]; simp
    · show (fldI l ys ((x, y) :: fs)).map (·.2) = _
      rw [h2]; simp
section
variable {P : Program} {w : World} {K : PySem.W.Frag} {mg : Str → Option Value} {base : Heap} {h : Heap} {k : Gk}
theorem exc_base {qual : Str} {params : Arguments} {body : List Stmt} {scope : Scope} {dvs : List V} {f : Addr} {fd : FuncData} (F : FunD K "__init__" qual params body scope dvs [] f fd) (hb : basB body = true) (hc : cfgB ["self", "word"] ["self", "word"] scope = true) :
    ∃ mkB, (∀ z, mkB [V.str z] = [(("word" : Str), V.str z)]) ∧ FnOk P w K mg base (L2.CX P w) 1 f fd ["self", "word"] (spI K 1 ["word"] mkB) := by
  obtain ⟨p1, p2, p3, p4, rfl⟩ := basB_ok hb
  exact ⟨_, fun z => rfl, fn_base F (fnScope_of hc).1⟩
theorem raise_of {x : XcD} {qual : Str} {params : Arguments} {body : List Stmt} {scope : Scope} {fd fdB : FuncData} {mkB : List V → List (Str × V)} (hK : K = k.K) (hcl : k.cl = He.ga K) (X : K.In h) (G : h.Ns mainGlobals mg) (hx : XcOk K x) (hb : bsB K x.b = true)
    (F : FunD K "__init__" qual params body scope [] [] (He.ma K (He.ga K x.c) "__init__") fd) (hi : iniB x.b x.c x.fs body = true) (hs : cfgB ("self" :: x.fs) ("self" :: x.fs) scope = true) (hB : (match scope.names.lookup x.b with | some .globalImplicit => !(x.b == ("__debug__" : Str)) | _ => false) = true)
    (hmk : ∀ z, mkB [V.str z] = [(("word" : Str), V.str z)]) (FB : FnOk P w K mg base (L2.CX P w) 1 (He.ma K (He.ga K x.b) "__init__") fdB ["self", "word"] (spI K 1 ["word"] mkB)) (bB : Binds K fdB ["self", "word"] []) (bF : Binds K fd ("self" :: x.fs) []) (hl : x.fs.length ≤ 500) :
    RaiseOk k P w mg base x.c x.ns := by
  obtain ⟨l, q1, q2, q3, j, q4, q5, q6, rfl, hf, hln⟩ := iniB_ok hi
  obtain ⟨S, hn⟩ := fnScope_of hs
  obtain ⟨eB, IB⟩ := bsB_ok hb
  have hBl : scope.names.lookup x.b = some .globalImplicit ∧ (x.b == ("__debug__" : Str)) = false := by
    split at hB
    · exact ⟨by assumption, by simpa using hB⟩
    · cases hB
  have ll : l.length = x.fs.length := by rw [← hf, List.length_map]
  rw [← hf] at S hn bF
  have okx : (l.map (·.1)).all okN = true := by
    refine List.all_eq_true.mpr fun y hy => ?_
    have := List.all_eq_true.mp hn y (List.mem_cons_of_mem _ hy)
    exact this
  have FI := fn_init (P := P) (w := w) (base := base) (dvs := []) F S hBl.1 hBl.2 (PySem.W.mg_of X G eB) IB FB (hmk x.c) bB okx (by omega) hln
  subst hK
  have hns : x.ns.length = x.fs.length + 1 := by unfold XcD.ns; simp
  refine ⟨by rw [hcl]; exact hx.exg, by rw [hcl]; exact PySem.W.mg_of X G hx.at_, _, fd, _, ("word" : Str) :: l.map (·.1), mkI x.c l, by rw [hcl]; exact hx.ini, hx.inf, fun y hy => ?_, ?_, bF, by omega, fun ys hy => ?_⟩
  · rw [hcl]; exact hx.no y (by rw [← hf]; exact hy)
  · rw [hns, Nat.add_sub_cancel, ← ll]; exact FI
  · obtain ⟨h1, h2⟩ := fldI_out l ys [("word", V.str x.c)] (by omega)
    refine ⟨?_, h2⟩
    show (fldI l ys [("word", V.str x.c)]).map (·.1) = _
    rw [h1, hf]
    rfl
end
end Mp
namespace Mp
open PySem PySem.Spec PyProof.Rows L2
/-! ### the Hook -/
/-- what a head is asked: facts, defs, the defs with inner code, the exceptions' bases, the exceptions -/
structure HdF where
  fa : List He.Fa
  fn : List He.DefD
  tf : List He.Defn
  bs : List Str
  xs : List XcD
def noneB (K : PySem.W.Frag) (a : Addr) : Bool := match K.lookup a with
  | none => true
  | some _ => false
def tabsM (g : Addr → Option Obj) (tf : List He.Defn) (K : PySem.W.Frag) : Bool := ndA (tf.map fun p => (He.cT K p).2) && tf.all fun p => PySem.W.codeHdIn K (He.cT K p).1 (He.cT K p).2 && ((match g (He.cT K p).2 with
  | some o => He.emptyTab o
  | none => false) && noneB K (He.cT K p).2)
def obsK (q : HdF) (g : Addr → Option Obj) (K : PySem.W.Frag) : He.AlD :=
  ((q.fa.all fun f => f.ok K) && ((q.fn.all fun d => d.ok K) && (xsB q.bs q.xs K && ((q.bs.all fun b => bsB K b) && tabsM g q.tf K))), q.fn.map fun d => He.fnW K d.at_)
def obsM (q : HdF) (g : Addr → Option Obj) : He.AlD := obsK q g (He.frG g (asM g))
structure SaysM (q : HdF) (h : Heap) (K : PySem.W.Frag) : Prop where
  d : He.SaysD q.fa q.fn K
  xs : xsB q.bs q.xs K = true
  bs : ∀ b ∈ q.bs, bsB K b = true
  nd : (q.tf.map fun p => (He.cT K p).2).Nodup
  hd : ∀ p ∈ q.tf, PySem.W.codeHdIn K (He.cT K p).1 (He.cT K p).2 = true
  out : ∀ p ∈ q.tf, K.lookup (He.cT K p).2 = none
  empty : ∀ p ∈ q.tf, h.get? (He.cT K p).2 = some { cls := .none, data := .fields #[] }
theorem saysM_of {q : HdF} {h : Heap} {K : PySem.W.Frag} (e : obsK q h.get? K = He.valD q.fn) : SaysM q h K := by
  have e1 : ((q.fa.all fun f => f.ok K) && ((q.fn.all fun d => d.ok K) && (xsB q.bs q.xs K && ((q.bs.all fun b => bsB K b) && tabsM h.get? q.tf K)))) = true := congrArg (fun z : He.AlD => z.1) e
  have e2 : q.fn.map (fun d => He.fnW K d.at_) = q.fn.map He.DefD.val := congrArg (fun z : He.AlD => z.2) e
  simp only [Bool.and_eq_true] at e1
  obtain ⟨a1, a2, a3, a4, a5⟩ := e1
  unfold tabsM at a5
  rw [Bool.and_eq_true] at a5
  obtain ⟨b1, b2⟩ := a5
  have key : ∀ p ∈ q.tf, PySem.W.codeHdIn K (He.cT K p).1 (He.cT K p).2 = true ∧ (∃ o, h.get? (He.cT K p).2 = some o ∧ He.emptyTab o = true) ∧ K.lookup (He.cT K p).2 = none := fun p hp => by
    have := List.all_eq_true.mp b2 p hp
    simp only [Bool.and_eq_true] at this
    obtain ⟨h3, h4, h5⟩ := this
    refine ⟨h3, ?_, ?_⟩
    · split at h4
      · exact ⟨_, by assumption, h4⟩
      · cases h4
    · unfold noneB at h5
      split at h5
      · assumption
      · cases h5
  refine ⟨?_, a3, fun b hb => List.all_eq_true.mp a4 b hb, ndA_ok b1, fun p hp => (key p hp).1, fun p hp => (key p hp).2.2, fun p hp => ?_⟩
  · show He.obsD q.fa q.fn K = He.valD q.fn
    unfold He.obsD He.valD
    rw [e2, a1, a2]
    rfl
  · obtain ⟨o, e, z⟩ := (key p hp).2.1
    rw [e, He.emptyTab_eq z]
def hookM (q : HdF) : PySem.W.Hook where
  α := He.AlD
  obs := fun s => obsM q s.heap.get?
  val := fun _ => He.valD q.fn
  says := fun _ h => ∃ K : PySem.W.Frag, K.In h ∧ SaysM q h K
  of := fun _ _ e => ⟨_, He.frG_in, saysM_of e⟩
  keeps := fun _ _ _ ⟨K, hK, c⟩ k => ⟨K, PySem.W.Frag.In.keeps hK k, ⟨c.d, c.xs, c.bs, c.nd, c.hd, c.out, fun p hp => k _ _ (c.empty p hp)⟩⟩
theorem obsM_eq {q : HdF} {g : Addr → Option Obj} {s : Shared} (h : ∀ a, g a = s.heap.get? a) : obsM q g = (hookM q).obs s := by
  have e : g = s.heap.get? := funext h
  rw [e] <;> rfl
/-- a law's def behind the top -/
theorem law_at {l : PySem.W.OpenLaw} {w : World} {K : PySem.W.Frag} {k : Gk} {n lvl : Nat} {x : Str} {mg : Str → Option Value} {fa : Addr} {h : Heap} {q : HdF} {qs : List Str} {fd : FuncData} {fn : FnD} (c : SaysM q h K) (X : K.In h) (hK : K = k.K)
    (hq : qs.map k.tb = q.tf.map fun p => (He.cT K p).2) (hb : ∀ (s : Shared) (u : Value), BindsTo s fd ⟨[u], []⟩ [(x, u)])
    (plain : ∀ ns : List Int, ns.length ≤ n → (∀ z ∈ ns, Builtin.Int.intBits z ≤ 1048576) → ∃ st', fn [.obj 0] (.scr (ns.map T.int) :: qs.map Cell.tab) = .ok (.bl true) st')
    (F : ∀ base : Heap, K.In base → base.Ns mainGlobals mg → (∀ p ∈ q.tf, LamX.TabB base mg (He.cT K p).1 (He.cT K p).2) → FnOk l.prog w K mg base (CXE l.prog) lvl fa fd [x] (spOf k false fn)) :
    LamX.LawAtS l w K (CXE l.prog) lvl n x mg fa h := by
  have mem : ∀ z ∈ q.tf.map (He.cT K), ∃ p ∈ q.tf, He.cT K p = z := fun z hz => List.mem_map.mp hz
  refine ⟨fd, q.tf.map (He.cT K), spOf k false fn, fun z hz => ?_, fun z hz => ?_, fun z hz => ?_, hb, fun H a ns hl hbits hH hS => ?_, fun base h1 h2 h3 => F base h1 h2 fun p hp => h3 _ (List.mem_map.mpr ⟨p, hp, rfl⟩)⟩
  · obtain ⟨p, hp, rfl⟩ := mem z hz; exact c.empty p hp
  · obtain ⟨p, hp, rfl⟩ := mem z hz; exact c.out p hp
  · obtain ⟨p, hp, rfl⟩ := mem z hz; exact PySem.W.codeHd_of_K X (c.hd p hp)
  · have hm : ∀ q' ∈ qs, ∃ p ∈ q.tf, k.tb q' = (He.cT K p).2 := fun q' hq' => by
      have : k.tb q' ∈ q.tf.map fun p => (He.cT K p).2 := by rw [← hq]; exact List.mem_map.mpr ⟨q', hq', rfl⟩
      obtain ⟨p, hp, e⟩ := List.mem_map.mp this
      exact ⟨p, hp, e.symm⟩
    have ht : ∀ q' ∈ qs, H (k.tb q') = some (.tbl #[]) := fun q' hq' => by
      obtain ⟨p, hp, e⟩ := hm q' hq'
      rw [e]
      exact hH _ (List.mem_map.mpr ⟨p, hp, rfl⟩)
    refine law_sp hK hS (by rw [hq]; exact c.nd) ht (fun q' hq' z => ?_) (plain ns hl hbits)
    have e := ht q' hq'
    obtain ⟨p, hp, e2⟩ := hm q' hq'
    have no := c.out p hp
    rw [← e2, z] at no
    rw [z] at e
    rcases hS with (h | ⟨o, h⟩) | h
    · rw [e] at h; cases h
    · rw [e] at h; cases h
    · obtain ⟨_, _, _, h, _⟩ := h
      rw [no] at h
      cases h
end Mp
namespace Mp
open PySem PySem.Spec PyProof.Rows L2
/-- what a head leans on -/
structure Hyp (q : HdF) (qs : List Str) (k : Gk) (K : PySem.W.Frag) (h : Heap) (mg : Str → Option Value) (base : Heap) : Prop where
  hK : K = k.K
  cl : k.cl = He.ga K
  xn : k.xn = fun c => (excT q.xs).lookup c
  X : K.In h
  G : h.Ns mainGlobals mg
  c : SaysM q h K
  tq : qs.map k.tb = q.tf.map fun p => (He.cT K p).2
  tb : ∀ p ∈ q.tf, LamX.TabB base mg (He.cT K p).1 (He.cT K p).2
section
variable {P : Program} {w : World} {q : HdF} {qs : List Str} {k : Gk} {K : PySem.W.Frag} {h : Heap} {mg : Str → Option Value} {base : Heap}
theorem Hyp.exc (y : Hyp q qs k K h mg base) (hb : (q.xs.all fun x => q.bs.contains x.b && !q.bs.contains x.c) = true) : ExcOk k mg := by
  refine exc_ok y.hK y.cl y.xn y.X y.G y.c.xs (fun x hx => ?_) fun x hx => ?_
  · have := List.all_eq_true.mp hb x hx
    rw [Bool.and_eq_true] at this
    simpa using this.1
  · have := List.all_eq_true.mp hb x hx
    rw [Bool.and_eq_true] at this
    simpa using this.2
theorem Hyp.xc (y : Hyp q qs k K h mg base) {x : XcD} (hx : x ∈ q.xs) : XcOk K x := xcB_ok (List.all_eq_true.mp (Bool.and_eq_true_iff.mp y.c.xs).1 x hx)
theorem Hyp.glo (y : Hyp q qs k K h mg base) (i : Nat) {x : Str} (e : q.fa[i]? = some (.glo x)) : mg x = some (.ref (He.ga K x)) := He.glo_ok y.X y.G (y.c.d.fact i e)
theorem Hyp.free (y : Hyp q qs k K h mg base) (i : Nat) {x : Str} (e : q.fa[i]? = some (.free x)) : mg x = none := He.free_ok y.X y.G (y.c.d.fact i e)
theorem Hyp.tbq (y : Hyp q qs k K h mg base) {i : Nat} {p : He.Defn} {s : Str} (e1 : q.tf[i]? = some p) (e2 : qs[i]? = some s) : k.tb s = (He.cT K p).2 := by
  have e : (qs.map k.tb)[i]? = (q.tf.map fun p => (He.cT K p).2)[i]? := by rw [y.tq]
  rw [List.getElem?_map, List.getElem?_map, e1, e2] at e
  exact Option.some.inj e
theorem Hyp.lam (y : Hyp q qs k K h mg base) {i : Nat} {p : He.Defn} {s x qual : Str} {params : Arguments} {body : List Stmt} {scope : Scope} {dvs : List V} {kws : List (Str × V)} {fd : FuncData} (F : FunD K x qual params body scope dvs kws (He.fAd K p) fd) (e1 : q.tf[i]? = some p) (e2 : qs[i]? = some s)
    (hs : s = (envOfC qual scope 0 0 .none).qual ++ "<lambda>") {t0 : Nat} {l : Option (Nat × Str)} (hl : l = some (t0, s)) : ∀ ti q', l = some (ti, q') → q' = (envOfC qual scope 0 0 .none).qual ++ "<lambda>" ∧ ∃ cc, cdOf K (He.fAd K p) = .ref cc ∧ LamX.TabB base mg cc (k.tb q') := by
  intro ti q' e
  rw [hl] at e
  cases e
  refine ⟨hs, He.codeOf K p, ?_, ?_⟩
  · obtain ⟨oc, od, dV, kV, doc, pm, an, cdv, ct, osl, rfl, lk, hcd, _, _⟩ := F.ex
    obtain ⟨cc, rfl⟩ := He.codeIn_ref hcd
    rw [He.codeOf_eq lk rfl]
    unfold cdOf
    rw [lk]
  · rw [y.tbq e1 e2]
    exact y.tb p (List.mem_of_getElem? e1)
theorem no_lam {α : Prop} {l : Option (Nat × Str)} (h : l = none) (ti : Nat) (q' : Str) (e : l = some (ti, q')) : α := by rw [h] at e; cases e
/-- a base's __init__ takes two -/
theorem bind_base {qual : Str} {params : Arguments} {body : List Stmt} {scope : Scope} {v : V} {f : Addr} {fd : FuncData} (F : FunD K "__init__" qual params body scope [v] [] f fd)
    (hh : ∀ (T : Addr) (kV doc pm : Value) (an : Option Addr) (cdv ct : Value) (us its : List Value), us.length = 2 → its.length = 1 →
      ∃ k, bindArgs (PySem.W.fnOf "__init__" qual params body scope (.ref T) kV doc pm an cdv ct) ⟨us, []⟩ = seqItems? (.ref T) >>= k ∧ k (some its.toArray) = pure ((["self", "word"] : List Str).zip (us ++ its.drop 1))) : Binds K fd ["self", "word"] [] := by
  obtain ⟨ds, hv, hb⟩ := F.binds1 (ps := ["self", "word"]) 2 1 (List.cons_ne_nil _ _) rfl hh
  cases hv
  exact hb
/-- a def that tells what it caught -/
def hsB (ex : List (Str × List Str)) (sg : Scope) (hs : List HdD) : Bool := hs.all fun h => decide (h.cs.length ≤ 1000) && (decide (h.fs.length ≤ 1000) && h.cs.all fun c => (ex.lookup c).isSome && ((match sg.names.lookup c with
  | some .globalImplicit => true
  | _ => false) && !(c == ("__debug__" : Str))))
theorem trd_of {x qual act n w0 : Str} {params : Arguments} {body : List Stmt} {sg : Scope} {hs : List HdD} {g : Addr} {fd : FuncData} (y : Hyp q qs k K h mg base) (F : FunD K x qual params body sg [] [] g fd) (hc : cfgB [act, n] [act] sg = true) (hb : triedOf act n body = some (w0, hs)) (hh : hsB (excT q.xs) sg hs = true) (B : Binds K fd [act] [])
    (hl : (match sg.names.lookup n with | some .local => true | _ => false) = true) : TrD k mg g fd x act n w0 hs body sg := by
  obtain ⟨S, hn⟩ := fnScope_of hc
  have hk := y.hK
  subst hk
  refine ⟨⟨qual, params, F⟩, S, ?_, ⟨?_, ?_⟩, hb, fun z hz => ?_, B⟩
  · split at hl
    · assumption
    · cases hl
  · exact List.all_eq_true.mp hn act (by simp)
  · exact List.all_eq_true.mp hn n (by simp)
  · have := List.all_eq_true.mp hh z hz
    simp only [Bool.and_eq_true, decide_eq_true_iff] at this
    obtain ⟨h1, h2, h3⟩ := this
    refine ⟨⟨h1, h2⟩, fun c hc => ?_⟩
    have := List.all_eq_true.mp h3 c hc
    simp only [Bool.and_eq_true] at this
    obtain ⟨h4, h5, h6⟩ := this
    refine ⟨?_, ?_, by simpa using h6⟩
    · rw [y.xn]
      exact Option.isSome_iff_exists.mp h4
    · split at h5
      · assumption
      · cases h5
theorem isd_of {x qual act due l t : Str} {params : Arguments} {body : List Stmt} {sg : Scope} {g : Addr} {fd : FuncData} (y : Hyp q qs k K h mg base) (F : FunD K x qual params body sg [] [] g fd) (hc : cfgB [act, due] [act, due] sg = true) (hb : isOf act due body = some (l, t)) (B : Binds K fd [act, due] [])
    (hl : ((match sg.names.lookup l with | some .globalImplicit => !(l == ("__debug__" : Str)) | _ => false) && (match sg.names.lookup t with | some .globalImplicit => !(t == ("__debug__" : Str)) | _ => false)) = true) : IsD k mg g fd x act due l t body sg := by
  obtain ⟨S, hn⟩ := fnScope_of hc
  have hk := y.hK
  subst hk
  rw [Bool.and_eq_true] at hl
  refine ⟨⟨qual, params, F⟩, S, ⟨?_, ?_⟩, hb, ?_, ?_, B⟩
  · exact List.all_eq_true.mp hn act (by simp)
  · exact List.all_eq_true.mp hn due (by simp)
  · have := hl.1
    split at this
    · exact ⟨by assumption, by simpa using this⟩
    · cases this
  · have := hl.2
    split at this
    · exact ⟨by assumption, by simpa using this⟩
    · cases this
end
end Mp


set_option Elab.async false
set_option linter.all false
set_option maxRecDepth 100000
set_option maxHeartbeats 2000000
/-! Mkc: the head of a class of the program's own. -/
namespace Mp
open PySem PySem.Spec PyProof.Rows L2
/-- a class's def among its statements -/
def clsDef (m : Str) (s : Stmt) : Stmt := match s with
  | .ClassDef _ _ _ body _ _ _ _ _ _ _ => (body.find? fun t => match t with
    | .FunctionDef n _ _ _ _ _ _ _ _ _ => n == m
    | _ => false).getD s
  | _ => s
section
variable {K : PySem.W.Frag} {x qual : Str} {params : Arguments} {body : List Stmt} {scope : Scope} {f : Addr} {fd : FuncData} {ps : List Str} {k : Gk}
/-- called by place, then by keyword, in the order of the parameters -/
theorem kbindsF (F : FunD K x qual params body scope [] [] f fd) (n : Nat) (ks : List Str)
    (h : ∀ (kV doc pm : Value) (an : Option Addr) (cdv ct : Value) (us ws : List Value), us.length = n → ws.length = ks.length →
      bindArgs (PySem.W.fnOf x qual params body scope .none kV doc pm an cdv ct) ⟨us, ks.zip ws⟩ = pure (ps.zip (us ++ ws))) :
    KBn K fd ps n ks (fun us ws => us ++ ws) (fun vs zs => vs ++ zs) := by
  obtain ⟨oc, od, dV, kV, doc, pm, an, cdv, ct, osl, rfl, lk, hcd, hD, hK⟩ := F.ex
  rcases hD with ⟨_, rfl⟩ | ⟨e, _⟩
  · exact ⟨fun s us ws X l1 l2 => BindsTo.of_looks fun M => PySem.W.Looks.of_pure (h kV doc pm an cdv ct us ws l1 l2), fun r1 r2 => r1.append r2⟩
  · exact absurd rfl e
theorem RepL.app {gh : Gh} : ∀ {ts : List T} {vs : List V} {zs : List T} {ws : List V}, RepL k gh ts vs → RepL k gh zs ws → RepL k gh (ts ++ zs) (vs ++ ws)
  | _, _, _, _, r1, r2 => r1.append r2
/-- one such way to call -/
theorem shp_of {sh : Shp} (hf : ∀ ts zs : List T, ts.length = sh.np → zs.length = sh.ks.length → fillT sh.src ts zs = some (ts ++ zs)) (B : KBn K fd ps (sh.np + 1) sh.ks (fun us ws => us ++ ws) (fun vs zs => vs ++ zs)) :
    ∃ gA gV, KBn K fd ps (sh.np + 1) sh.ks gA gV ∧ ∀ (gh : Gh) (x : Addr) ts vs zs ws us, RepL k gh ts vs → RepL k gh zs ws → vs.length = sh.np → ws.length = sh.ks.length → fillT sh.src ts zs = some us → ∃ vs', gV (.ref x :: vs) ws = .ref x :: vs' ∧ RepL k gh us vs' := by
  refine ⟨_, _, B, fun gh x ts vs zs ws us r1 r2 l1 l2 e => ?_⟩
  rw [hf ts zs (by rw [r1.length, l1]) (by rw [r2.length, l2])] at e
  cases e
  exact ⟨vs ++ ws, rfl, r1.append r2⟩
end
theorem mth_one {P : Program} {w : World} {K : PySem.W.Frag} {mg : Str → Option Value} {base : Heap} {k : Gk} {C m : Str} {e : FnE} {f : Addr} {fd : FuncData} (h1 : Cls K (k.cl C)) (h2 : Meth K (k.cl C) m f) (h3 : Binds K fd e.ps []) (h4 : FnOk P w K mg base (L2.CX P w) e.lvl f fd e.ps (spOf k e.fresh e.fn)) :
    ∀ c e', List.lookup c [(C, e)] = some e' → ∃ f fd, Cls K (k.cl c) ∧ Meth K (k.cl c) m f ∧ Binds K fd e'.ps [] ∧ FnOk P w K mg base (L2.CX P w) e'.lvl f fd e'.ps (spOf k e'.fresh e'.fn) := by
  intro c e' h
  rcases look_cons h with ⟨rfl, rfl⟩ | h
  · exact ⟨f, fd, h1, h2, h3, h4⟩
  · cases h
end Mp


set_option Elab.async false
set_option linter.all false
set_option maxRecDepth 100000
set_option maxHeartbeats 0
namespace K02
open PySem PySem.Spec PyProof.Rows L2 Mp
def top (i : Nat) : Stmt := PySem.Challenge.pw_tearboard_k02_books_looked_at.main.body.getD i (.Pass ⟨0, 0, 0, 0⟩)
def consts : List (Str × T) := [("MOST_PADS", (.int 6)), ("MOST_COLOURS", (.int 4)), ("MOST_FIGURES", (.int 12)), ("MOST_DEPTH", (.int 3))]
def x_BadColours : XcD := ⟨"BadColours", "TearError", .V, ["at"]⟩
def x_BadFigure : XcD := ⟨"BadFigure", "TearError", .V, ["at"]⟩
def x_Meeting : XcD := ⟨"Meeting", "TearError", .V, ["one", "other"]⟩
def x_TooMany : XcD := ⟨"TooMany", "TearError", .V, ["most"]⟩
def x_TooFar : XcD := ⟨"TooFar", "TearError", .V, ["most"]⟩
def x_BadOrder : XcD := ⟨"BadOrder", "TearError", .V, []⟩
def x_OtherColours : XcD := ⟨"OtherColours", "TearError", .V, []⟩
def x_OtherBook : XcD := ⟨"OtherBook", "TearError", .V, []⟩
def x_BadRow : XcD := ⟨"BadRow", "TearError", .V, ["at"]⟩
def x_BadNote : XcD := ⟨"BadNote", "TearError", .V, ["note"]⟩
def x_BadBeneath : XcD := ⟨"BadBeneath", "TearError", .V, []⟩
def x_Full : XcD := ⟨"Full", "TearError", .V, ["pad"]⟩
def x_NoEnd : XcD := ⟨"NoEnd", "TearError", .V, ["pad"]⟩
def x_NotStanding : XcD := ⟨"NotStanding", "TearError", .V, ["figure"]⟩
def x_NeverClear : XcD := ⟨"NeverClear", "TearError", .V, ["pad"]⟩
def x_BadDeed : XcD := ⟨"BadDeed", "TearError", .V, []⟩
def x_BadNumber : XcD := ⟨"BadNumber", "TearError", .V, ["number"]⟩
def x_NoBeginning : XcD := ⟨"NoBeginning", "TearError", .V, []⟩
def x_Barred : XcD := ⟨"Barred", "TearError", .V, ["pad"]⟩
def x_BadHeights : XcD := ⟨"BadHeights", "TearError", .V, ["at"]⟩
def x_BadWeights : XcD := ⟨"BadWeights", "TearError", .V, ["at"]⟩
def x_NoMean : XcD := ⟨"NoMean", "TearError", .V, []⟩
def x_BadText : XcD := ⟨"BadText", "TearError", .V, ["at"]⟩
def x_NoPad : XcD := ⟨"NoPad", "Missing", .L, ["pad"]⟩
def x_NoFigure : XcD := ⟨"NoFigure", "Missing", .L, ["figure"]⟩
def x_NoNote : XcD := ⟨"NoNote", "Missing", .L, ["depth"]⟩
def x_NothingBack : XcD := ⟨"NothingBack", "Stuck", .R, []⟩
def x_NothingAgain : XcD := ⟨"NothingAgain", "Stuck", .R, []⟩
def xs : List XcD := [x_BadColours, x_BadFigure, x_Meeting, x_TooMany, x_TooFar, x_BadOrder, x_OtherColours, x_OtherBook, x_BadRow, x_BadNote, x_BadBeneath, x_Full, x_NoEnd, x_NotStanding, x_NeverClear, x_BadDeed, x_BadNumber, x_NoBeginning, x_Barred, x_BadHeights, x_BadWeights, x_NoMean, x_BadText, x_NoPad, x_NoFigure, x_NoNote, x_NothingBack, x_NothingAgain]
def G0 : Genv := { consts := consts, fns := [], exc := excT xs }
def G_fld_Book : Genv := { G0 with fld := ("Book", ["hues", "shapes"]) :: G0.fld }
def c_need_colours : Cfg := { N := ["colours", "at", "many"], sc := (defScope (top 38)).names, acc := [], shr := [], set := ["colours", "at", "many"], fresh := false, lvl := 4, G := G_fld_Book, lam := none }
def e_need_colours : FnE := ⟨["colours"], runFn 1 3 (dSs c_need_colours 60 (defBody (top 38))), false, 4⟩
def G_need_colours : Genv := { G_fld_Book with fns := ("need_colours", e_need_colours) :: G_fld_Book.fns }
def c_is_triple : Cfg := { N := ["colours", "triple", "least", "pad", "note", "depth"], sc := (defScope (top 39)).names, acc := [], shr := [], set := ["colours", "triple", "least", "pad", "note", "depth"], fresh := false, lvl := 1, G := G_need_colours, lam := none }
def e_is_triple : FnE := ⟨["colours", "triple", "least"], runFn 3 6 (dSs c_is_triple 60 (defBody (top 39))), false, 1⟩
def G_is_triple : Genv := { G_need_colours with fns := ("is_triple", e_is_triple) :: G_need_colours.fns }
def c_is_figure : Cfg := { N := ["colours", "figure", "least", "triple"], sc := (defScope (top 40)).names, acc := [], shr := [], set := ["colours", "figure", "least", "triple"], fresh := false, lvl := 2, G := G_is_triple, lam := none }
def e_is_figure : FnE := ⟨["colours", "figure"], runFn 2 4 (dSs c_is_figure 60 (defBody (top 40))), false, 2⟩
def G_is_figure : Genv := { G_is_triple with fns := ("is_figure", e_is_figure) :: G_is_triple.fns }
def c_need_figures : Cfg := { N := ["colours", "figures", "at", "figure"], sc := (defScope (top 41)).names, acc := [], shr := [], set := ["colours", "figures", "at", "figure"], fresh := false, lvl := 4, G := G_is_figure, lam := none }
def e_need_figures : FnE := ⟨["colours", "figures"], runFn 2 4 (dSs c_need_figures 60 (defBody (top 41))), false, 4⟩
def G_need_figures : Genv := { G_is_figure with fns := ("need_figures", e_need_figures) :: G_is_figure.fns }
def c_pads_of : Cfg := { N := ["figure", "pad", "note", "depth"], sc := (defScope (top 42)).names, acc := [], shr := [], set := ["figure", "pad", "note", "depth"], fresh := true, lvl := 1, G := G_need_figures, lam := none }
def e_pads_of : FnE := ⟨["figure"], runFn 1 4 (dSs c_pads_of 60 (defBody (top 42))), true, 1⟩
def G_pads_of : Genv := { G_need_figures with fns := ("pads_of", e_pads_of) :: G_need_figures.fns }
def c_share : Cfg := { N := ["one", "other", "mine", "pad"], sc := (defScope (top 43)).names, acc := [], shr := [], set := ["one", "other", "mine", "pad"], fresh := false, lvl := 2, G := G_pads_of, lam := none }
def e_share : FnE := ⟨["one", "other"], runFn 2 4 (dSs c_share 60 (defBody (top 43))), false, 2⟩
def G_share : Genv := { G_pads_of with fns := ("share", e_share) :: G_pads_of.fns }
def c_bar : Cfg := { N := ["one", "other", "wants", "pad", "note", "depth"], sc := (defScope (top 44)).names, acc := [], shr := [], set := ["one", "other", "wants", "pad", "note", "depth"], fresh := false, lvl := 1, G := G_share, lam := none }
def e_bar : FnE := ⟨["one", "other"], runFn 2 6 (dSs c_bar 60 (defBody (top 44))), false, 1⟩
def G_bar : Genv := { G_share with fns := ("bar", e_bar) :: G_share.fns }
def c_need_barred : Cfg := { N := ["figures", "one", "other"], sc := (defScope (top 45)).names, acc := [], shr := [], set := ["figures", "one", "other"], fresh := false, lvl := 4, G := G_bar, lam := none }
def e_need_barred : FnE := ⟨["figures"], runFn 1 3 (dSs c_need_barred 60 (defBody (top 45))), false, 4⟩
def G_need_barred : Genv := { G_bar with fns := ("need_barred", e_need_barred) :: G_bar.fns }
def c_Book_init : Cfg := { N := ["self", "colours", "figures", "figure", "triple"], sc := (defScope (clsDef "__init__" (top 47))).names, acc := [], shr := [], set := ["self", "colours", "figures", "figure", "triple"], fresh := false, lvl := 5, G := G_need_barred, lam := none }
def e_Book_init : FnE := ⟨["self", "colours", "figures"], runFn 3 5 (dSs c_Book_init 60 (defBody (clsDef "__init__" (top 47)))), false, 5⟩
def k_Book : ClsE := ⟨e_Book_init.fn, 5, [⟨1, ["figures"], [.p 0, .k 0]⟩]⟩
def G_Book_init : Genv := { G_need_barred with cls := ("Book", k_Book) :: G_need_barred.cls }
def c_bag : Cfg := { N := ["_law_script"], sc := (defScope (top 49)).names, acc := [], shr := [], set := ["_law_script"], fresh := true, lvl := 1, G := G_Book_init, lam := none }
def e_bag : FnE := ⟨["_law_script"], runFn 1 1 (dSs c_bag 60 (defBody (top 49))), true, 1⟩
def G_bag : Genv := { G_Book_init with fns := ("_law_bag", e_bag) :: G_Book_init.fns }
def f_like : Nat → FnD
  | 0 => fun _ _ => .bad
  | n + 1 => runFn 2 3 (dSs { N := ["_law_one", "_law_due", "_law_at"], sc := (defScope (top 62)).names, acc := [], shr := [], set := ["_law_one", "_law_due", "_law_at"], fresh := false, lvl := 0 + n + 1, G := { G_bag with fns := ("_law_like", ⟨["_law_one", "_law_due"], f_like n, false, 0 + n⟩) :: G_bag.fns }, lam := none } 60 (defBody (top 62)))
def c_like (n : Nat) : Cfg := { N := ["_law_one", "_law_due", "_law_at"], sc := (defScope (top 62)).names, acc := [], shr := [], set := ["_law_one", "_law_due", "_law_at"], fresh := false, lvl := 0 + n + 1, G := { G_bag with fns := ("_law_like", ⟨["_law_one", "_law_due"], f_like n, false, 0 + n⟩) :: G_bag.fns }, lam := none }
def e_like : FnE := ⟨["_law_one", "_law_due"], f_like 13, false, 0 + 13⟩
def G_like : Genv := { G_bag with fns := ("_law_like", e_like) :: G_bag.fns }
def c_pull : Cfg := { N := ["_law_bag_here", "_law_size", "_law_got", "_law_cell"], sc := (defScope (top 50)).names, acc := [], shr := [], set := ["_law_bag_here", "_law_size", "_law_got", "_law_cell"], fresh := false, lvl := 1, G := G_like, lam := none }
def e_pull : FnE := ⟨["_law_bag_here", "_law_size"], runFn 2 4 (dSs c_pull 60 (defBody (top 50))), false, 1⟩
def G_pull : Genv := { G_like with fns := ("_law_pull", e_pull) :: G_like.fns }
def c_of : Cfg := { N := ["_law_bag_here", "_law_things"], sc := (defScope (top 51)).names, acc := [], shr := [], set := ["_law_bag_here", "_law_things"], fresh := false, lvl := 2, G := G_pull, lam := none }
def e_of : FnE := ⟨["_law_bag_here", "_law_things"], runFn 2 2 (dSs c_of 60 (defBody (top 51))), false, 2⟩
def G_of : Genv := { G_pull with fns := ("_law_of", e_of) :: G_pull.fns }
def c_hues : Cfg := { N := ["_law_bag_here", "_law_most", "_law_pad"], sc := (defScope (top 52)).names, acc := [], shr := [], set := ["_law_bag_here", "_law_most", "_law_pad"], fresh := true, lvl := 3, G := G_of, lam := none }
def e_hues : FnE := ⟨["_law_bag_here", "_law_most"], runFn 2 3 (dSs c_hues 60 (defBody (top 52))), true, 3⟩
def G_hues : Genv := { G_of with fns := ("_law_hues", e_hues) :: G_of.fns }
def c_shape : Cfg := { N := ["_law_bag_here", "_law_colours", "_law_found", "_law_pad"], sc := (defScope (top 53)).names, acc := [2], shr := [], set := ["_law_bag_here", "_law_colours", "_law_found", "_law_pad"], fresh := false, lvl := 3, G := G_hues, lam := none }
def e_shape : FnE := ⟨["_law_bag_here", "_law_colours"], runFn 2 4 (dSs c_shape 60 (defBody (top 53))), false, 3⟩
def G_shape : Genv := { G_hues with fns := ("_law_shape", e_shape) :: G_hues.fns }
def c_bars : Cfg := { N := ["_law_one", "_law_other", "_law_mine", "_law_common", "_law_pad", "_law_note", "_law_depth"], sc := (defScope (top 54)).names, acc := [], shr := [], set := ["_law_one", "_law_other", "_law_mine", "_law_common", "_law_pad", "_law_note", "_law_depth"], fresh := false, lvl := 1, G := G_shape, lam := none }
def e_bars : FnE := ⟨["_law_one", "_law_other"], runFn 2 7 (dSs c_bars 60 (defBody (top 54))), false, 1⟩
def G_bars : Genv := { G_shape with fns := ("_law_bars", e_bars) :: G_shape.fns }
def c_shapes : Cfg := { N := ["_law_bag_here", "_law_colours", "_law_most", "_law_found", "_law_turn", "_law_one", "_law_other"], sc := (defScope (top 55)).names, acc := [3], shr := [], set := ["_law_bag_here", "_law_colours", "_law_most", "_law_found", "_law_turn", "_law_one", "_law_other"], fresh := true, lvl := 4, G := G_bars, lam := none }
def e_shapes : FnE := ⟨["_law_bag_here", "_law_colours", "_law_most"], runFn 3 7 (dSs c_shapes 60 (defBody (top 55))), true, 4⟩
def G_shapes : Genv := { G_bars with fns := ("_law_shapes", e_shapes) :: G_bars.fns }
def hs_tried : Str × List HdD := (triedOf "_law_act" "e" (defBody (top 59))).getD default
def e_tried : HofE := .tried hs_tried.1 hs_tried.2
def G_tried : Genv := { G_shapes with hof := ("_law_tried", e_tried) :: G_shapes.hof }
def c_shape_well : Cfg := { N := ["_law_colours", "_law_shape_here", "_law_last", "_law_triple"], sc := (defScope (top 60)).names, acc := [], shr := [], set := ["_law_colours", "_law_shape_here", "_law_last", "_law_triple"], fresh := false, lvl := 1, G := G_tried, lam := none }
def e_shape_well : FnE := ⟨["_law_colours", "_law_shape_here"], runFn 2 4 (dSs c_shape_well 60 (defBody (top 60))), false, 1⟩
def G_shape_well : Genv := { G_tried with fns := ("_law_shape_well", e_shape_well) :: G_tried.fns }
def c_book_due : Cfg := { N := ["_law_colours", "_law_shapes_here", "_law_at", "_law_one", "_law_other"], sc := (defScope (top 61)).names, acc := [], shr := [], set := ["_law_colours", "_law_shapes_here", "_law_at", "_law_one", "_law_other"], fresh := false, lvl := 2, G := G_shape_well, lam := none }
def e_book_due : FnE := ⟨["_law_colours", "_law_shapes_here"], runFn 2 5 (dSs c_book_due 60 (defBody (top 61))), false, 2⟩
def G_book_due : Genv := { G_shape_well with fns := ("_law_book_due", e_book_due) :: G_shape_well.fns }
def c_far : Cfg := { N := ["_law_bag_here"], sc := (defScope (top 56)).names, acc := [], shr := [], set := ["_law_bag_here"], fresh := false, lvl := 2, G := G_book_due, lam := none }
def e_far : FnE := ⟨["_law_bag_here"], runFn 1 1 (dSs c_far 60 (defBody (top 56))), false, 2⟩
def G_far : Genv := { G_book_due with fns := ("_law_far", e_far) :: G_book_due.fns }
def c_strange : Cfg := { N := ["_law_bag_here", "_law_many"], sc := (defScope (top 57)).names, acc := [], shr := [], set := ["_law_bag_here", "_law_many"], fresh := false, lvl := 3, G := G_far, lam := none }
def e_strange : FnE := ⟨["_law_bag_here", "_law_many"], runFn 2 2 (dSs c_strange 60 (defBody (top 57))), false, 3⟩
def G_strange : Genv := { G_far with fns := ("_law_strange", e_strange) :: G_far.fns }
def c_bent_shape : Cfg := { N := ["_law_bag_here", "_law_colours", "_law_shape_here", "_law_at", "_law_pad", "_law_note", "_law_depth", "_law_odd", "_law_some", "_law_one"], sc := (defScope (top 58)).names, acc := [], shr := [], set := ["_law_bag_here", "_law_colours", "_law_shape_here", "_law_at", "_law_pad", "_law_note", "_law_depth", "_law_odd", "_law_some", "_law_one"], fresh := false, lvl := 4, G := G_strange, lam := none }
def e_bent_shape : FnE := ⟨["_law_bag_here", "_law_colours", "_law_shape_here"], runFn 3 10 (dSs c_bent_shape 60 (defBody (top 58))), false, 4⟩
def G_bent_shape : Genv := { G_strange with fns := ("_law_bent_shape", e_bent_shape) :: G_strange.fns }
def c_law : Cfg := { N := ["_law_script", "_law_bag_here", "_law_turn", "_law_colours", "_law_shapes_here", "_law_at", "_law_odd", "_law_handed", "_law_told", "_law_due", "_law_shape_here"], sc := (defScope (top 63)).names, acc := [], shr := [1], set := ["_law_script", "_law_bag_here", "_law_turn", "_law_colours", "_law_shapes_here", "_law_at", "_law_odd", "_law_handed", "_law_told", "_law_due", "_law_shape_here"], fresh := false, lvl := 14, G := G_bent_shape, lam := some (1, "law.<locals>.<lambda>") }
def e_law : FnE := ⟨["_law_script"], runFn 1 11 (dSs c_law 60 (defBody (top 63))), false, 14⟩
def G_law : Genv := { G_bent_shape with fns := ("law", e_law) :: G_bent_shape.fns }
end K02


set_option Elab.async false
set_option linter.all false
set_option maxRecDepth 100000
set_option maxHeartbeats 0
namespace K02
open PySem PySem.Spec PyProof.Rows L2 Mp
def d_need_colours : He.DefD := ⟨("need_colours", none), "need_colours", "need_colours", defArgs (top 38), defBody (top 38), defScope (top 38), [], []⟩
def d_is_triple : He.DefD := ⟨("is_triple", none), "is_triple", "is_triple", defArgs (top 39), defBody (top 39), defScope (top 39), [], []⟩
def d_is_figure : He.DefD := ⟨("is_figure", none), "is_figure", "is_figure", defArgs (top 40), defBody (top 40), defScope (top 40), [], []⟩
def d_need_figures : He.DefD := ⟨("need_figures", none), "need_figures", "need_figures", defArgs (top 41), defBody (top 41), defScope (top 41), [], []⟩
def d_pads_of : He.DefD := ⟨("pads_of", none), "pads_of", "pads_of", defArgs (top 42), defBody (top 42), defScope (top 42), [], []⟩
def d_share : He.DefD := ⟨("share", none), "share", "share", defArgs (top 43), defBody (top 43), defScope (top 43), [], []⟩
def d_bar : He.DefD := ⟨("bar", none), "bar", "bar", defArgs (top 44), defBody (top 44), defScope (top 44), [], []⟩
def d_need_barred : He.DefD := ⟨("need_barred", none), "need_barred", "need_barred", defArgs (top 45), defBody (top 45), defScope (top 45), [], []⟩
def d_Book_init : He.DefD := ⟨("Book", some "__init__"), "__init__", "Book.__init__", defArgs (clsDef "__init__" (top 47)), defBody (clsDef "__init__" (top 47)), defScope (clsDef "__init__" (top 47)), [], []⟩
def d_bag : He.DefD := ⟨("_law_bag", none), "_law_bag", "_law_bag", defArgs (top 49), defBody (top 49), defScope (top 49), [], []⟩
def d_like : He.DefD := ⟨("_law_like", none), "_law_like", "_law_like", defArgs (top 62), defBody (top 62), defScope (top 62), [], []⟩
def d_pull : He.DefD := ⟨("_law_pull", none), "_law_pull", "_law_pull", defArgs (top 50), defBody (top 50), defScope (top 50), [], []⟩
def d_of : He.DefD := ⟨("_law_of", none), "_law_of", "_law_of", defArgs (top 51), defBody (top 51), defScope (top 51), [], []⟩
def d_hues : He.DefD := ⟨("_law_hues", none), "_law_hues", "_law_hues", defArgs (top 52), defBody (top 52), defScope (top 52), [], []⟩
def d_shape : He.DefD := ⟨("_law_shape", none), "_law_shape", "_law_shape", defArgs (top 53), defBody (top 53), defScope (top 53), [], []⟩
def d_bars : He.DefD := ⟨("_law_bars", none), "_law_bars", "_law_bars", defArgs (top 54), defBody (top 54), defScope (top 54), [], []⟩
def d_shapes : He.DefD := ⟨("_law_shapes", none), "_law_shapes", "_law_shapes", defArgs (top 55), defBody (top 55), defScope (top 55), [], []⟩
def d_tried : He.DefD := ⟨("_law_tried", none), "_law_tried", "_law_tried", defArgs (top 59), defBody (top 59), defScope (top 59), [], []⟩
def d_shape_well : He.DefD := ⟨("_law_shape_well", none), "_law_shape_well", "_law_shape_well", defArgs (top 60), defBody (top 60), defScope (top 60), [], []⟩
def d_book_due : He.DefD := ⟨("_law_book_due", none), "_law_book_due", "_law_book_due", defArgs (top 61), defBody (top 61), defScope (top 61), [], []⟩
def d_far : He.DefD := ⟨("_law_far", none), "_law_far", "_law_far", defArgs (top 56), defBody (top 56), defScope (top 56), [], []⟩
def d_strange : He.DefD := ⟨("_law_strange", none), "_law_strange", "_law_strange", defArgs (top 57), defBody (top 57), defScope (top 57), [], []⟩
def d_bent_shape : He.DefD := ⟨("_law_bent_shape", none), "_law_bent_shape", "_law_bent_shape", defArgs (top 58), defBody (top 58), defScope (top 58), [], []⟩
def d_law : He.DefD := ⟨("law", none), "law", "law", defArgs (top 63), defBody (top 63), defScope (top 63), [], []⟩
def d_ini_TearError : He.DefD := ⟨("TearError", some "__init__"), "__init__", "TearError.__init__", defArgs (clsIni (top 2)), defBody (clsIni (top 2)), defScope (clsIni (top 2)), [.str "TearError"], []⟩
def d_ini_Missing : He.DefD := ⟨("Missing", some "__init__"), "__init__", "Missing.__init__", defArgs (clsIni (top 3)), defBody (clsIni (top 3)), defScope (clsIni (top 3)), [.str "Missing"], []⟩
def d_ini_Stuck : He.DefD := ⟨("Stuck", some "__init__"), "__init__", "Stuck.__init__", defArgs (clsIni (top 4)), defBody (clsIni (top 4)), defScope (clsIni (top 4)), [.str "Stuck"], []⟩
def d_ini_BadColours : He.DefD := ⟨("BadColours", some "__init__"), "__init__", "BadColours.__init__", defArgs (clsIni (top 5)), defBody (clsIni (top 5)), defScope (clsIni (top 5)), [], []⟩
def d_ini_BadFigure : He.DefD := ⟨("BadFigure", some "__init__"), "__init__", "BadFigure.__init__", defArgs (clsIni (top 6)), defBody (clsIni (top 6)), defScope (clsIni (top 6)), [], []⟩
def d_ini_Meeting : He.DefD := ⟨("Meeting", some "__init__"), "__init__", "Meeting.__init__", defArgs (clsIni (top 7)), defBody (clsIni (top 7)), defScope (clsIni (top 7)), [], []⟩
def d_ini_TooMany : He.DefD := ⟨("TooMany", some "__init__"), "__init__", "TooMany.__init__", defArgs (clsIni (top 8)), defBody (clsIni (top 8)), defScope (clsIni (top 8)), [], []⟩
def d_ini_TooFar : He.DefD := ⟨("TooFar", some "__init__"), "__init__", "TooFar.__init__", defArgs (clsIni (top 9)), defBody (clsIni (top 9)), defScope (clsIni (top 9)), [], []⟩
def d_ini_BadOrder : He.DefD := ⟨("BadOrder", some "__init__"), "__init__", "BadOrder.__init__", defArgs (clsIni (top 10)), defBody (clsIni (top 10)), defScope (clsIni (top 10)), [], []⟩
def d_ini_OtherColours : He.DefD := ⟨("OtherColours", some "__init__"), "__init__", "OtherColours.__init__", defArgs (clsIni (top 11)), defBody (clsIni (top 11)), defScope (clsIni (top 11)), [], []⟩
def d_ini_OtherBook : He.DefD := ⟨("OtherBook", some "__init__"), "__init__", "OtherBook.__init__", defArgs (clsIni (top 12)), defBody (clsIni (top 12)), defScope (clsIni (top 12)), [], []⟩
def d_ini_BadRow : He.DefD := ⟨("BadRow", some "__init__"), "__init__", "BadRow.__init__", defArgs (clsIni (top 13)), defBody (clsIni (top 13)), defScope (clsIni (top 13)), [], []⟩
def d_ini_BadNote : He.DefD := ⟨("BadNote", some "__init__"), "__init__", "BadNote.__init__", defArgs (clsIni (top 14)), defBody (clsIni (top 14)), defScope (clsIni (top 14)), [], []⟩
def d_ini_BadBeneath : He.DefD := ⟨("BadBeneath", some "__init__"), "__init__", "BadBeneath.__init__", defArgs (clsIni (top 15)), defBody (clsIni (top 15)), defScope (clsIni (top 15)), [], []⟩
def d_ini_Full : He.DefD := ⟨("Full", some "__init__"), "__init__", "Full.__init__", defArgs (clsIni (top 16)), defBody (clsIni (top 16)), defScope (clsIni (top 16)), [], []⟩
def d_ini_NoEnd : He.DefD := ⟨("NoEnd", some "__init__"), "__init__", "NoEnd.__init__", defArgs (clsIni (top 17)), defBody (clsIni (top 17)), defScope (clsIni (top 17)), [], []⟩
def d_ini_NotStanding : He.DefD := ⟨("NotStanding", some "__init__"), "__init__", "NotStanding.__init__", defArgs (clsIni (top 18)), defBody (clsIni (top 18)), defScope (clsIni (top 18)), [], []⟩
def d_ini_NeverClear : He.DefD := ⟨("NeverClear", some "__init__"), "__init__", "NeverClear.__init__", defArgs (clsIni (top 19)), defBody (clsIni (top 19)), defScope (clsIni (top 19)), [], []⟩
def d_ini_BadDeed : He.DefD := ⟨("BadDeed", some "__init__"), "__init__", "BadDeed.__init__", defArgs (clsIni (top 20)), defBody (clsIni (top 20)), defScope (clsIni (top 20)), [], []⟩
def d_ini_BadNumber : He.DefD := ⟨("BadNumber", some "__init__"), "__init__", "BadNumber.__init__", defArgs (clsIni (top 21)), defBody (clsIni (top 21)), defScope (clsIni (top 21)), [], []⟩
def d_ini_NoBeginning : He.DefD := ⟨("NoBeginning", some "__init__"), "__init__", "NoBeginning.__init__", defArgs (clsIni (top 22)), defBody (clsIni (top 22)), defScope (clsIni (top 22)), [], []⟩
def d_ini_Barred : He.DefD := ⟨("Barred", some "__init__"), "__init__", "Barred.__init__", defArgs (clsIni (top 23)), defBody (clsIni (top 23)), defScope (clsIni (top 23)), [], []⟩
def d_ini_BadHeights : He.DefD := ⟨("BadHeights", some "__init__"), "__init__", "BadHeights.__init__", defArgs (clsIni (top 24)), defBody (clsIni (top 24)), defScope (clsIni (top 24)), [], []⟩
def d_ini_BadWeights : He.DefD := ⟨("BadWeights", some "__init__"), "__init__", "BadWeights.__init__", defArgs (clsIni (top 25)), defBody (clsIni (top 25)), defScope (clsIni (top 25)), [], []⟩
def d_ini_NoMean : He.DefD := ⟨("NoMean", some "__init__"), "__init__", "NoMean.__init__", defArgs (clsIni (top 26)), defBody (clsIni (top 26)), defScope (clsIni (top 26)), [], []⟩
def d_ini_BadText : He.DefD := ⟨("BadText", some "__init__"), "__init__", "BadText.__init__", defArgs (clsIni (top 27)), defBody (clsIni (top 27)), defScope (clsIni (top 27)), [], []⟩
def d_ini_NoPad : He.DefD := ⟨("NoPad", some "__init__"), "__init__", "NoPad.__init__", defArgs (clsIni (top 28)), defBody (clsIni (top 28)), defScope (clsIni (top 28)), [], []⟩
def d_ini_NoFigure : He.DefD := ⟨("NoFigure", some "__init__"), "__init__", "NoFigure.__init__", defArgs (clsIni (top 29)), defBody (clsIni (top 29)), defScope (clsIni (top 29)), [], []⟩
def d_ini_NoNote : He.DefD := ⟨("NoNote", some "__init__"), "__init__", "NoNote.__init__", defArgs (clsIni (top 30)), defBody (clsIni (top 30)), defScope (clsIni (top 30)), [], []⟩
def d_ini_NothingBack : He.DefD := ⟨("NothingBack", some "__init__"), "__init__", "NothingBack.__init__", defArgs (clsIni (top 31)), defBody (clsIni (top 31)), defScope (clsIni (top 31)), [], []⟩
def d_ini_NothingAgain : He.DefD := ⟨("NothingAgain", some "__init__"), "__init__", "NothingAgain.__init__", defArgs (clsIni (top 32)), defBody (clsIni (top 32)), defScope (clsIni (top 32)), [], []⟩
def fn : List He.DefD := [d_need_colours, d_is_triple, d_is_figure, d_need_figures, d_pads_of, d_share, d_bar, d_need_barred, d_Book_init, d_bag, d_like, d_pull, d_of, d_hues, d_shape, d_bars, d_shapes, d_tried, d_shape_well, d_book_due, d_far, d_strange, d_bent_shape, d_law, d_ini_TearError, d_ini_Missing, d_ini_Stuck, d_ini_BadColours, d_ini_BadFigure, d_ini_Meeting, d_ini_TooMany, d_ini_TooFar, d_ini_BadOrder, d_ini_OtherColours, d_ini_OtherBook, d_ini_BadRow, d_ini_BadNote, d_ini_BadBeneath, d_ini_Full, d_ini_NoEnd, d_ini_NotStanding, d_ini_NeverClear, d_ini_BadDeed, d_ini_BadNumber, d_ini_NoBeginning, d_ini_Barred, d_ini_BadHeights, d_ini_BadWeights, d_ini_NoMean, d_ini_BadText, d_ini_NoPad, d_ini_NoFigure, d_ini_NoNote, d_ini_NothingBack, d_ini_NothingAgain]
def fa : List He.Fa := [.glo "need_colours", .glo "is_triple", .glo "is_figure", .glo "need_figures", .glo "pads_of", .glo "share", .glo "bar", .glo "need_barred", .glo "Book", .glo "_law_bag", .glo "_law_like", .glo "_law_pull", .glo "_law_of", .glo "_law_hues", .glo "_law_shape", .glo "_law_bars", .glo "_law_shapes", .glo "_law_tried", .glo "_law_shape_well", .glo "_law_book_due", .glo "_law_far", .glo "_law_strange", .glo "_law_bent_shape", .glo "law", .free "len", .free "range", .free "tuple", .free "list", .free "any", .free "all", .free "sum", .free "max", .free "min", .free "sorted", .free "int", .free "str", .free "isinstance", .free "enumerate", .free "bool", .free "dict", .int "MOST_PADS" 6, .int "MOST_COLOURS" 4, .int "MOST_FIGURES" 12, .int "MOST_DEPTH" 3, .glo "Book", .cls "Book", .mkr "Book", .noat "Book" "hues", .noat "Book" "shapes"]
def tf : List He.Defn := [("law", none)]
def qs : List Str := ["law.<locals>.<lambda>"]
def hf : HdF := ⟨fa, fn, tf, ["TearError", "Missing", "Stuck"], xs⟩
def loose : List PySem.Str := (["_wall", "TearError", "Missing", "Stuck", "BadColours", "BadFigure", "Meeting", "TooMany", "TooFar", "BadOrder", "OtherColours", "OtherBook", "BadRow", "BadNote", "BadBeneath", "Full", "NoEnd", "NotStanding", "NeverClear", "BadDeed", "BadNumber", "NoBeginning", "Barred", "BadHeights", "BadWeights", "NoMean", "BadText", "NoPad", "NoFigure", "NoNote"] : List PySem.Str) ++ (["NothingBack", "NothingAgain", "MOST_PADS", "MOST_COLOURS", "MOST_FIGURES", "MOST_DEPTH", "need_colours", "is_triple", "is_figure", "need_figures", "pads_of", "share", "bar", "need_barred", "triple_text", "Book", "_law_bag", "_law_pull", "_law_of", "_law_hues", "_law_shape", "_law_bars", "_law_shapes", "_law_far", "_law_strange", "_law_bent_shape", "_law_tried", "_law_shape_well", "_law_book_due", "_law_like"] : List PySem.Str)
abbrev R : PySem.W.OpenRow := PySem.W.OpenLaw.row PySem.Challenge.rw_tearboard_k02_books_looked_at

end K02


set_option Elab.async false
set_option linter.all false
set_option maxRecDepth 100000
set_option maxHeartbeats 0
namespace K02
open PySem PySem.Spec PyProof.Rows L2 Mp
def ob (s : PySem.W.SharedT) : He.AlD := obsM hf (HandSHeadRun.getT s)
theorem ob_eq (s : PySem.W.SharedT) : ob s = (hookM hf).obs s.abs := obsM_eq (HandSHeadRun.getT_eq s)
theorem run (w : World) : HandSHeadRun.RunEq R (PySem.W.view R.prog [63]) (hookM hf) ob 30000 loose w := by
  intro os
  kernel_rfl
end K02


set_option Elab.async false
set_option linter.all false
/-! Pl: what a text of Den reaches, stated forwards. -/
namespace Mp
open PySem
/-- what an expression comes to: a value, an exception -/
@[irreducible] def WEX {α : Type} (f : Ev α) (env : En) (st : Store) (Q : α → Store → Prop) (E : Str → List T → Store → Prop) : Prop := match f env st with
  | .ok a s => Q a s
  | .err c vs s => E c vs s
  | .bad => False
@[irreducible] def WSX (f : EvS) (env : En) (st : Store) (Q : Fl → En → Store → Prop) (E : Str → List T → Store → Prop) : Prop := match f env st with
  | .ok fl e s => Q fl e s
  | .err c vs _ s => E c vs s
  | .bad => False
@[irreducible] def WNX (fn : FnD) (ts : List T) (st : Store) (Q : T → Store → Prop) (E : Str → List T → Store → Prop) : Prop := match fn ts st with
  | .ok a s => Q a s
  | .err c vs s => E c vs s
  | .bad => False
abbrev noE : Str → List T → Store → Prop := fun _ _ _ => False
abbrev WE {α : Type} (f : Ev α) (env : En) (st : Store) (Q : α → Store → Prop) : Prop := WEX f env st Q noE
abbrev WS (f : EvS) (env : En) (st : Store) (Q : Fl → En → Store → Prop) : Prop := WSX f env st Q noE
abbrev WN (fn : FnD) (ts : List T) (st : Store) (Q : T → Store → Prop) : Prop := WNX fn ts st Q noE
section
variable {α β : Type} {env : En} {st : Store} {E : Str → List T → Store → Prop}
theorem WEX.mono {f : Ev α} {Q Q' : α → Store → Prop} {E' : Str → List T → Store → Prop} (h : WEX f env st Q E) (i : ∀ a s, Q a s → Q' a s) (j : ∀ c vs s, E c vs s → E' c vs s) : WEX f env st Q' E' := by
  unfold WEX at h ⊢
  cases hf : f env st with
  | ok a s => rw [hf] at h; exact i a s h
  | err c vs s => rw [hf] at h; exact j c vs s h
  | bad => rw [hf] at h; exact h
theorem WSX.mono {f : EvS} {Q Q' : Fl → En → Store → Prop} {E' : Str → List T → Store → Prop} (h : WSX f env st Q E) (i : ∀ a e s, Q a e s → Q' a e s) (j : ∀ c vs s, E c vs s → E' c vs s) : WSX f env st Q' E' := by
  unfold WSX at h ⊢
  cases hf : f env st with
  | ok a e s => rw [hf] at h; exact i a e s h
  | err c vs e s => rw [hf] at h; exact j c vs s h
  | bad => rw [hf] at h; exact h
theorem WNX.mono {fn : FnD} {ts : List T} {Q Q' : T → Store → Prop} {E' : Str → List T → Store → Prop} (h : WNX fn ts st Q E) (i : ∀ a s, Q a s → Q' a s) (j : ∀ c vs s, E c vs s → E' c vs s) : WNX fn ts st Q' E' := by
  unfold WNX at h ⊢
  cases hf : fn ts st with
  | ok a s => rw [hf] at h; exact i a s h
  | err c vs s => rw [hf] at h; exact j c vs s h
  | bad => rw [hf] at h; exact h
theorem WEX.imp {f : Ev α} {Q Q' : α → Store → Prop} (h : WEX f env st Q noE) (i : ∀ a s, Q a s → Q' a s) : WEX f env st Q' E := h.mono i fun _ _ _ h => h.elim
theorem WSX.imp {f : EvS} {Q Q' : Fl → En → Store → Prop} (h : WSX f env st Q noE) (i : ∀ a e s, Q a e s → Q' a e s) : WSX f env st Q' E := h.mono i fun _ _ _ h => h.elim
theorem WNX.imp {fn : FnD} {ts : List T} {Q Q' : T → Store → Prop} (h : WNX fn ts st Q noE) (i : ∀ a s, Q a s → Q' a s) : WNX fn ts st Q' E := h.mono i fun _ _ _ h => h.elim
theorem WEX.impE {f : Ev α} {Q Q' : α → Store → Prop} (h : WEX f env st Q E) (i : ∀ a s, Q a s → Q' a s) : WEX f env st Q' E := h.mono i fun _ _ _ h => h
theorem WSX.impE {f : EvS} {Q Q' : Fl → En → Store → Prop} (h : WSX f env st Q E) (i : ∀ a e s, Q a e s → Q' a e s) : WSX f env st Q' E := h.mono i fun _ _ _ h => h
theorem WE.imp {f : Ev α} {Q Q' : α → Store → Prop} (h : WE f env st Q) (i : ∀ a s, Q a s → Q' a s) : WEX f env st Q' E := WEX.imp h i
theorem WS.imp {f : EvS} {Q Q' : Fl → En → Store → Prop} (h : WS f env st Q) (i : ∀ a e s, Q a e s → Q' a e s) : WSX f env st Q' E := WSX.imp h i
theorem WN.imp {fn : FnD} {ts : List T} {Q Q' : T → Store → Prop} (h : WN fn ts st Q) (i : ∀ a s, Q a s → Q' a s) : WNX fn ts st Q' E := WNX.imp h i
/-- .. as it stands -/
theorem WE.ex {f : Ev α} {Q : α → Store → Prop} (h : WE f env st Q) : ∃ a s, f env st = .ok a s ∧ Q a s := by
  unfold WE WEX at h
  cases hf : f env st with
  | ok a s => rw [hf] at h; exact ⟨a, s, rfl, h⟩
  | err c vs s => rw [hf] at h; exact h.elim
  | bad => rw [hf] at h; exact h.elim
theorem WN.ex {fn : FnD} {ts : List T} {Q : T → Store → Prop} (h : WN fn ts st Q) : ∃ a s, fn ts st = .ok a s ∧ Q a s := by
  unfold WN WNX at h
  cases hf : fn ts st with
  | ok a s => rw [hf] at h; exact ⟨a, s, rfl, h⟩
  | err c vs s => rw [hf] at h; exact h.elim
  | bad => rw [hf] at h; exact h.elim
theorem we_of {f : Ev α} {a : α} {s : Store} {Q : α → Store → Prop} (e : f env st = .ok a s) (q : Q a s) : WEX f env st Q E := by unfold WEX; rw [e]; exact q
theorem ws_of {f : EvS} {fl : Fl} {en : En} {s : Store} {Q : Fl → En → Store → Prop} (e : f env st = .ok fl en s) (q : Q fl en s) : WSX f env st Q E := by unfold WSX; rw [e]; exact q
theorem wn_of' {fn : FnD} {ts : List T} {a : T} {s : Store} {Q : T → Store → Prop} (e : fn ts st = .ok a s) (q : Q a s) : WNX fn ts st Q E := by unfold WNX; rw [e]; exact q
theorem we_bind {f : Ev α} {g : α → Ev β} {Q : β → Store → Prop} : WEX (Ev.bind f g) env st Q E ↔ WEX f env st (fun a s => WEX (g a) env s Q E) E := by
  unfold WEX Ev.bind
  cases f env st <;> exact Iff.rfl
theorem we_pure {a : α} {Q : α → Store → Prop} : WEX (Ev.pure a) env st Q E ↔ Q a st := by unfold WEX; exact Iff.rfl
theorem we_bad {Q : α → Store → Prop} : WEX Ev.bad env st Q E ↔ False := by unfold WEX; exact Iff.rfl
theorem we_opt {o : Option α} {Q : α → Store → Prop} : WEX (Ev.opt o) env st Q E ↔ ∃ z, o = some z ∧ Q z st := by
  cases o with
  | none => unfold Ev.opt; rw [we_bad]; simp
  | some z => unfold Ev.opt; rw [we_pure]; simp
theorem we_optS {f : Store → Option α} {Q : α → Store → Prop} : WEX (Ev.optS f) env st Q E ↔ ∃ z, f st = some z ∧ Q z st := by
  have : WEX (Ev.optS f) env st Q E ↔ WEX (Ev.opt (f st)) env st Q E := by unfold WEX; exact Iff.rfl
  rw [this, we_opt]
theorem we_con {t : T} {Q : T → Store → Prop} : WEX (con t) env st Q E ↔ Q t st := we_pure
theorem we_var {i : Nat} {Q : T → Store → Prop} : WEX (var i) env st Q E ↔ ∃ t, env[i]? = some (.fr t) ∧ Q t st := by
  unfold WEX var
  cases h : env[i]? with
  | none => simp
  | some s => cases s <;> simp
theorem we_peek {i : Nat} {Q : T → Store → Prop} : WEX (peek i) env st Q E ↔ ∃ t, (env[i]? = some (.fr t) ∨ env[i]? = some (.own t)) ∧ Q t st := by
  unfold WEX peek
  cases h : env[i]? with
  | none => simp
  | some s => cases s <;> simp
theorem we_ownV {i : Nat} {Q : T → Store → Prop} : WEX (ownV i) env st Q E ↔ ∃ t, env[i]? = some (.own t) ∧ Q t st := by
  unfold WEX ownV
  cases h : env[i]? with
  | none => simp
  | some s => cases s <;> simp
theorem we_ev1 {op : T → Option T} {f : EvT} {Q : T → Store → Prop} : WEX (ev1 op f) env st Q E ↔ WEX f env st (fun x s => ∃ z, op x = some z ∧ Q z s) E := by
  unfold ev1; rw [we_bind]; simp only [we_opt]
theorem we_ev1S {op : Store → T → Option T} {f : EvT} {Q : T → Store → Prop} : WEX (ev1S op f) env st Q E ↔ WEX f env st (fun x s => ∃ z, op s x = some z ∧ Q z s) E := by
  unfold ev1S; rw [we_bind]; simp only [we_optS]
theorem we_ev2 {op : T → T → Option T} {f g : EvT} {Q : T → Store → Prop} : WEX (ev2 op f g) env st Q E ↔ WEX f env st (fun x s => WEX g env s (fun y s => ∃ z, op x y = some z ∧ Q z s) E) E := by
  unfold ev2; simp only [we_bind, we_opt]
theorem we_ev2S {op : Store → T → T → Option T} {f g : EvT} {Q : T → Store → Prop} : WEX (ev2S op f g) env st Q E ↔ WEX f env st (fun x s => WEX g env s (fun y s => ∃ z, op s x y = some z ∧ Q z s) E) E := by
  unfold ev2S; simp only [we_bind, we_optS]
theorem we_ev3S {op : Store → T → T → T → Option T} {f g h : EvT} {Q : T → Store → Prop} : WEX (ev3S op f g h) env st Q E ↔ WEX f env st (fun x s => WEX g env s (fun y s => WEX h env s (fun w s => ∃ z, op s x y w = some z ∧ Q z s) E) E) E := by
  unfold ev3S; simp only [we_bind, we_optS]
theorem we_nil {Q : List T → Store → Prop} : WEX (evL []) env st Q E ↔ Q [] st := we_pure
theorem we_cons {f : EvT} {fs : List EvT} {Q : List T → Store → Prop} : WEX (evL (f :: fs)) env st Q E ↔ WEX f env st (fun x s => WEX (evL fs) env s (fun xs s => Q (x :: xs) s) E) E := by
  show WEX (f.bind fun x => (evL fs).bind fun xs => Ev.pure (x :: xs)) env st Q E ↔ _
  simp only [we_bind, we_pure]
theorem we_evN {mk : List T → Option T} {fs : List EvT} {Q : T → Store → Prop} : WEX (evN mk fs) env st Q E ↔ WEX (evL fs) env st (fun xs s => ∃ z, mk xs = some z ∧ Q z s) E := by
  unfold evN; simp only [we_bind, we_opt]
theorem we_asB {x : T} {Q : Bool → Store → Prop} : WEX (asB x) env st Q E ↔ ∃ b, x = .bl b ∧ Q b st := by
  cases x <;> simp [asB, we_bad, we_pure]
theorem we_testV {f : EvT} {Q : Bool → Store → Prop} : WEX (testV f) env st Q E ↔ WEX f env st (fun x s => ∃ b, x = .bl b ∧ Q b s) E := by
  unfold testV; simp only [we_bind, we_asB]
theorem we_pickT {f g : Ev α} {Q : α → Store → Prop} : WEX (pick f g true) env st Q E ↔ WEX f env st Q E := Iff.rfl
theorem we_pickF {f g : Ev α} {Q : α → Store → Prop} : WEX (pick f g false) env st Q E ↔ WEX g env st Q E := Iff.rfl
theorem we_pick {f g : Ev α} {b : Bool} {Q : α → Store → Prop} : WEX (pick f g b) env st Q E ↔ (b = true → WEX f env st Q E) ∧ (b = false → WEX g env st Q E) := by
  cases b <;> simp [we_pickT, we_pickF]
theorem we_andB {f g : EvB} {Q : Bool → Store → Prop} : WEX (andB f g) env st Q E ↔ WEX f env st (fun b s => (b = true → WEX g env s Q E) ∧ (b = false → Q false s)) E := by
  unfold andB; simp only [we_bind, we_pick, we_pure]
theorem we_orB {f g : EvB} {Q : Bool → Store → Prop} : WEX (orB f g) env st Q E ↔ WEX f env st (fun b s => (b = true → Q true s) ∧ (b = false → WEX g env s Q E)) E := by
  unfold orB; simp only [we_bind, we_pick, we_pure]
theorem we_notT {f : EvB} {Q : Bool → Store → Prop} : WEX (Mp.notT f) env st Q E ↔ WEX f env st (fun b s => Q (!b) s) E := by
  unfold Mp.notT; simp only [we_bind, we_pure]
theorem we_andV {f g : EvT} {Q : T → Store → Prop} : WEX (andV f g) env st Q E ↔ WEX f env st (fun x s => ∃ b, x = .bl b ∧ (b = true → WEX g env s Q E) ∧ (b = false → Q (.bl false) s)) E := by
  unfold andV; simp only [we_bind, we_testV, we_pick, we_pure]
theorem we_orV {f g : EvT} {Q : T → Store → Prop} : WEX (orV f g) env st Q E ↔ WEX f env st (fun x s => ∃ b, x = .bl b ∧ (b = true → Q (.bl true) s) ∧ (b = false → WEX g env s Q E)) E := by
  unfold orV; simp only [we_bind, we_testV, we_pick, we_pure]
theorem we_notV {f : EvT} {Q : T → Store → Prop} : WEX (notV f) env st Q E ↔ WEX f env st (fun x s => ∃ b, x = .bl b ∧ Q (.bl (!b)) s) E := by
  unfold notV; simp only [we_bind, we_testV, we_pure]
theorem we_ite {c : EvB} {f g : EvT} {Q : T → Store → Prop} : WEX (iteE c f g) env st Q E ↔ WEX c env st (fun b s => (b = true → WEX f env s Q E) ∧ (b = false → WEX g env s Q E)) E := by
  unfold iteE; simp only [we_bind, we_pick]
theorem we_chain {op op' : T → T → Option T} {f g h : EvT} {Q : T → Store → Prop} : WEX (chain op op' f g h) env st Q E ↔ WEX f env st (fun x s => WEX g env s (fun y s => ∃ z, op x y = some z ∧ ∃ b, z = .bl b ∧ (b = true → WEX h env s (fun w s => ∃ z, op' y w = some z ∧ Q z s) E) ∧ (b = false → Q (.bl false) s)) E) E := by
  unfold chain; simp only [we_bind, we_opt, we_asB, we_pick, we_pure]
theorem we_callP {fn : FnD} {fs : List EvT} {Q : T → Store → Prop} : WEX (callP fn fs) env st Q E ↔ WEX (evL fs) env st (fun ts s => WNX fn ts s Q E) E := by
  unfold callP; rw [we_bind]
  have key : ∀ ts s, WEX (fun _ st => fn ts st) env s Q E ↔ WNX fn ts s Q E := fun ts s => by
    unfold WEX WNX
    dsimp only
    cases fn ts s <;> exact Iff.rfl
  exact ⟨fun h => h.impE fun ts s h => (key ts s).mp h, fun h => h.impE fun ts s h => (key ts s).mpr h⟩
theorem we_part {x : T} {Q : T → Store → Prop} : WEX (asPart x) env st Q E ↔ ∃ i, x = .int i ∧ Q x st := by
  cases x <;> simp [asPart, we_bad, we_pure]
theorem we_itSeq {f : EvT} {Q : List T → Store → Prop} : WEX (itSeq f) env st Q E ↔ WEX f env st (fun x s => (∃ xs, (x = .lst xs ∨ x = .tup xs) ∧ Q xs s) ∨ ∃ n xs, x = .obj n ∧ s[n]? = some (.lst xs) ∧ Q xs (s.set n .no)) E := by
  unfold itSeq; rw [we_bind]
  have key : ∀ x s, WEX (asSeq x) env s Q E ↔ ((∃ xs, (x = .lst xs ∨ x = .tup xs) ∧ Q xs s) ∨ ∃ n xs, x = .obj n ∧ s[n]? = some (.lst xs) ∧ Q xs (s.set n .no)) := fun x s => by
    cases x with
    | obj n =>
      unfold WEX asSeq
      cases h : s[n]? with
      | none => simp [h]
      | some c => cases c <;> simp [h]
    | lst xs => simp [asSeq, we_pure]
    | tup xs => simp [asSeq, we_pure]
    | _ => simp [asSeq, we_bad]
  constructor <;> exact fun h => h.impE fun x s h => by first | exact (key x s).mp h | exact (key x s).mpr h
theorem we_itRng1 {f : EvT} {Q : List T → Store → Prop} : WEX (itRng1 f) env st Q E ↔ WEX f env st (fun x s => ∃ j : Int, x = .int j ∧ (j < 2 ^ 60 ∧ -(2 ^ 60) < j) ∧ Q (rangeL 0 j.toNat) s) E := by
  unfold itRng1; rw [we_bind]
  constructor <;> refine fun h => h.impE fun x s h => ?_
  · cases x with
    | int j =>
      have h : WEX (if j < 2 ^ 60 ∧ -(2 ^ 60) < j then Ev.pure (rangeL 0 j.toNat) else Ev.bad) env s Q E := h
      split at h
      · rw [we_pure] at h; exact ⟨j, rfl, by assumption, h⟩
      · rw [we_bad] at h; exact h.elim
    | _ => simp [asRng, we_bad] at h
  · obtain ⟨j, rfl, hj, q⟩ := h
    show WEX (if j < 2 ^ 60 ∧ -(2 ^ 60) < j then Ev.pure (rangeL 0 j.toNat) else Ev.bad) env s Q E
    rw [if_pos hj, we_pure]; exact q
theorem we_itRng2 {f g : EvT} {Q : List T → Store → Prop} : WEX (itRng2 f g) env st Q E ↔ WEX f env st (fun x s => WEX g env s (fun y s => ∃ i j : Int, x = .int i ∧ y = .int j ∧ ((j < 2 ^ 60 ∧ -(2 ^ 60) < j) ∧ i < 2 ^ 60 ∧ -(2 ^ 60) < i) ∧ Q (rangeL i (j - i).toNat) s) E) E := by
  unfold itRng2; simp only [we_bind]
  constructor <;> refine fun h => h.impE fun x s h => h.impE fun y s h => ?_
  · cases x with
    | int i => cases y with
      | int j =>
        have h : WEX (if (j < 2 ^ 60 ∧ -(2 ^ 60) < j) ∧ i < 2 ^ 60 ∧ -(2 ^ 60) < i then Ev.pure (rangeL i (j - i).toNat) else Ev.bad) env s Q E := h
        split at h
        · rw [we_pure] at h; exact ⟨i, j, rfl, rfl, by assumption, h⟩
        · rw [we_bad] at h; exact h.elim
      | _ => simp [asRng2, we_bad] at h
    | _ => simp [asRng2, we_bad] at h
  · obtain ⟨i, j, rfl, rfl, hj, q⟩ := h
    show WEX (if (j < 2 ^ 60 ∧ -(2 ^ 60) < j) ∧ i < 2 ^ 60 ∧ -(2 ^ 60) < i then Ev.pure (rangeL i (j - i).toNat) else Ev.bad) env s Q E
    rw [if_pos hj, we_pure]; exact q
theorem we_itEnum {f : EvT} {Q : List T → Store → Prop} : WEX (itEnum f) env st Q E ↔ WEX f env st (fun x s => ∃ xs, (x = .lst xs ∨ x = .tup xs) ∧ Q (enumL 0 xs) s) E := by
  unfold itEnum; rw [we_bind]
  constructor <;> refine fun h => h.impE fun x s h => ?_
  · cases x with
    | lst xs => exact ⟨xs, .inl rfl, we_pure.mp h⟩
    | tup xs => exact ⟨xs, .inr rfl, we_pure.mp h⟩
    | _ => simp [asEnum, we_bad] at h
  · obtain ⟨xs, rfl | rfl, q⟩ := h
    · exact we_pure.mpr q
    · exact we_pure.mpr q
/-- a comprehension's items -/
def WC (g : Tg) (c : EvB) (e : EvT) (env : En) (xs : List T) (st : Store) (Q : List T → Store → Prop) : Prop := ∃ ys st', compL g c e env xs st = .ok ys st' ∧ Q ys st'
theorem wc_nil {g : Tg} {c : EvB} {e : EvT} {Q : List T → Store → Prop} : WC g c e env [] st Q ↔ Q [] st := by
  unfold WC compL
  constructor
  · rintro ⟨b, s, h, q⟩; cases h; exact q
  · intro q; exact ⟨_, st, rfl, q⟩
theorem wc_cons {g : Tg} {c : EvB} {e : EvT} {x : T} {xs : List T} {Q : List T → Store → Prop} : WC g c e env (x :: xs) st Q ↔ ∃ env', Tg.put g x env = some env' ∧ WE c env' st fun b s => (b = true → WE e env' s fun y s => WC g c e env xs s fun ys s => Q (y :: ys) s) ∧ (b = false → WC g c e env xs s Q) := by
  constructor
  · rintro ⟨ys, s, h, q⟩
    unfold compL at h
    cases hp : Tg.put g x env with
    | none => rw [hp] at h; cases h
    | some env' =>
      rw [hp] at h
      simp only at h
      refine ⟨env', rfl, ?_⟩
      cases hc : c env' st with
      | bad => rw [hc] at h; cases h
      | err _ _ _ => rw [hc] at h; cases h
      | ok b s1 =>
        rw [hc] at h
        refine we_of hc ?_
        cases b with
        | false => exact ⟨fun z => (by cases z), fun _ => ⟨ys, s, h, q⟩⟩
        | true =>
          refine ⟨fun _ => ?_, fun z => (by cases z)⟩
          simp only at h
          cases he : e env' s1 with
          | bad => rw [he] at h; cases h
          | err _ _ _ => rw [he] at h; cases h
          | ok y s2 =>
            rw [he] at h
            simp only at h
            refine we_of he ?_
            cases hr : compL g c e env xs s2 with
            | ok zs s3 => rw [hr] at h; cases h; exact ⟨zs, s, hr, q⟩
            | err _ _ _ => rw [hr] at h; cases h
            | bad => rw [hr] at h; cases h
  · rintro ⟨env', hp, h⟩
    obtain ⟨b, s1, hc, h1, h2⟩ := WE.ex h
    cases b with
    | true =>
      obtain ⟨y, s2, he, zs, s3, hr, q⟩ := WE.ex (h1 rfl)
      refine ⟨y :: zs, s3, ?_, q⟩
      unfold compL
      simp only [hp, hc, he, hr]
    | false =>
      obtain ⟨zs, s3, hr, q⟩ := h2 rfl
      refine ⟨zs, s3, ?_, q⟩
      unfold compL
      simp only [hp, hc, hr]
theorem we_comp1 {vs : List Nat} {it : EvI} {g : Tg} {c : EvB} {e : EvT} {Q : T → Store → Prop} : WEX (comp1 vs it g c e) env st Q E ↔ WEX it env st (fun xs s => xs.length ≤ 100000 ∧ WC g c e (wipeE vs env) xs s fun ys s => Q (.lst ys) s) E := by
  unfold comp1; rw [we_bind]
  constructor <;> refine fun h => h.impE fun xs s h => ?_
  · unfold WEX at h
    simp only at h
    split at h
    · rename_i a s' h2
      split at h2
      · rename_i hz
        refine ⟨hz, ?_⟩
        split at h2
        · rename_i ys s2 e; cases h2; exact ⟨ys, s', e, h⟩
        · cases h2
      · cases h2
    · rename_i c1 vs1 s' h2
      split at h2
      · split at h2
        · cases h2
        · cases h2
      · cases h2
    · exact h.elim
  · obtain ⟨hz, ys, s', e, q⟩ := h
    exact we_of (a := .lst ys) (s := s') (by simp only [if_pos hz, e]) q
/-- an invariant by what is left; the items made are tied to what was walked -/
theorem wc_inv {g : Tg} {c : EvB} {e : EvT} {env : En} (I : List T → List T → Store → Prop) : ∀ (xs done made : List T) (st : Store), I done made st →
    (∀ (x : T) (done made : List T) (st : Store), x ∈ xs → I done made st → ∃ env', Tg.put g x env = some env' ∧ WE c env' st fun b s => (b = true → WE e env' s fun y s => I (done ++ [x]) (made ++ [y]) s) ∧ (b = false → I (done ++ [x]) made s)) →
    WC g c e env xs st fun ys s => I (done ++ xs) (made ++ ys) s
  | [], done, made, st, h, _ => by rw [wc_nil]; simpa using h
  | x :: xs, done, made, st, h, step => by
    rw [wc_cons]
    obtain ⟨env', hp, h1⟩ := step x done made st List.mem_cons_self h
    refine ⟨env', hp, h1.impE fun b s h2 => ⟨fun hb => (h2.1 hb).impE fun y s h3 => ?_, fun hb => ?_⟩⟩
    · have := wc_inv I xs (done ++ [x]) (made ++ [y]) s h3 fun x' d m st' hx => step x' d m st' (List.mem_cons_of_mem _ hx)
      obtain ⟨ys, s', e, q⟩ := this
      exact ⟨ys, s', e, by simpa using q⟩
    · have := wc_inv I xs (done ++ [x]) made s (h2.2 hb) fun x' d m st' hx => step x' d m st' (List.mem_cons_of_mem _ hx)
      obtain ⟨ys, s', e, q⟩ := this
      exact ⟨ys, s', e, by simpa using q⟩

/-! ### statements -/
variable {Q : Fl → En → Store → Prop}
theorem ws_nx : WSX sNx env st Q E ↔ Q .nx env st := by unfold WSX; exact Iff.rfl
theorem ws_fl {f : Fl} : WSX (sFl f) env st Q E ↔ Q f env st := by unfold WSX; exact Iff.rfl
theorem ws_bind {f : Ev α} {k : α → EvS} : WSX (sBind f k) env st Q E ↔ WEX f env st (fun a s => WSX (k a) env s Q E) E := by
  unfold WSX WEX sBind
  cases f env st <;> exact Iff.rfl
theorem ws_seq {f g : EvS} : WSX (sSeq f g) env st Q E ↔ WSX f env st (fun fl e s => (fl = .nx → WSX g e s Q E) ∧ (fl ≠ .nx → Q fl e s)) E := by
  unfold WSX sSeq
  cases f env st with
  | bad => exact Iff.rfl
  | err _ _ _ _ => exact Iff.rfl
  | ok fl e s =>
    cases fl with
    | nx => exact ⟨fun h => ⟨fun _ => h, fun z => absurd rfl z⟩, fun h => h.1 rfl⟩
    | ret t => exact ⟨fun h => ⟨fun z => (by cases z), fun _ => h⟩, fun h => h.2 fun z => by cases z⟩
    | brk => exact ⟨fun h => ⟨fun z => (by cases z), fun _ => h⟩, fun h => h.2 fun z => by cases z⟩
    | ct => exact ⟨fun h => ⟨fun z => (by cases z), fun _ => h⟩, fun h => h.2 fun z => by cases z⟩
theorem ws_pick {f g : EvS} {b : Bool} : WSX (sPick f g b) env st Q E ↔ (b = true → WSX f env st Q E) ∧ (b = false → WSX g env st Q E) := by
  cases b
  · exact ⟨fun h => ⟨fun z => (by cases z), fun _ => h⟩, fun h => h.2 rfl⟩
  · exact ⟨fun h => ⟨fun _ => h, fun z => (by cases z)⟩, fun h => h.1 rfl⟩
theorem ws_if {c : EvB} {f g : EvS} : WSX (sIf c f g) env st Q E ↔ WEX c env st (fun b s => (b = true → WSX f env s Q E) ∧ (b = false → WSX g env s Q E)) E := by
  unfold sIf; simp only [ws_bind, ws_pick]
theorem ws_ret {f : EvT} : WSX (sRet f) env st Q E ↔ WEX f env st (fun t s => Q (.ret t) env s) E := by
  unfold sRet; simp only [ws_bind, ws_fl]
theorem ws_expr {f : EvT} : WSX (sExpr f) env st Q E ↔ WEX f env st (fun _ s => Q .nx env s) E := by
  unfold sExpr; simp only [ws_bind, ws_nx]
theorem ws_raise {x : Str} {ns : List Str} {f : Ev (List T)} : WSX (sRaise x ns f) env st Q E ↔ WEX f env st (fun ts s => ts.length + 1 = ns.length ∧ E x (ts.reverse ++ [.str x]) s) E := by
  unfold sRaise; rw [ws_bind]
  constructor <;> refine fun h => h.impE fun ts s h => ?_
  · unfold WSX at h
    by_cases hl : ts.length + 1 = ns.length
    · simp only [if_pos hl] at h; exact ⟨hl, h⟩
    · simp only [if_neg hl] at h
  · unfold WSX
    simp only [if_pos h.1]
    exact h.2
theorem ws_env {f : En → Option En} : WSX (sEnv f) env st Q E ↔ ∃ e, f env = some e ∧ Q .nx e st := by
  unfold WSX sEnv
  cases f env <;> simp
theorem ws_asg {g : Tg} {f : EvT} : WSX (sAsg g f) env st Q E ↔ WEX f env st (fun t s => ∃ e, Tg.put g t env = some e ∧ Q .nx e s) E := by
  unfold sAsg; simp only [ws_bind, ws_env]
theorem ws_asgN {i : Nat} {f : EvT} : WSX (sAsg (.name i) f) env st Q E ↔ WEX f env st (fun t s => Q .nx (env.set i (.fr t)) s) E := by
  rw [ws_asg]; simp [Tg.put]
theorem ws_own {i : Nat} {f : EvT} : WSX (sOwn i f) env st Q E ↔ WEX f env st (fun t s => ∃ e, ownTo i t env = some e ∧ Q .nx e s) E := by
  unfold sOwn; simp only [ws_bind, ws_env]
theorem ws_cell {i : Nat} {t : T} : WSX (toCell i t) env st Q E ↔ ∃ xs, t = .lst xs ∧ Q .nx (env.set i (.fr (.obj st.length))) (st ++ [.lst xs]) := by
  cases t <;> simp [WSX, toCell]
theorem ws_shr {i : Nat} {f : EvT} : WSX (sShr i f) env st Q E ↔ WEX f env st (fun t s => ∃ xs, t = .lst xs ∧ Q .nx (env.set i (.fr (.obj s.length))) (s ++ [.lst xs])) E := by
  unfold sShr; simp only [ws_bind, ws_cell]
theorem ws_par {is : List Nat} {fs : List EvT} : WSX (sPar is fs) env st Q E ↔ WEX (evL fs) env st (fun ts s => ∃ e, putN is ts env = some e ∧ Q .nx e s) E := by
  unfold sPar; simp only [ws_bind, ws_env]
theorem ws_sto {f : Store → Option Store} : WSX (sSto f) env st Q E ↔ ∃ s, f st = some s ∧ Q .nx env s := by
  unfold WSX sSto
  cases f st <;> simp
theorem ws_ix {e o i : EvT} : WSX (sIx e o i) env st Q E ↔ WEX e env st (fun v s => WEX o env s (fun x s => WEX i env s (fun k s => ∃ s', setIx s v x k = some s' ∧ Q .nx env s') E) E) E := by
  unfold sIx; simp only [ws_bind, ws_sto]
theorem ws_upd {i : Nat} {f : Ev (List T)} {op : T → List T → Option T} : WSX (sUpd i f op) env st Q E ↔ isOwn env[i]? = true ∧ WEX f env st (fun ts s => ∃ e, updOwn i op ts env = some e ∧ Q .nx e s) E := by
  cases h : isOwn env[i]? with
  | false =>
    have : WSX (sUpd i f op) env st Q E ↔ False := by unfold WSX; simp only [sUpd, h]
    rw [this]; simp
  | true =>
    have : WSX (sUpd i f op) env st Q E ↔ WSX (sBind f (fun ts => sEnv (updOwn i op ts))) env st Q E := by
      unfold WSX; simp only [sUpd, h]
    rw [this]
    simp only [ws_bind, ws_env, true_and]
theorem ws_frz {is : List Nat} {f : EvS} : WSX (frz is f) env st Q E ↔ WSX f (frzE is env) st Q E := by unfold WSX; exact Iff.rfl
theorem ws_aug {i : Nat} {op : T → T → Option T} {f : EvT} : WSX (sAug i op f) env st Q E ↔ ∃ x, env[i]? = some (.fr x) ∧ WEX f env st (fun y s => ∃ z, op x y = some z ∧ Q .nx (env.set i (.fr z)) s) E := by
  cases h : env[i]? with
  | none => simp [WSX, sAug, h]
  | some sl =>
    cases sl with
    | fr x =>
      have : WSX (sAug i op f) env st Q E ↔ WSX (sBind f (fun y => sEnv fun env => (op x y).map fun z => env.set i (.fr z))) env st Q E := by
        unfold WSX; simp only [sAug, h]
      rw [this]
      simp only [ws_bind, ws_env, Option.some.injEq, Slot.fr.injEq, Option.map_eq_some_iff, exists_eq_left']
      constructor <;> refine fun h => h.impE fun a s h => ?_
      · obtain ⟨e, ⟨z, hz, rfl⟩, q⟩ := h; exact ⟨z, hz, q⟩
      · obtain ⟨z, hz, q⟩ := h; exact ⟨_, ⟨z, hz, rfl⟩, q⟩
    | _ => simp [WSX, sAug, h]
theorem ws_for {it : EvI} {g : Tg} {body : EvS} : WSX (sFor it g body) env st Q E ↔ WEX it env st (fun xs s => WSX (forL g body xs) env s Q E) E := ws_bind
theorem ws_forNil {g : Tg} {body : EvS} : WSX (forL g body []) env st Q E ↔ Q .nx env st := by unfold WSX; exact Iff.rfl
theorem ws_forCons {g : Tg} {body : EvS} {x : T} {xs : List T} (h : ∃ e, Tg.put g x env = some e ∧ WSX body e st (fun fl e s => match fl with
    | .nx => WSX (forL g body xs) e s Q E
    | .ct => WSX (forL g body xs) e s Q E
    | .brk => Q .nx e s
    | .ret t => Q (.ret t) e s) E) : WSX (forL g body (x :: xs)) env st Q E := by
  obtain ⟨e, hp, h⟩ := h
  unfold WSX forL
  rw [hp]
  simp only
  unfold WSX at h
  cases hb : body e st with
  | bad => rw [hb] at h; exact h.elim
  | err c vs e1 s1 => rw [hb] at h; exact h
  | ok fl e1 s1 =>
    rw [hb] at h
    cases fl with
    | nx => exact h
    | ct => exact h
    | brk => exact h
    | ret t => exact h
/-- a loop that goes to its end -/
theorem ws_forInv {g : Tg} {body : EvS} (I : List T → En → Store → Prop) : ∀ (xs done : List T) (env : En) (st : Store), I done env st →
    (∀ (x : T) (done : List T) (env : En) (st : Store), x ∈ xs → I done env st → ∃ e, Tg.put g x env = some e ∧ WSX body e st (fun fl e s => fl = .nx ∧ I (done ++ [x]) e s) E) →
    WSX (forL g body xs) env st (fun fl e s => fl = .nx ∧ I (done ++ xs) e s) E
  | [], done, env, st, h, _ => by rw [ws_forNil]; simpa using h
  | x :: xs, done, env, st, h, step => by
    obtain ⟨e, hp, hb⟩ := step x done env st List.mem_cons_self h
    refine ws_forCons ⟨e, hp, hb.impE ?_⟩
    rintro fl e s ⟨rfl, h2⟩
    have := ws_forInv I xs (done ++ [x]) e s h2 fun x' d en st' hx => step x' d en st' (List.mem_cons_of_mem _ hx)
    exact this.impE fun fl e s q => by simpa using q
/-- a while by a measure -/
theorem ws_whileInv {c : EvB} {body : EvS} (I : Nat → En → Store → Prop) (R : En → Store → Prop) (step : ∀ m env st, I m env st → WEX c env st (fun b s => (b = true → WSX body env s (fun fl e s => fl = .nx ∧ ∃ m', m' < m ∧ I m' e s) E) ∧ (b = false → R env s)) E) :
    ∀ (n m : Nat) (env : En) (st : Store), I m env st → m < n → WSX (whileL c body n) env st (fun fl e s => fl = .nx ∧ R e s) E
  | 0, m, _, _, _, hm => by omega
  | n + 1, m, env, st, h, hm => by
    have hs := step m env st h
    unfold WEX at hs
    unfold WSX whileL
    cases hc : c env st with
    | bad => rw [hc] at hs; exact hs.elim
    | err _ _ _ => rw [hc] at hs; exact hs
    | ok b s =>
      rw [hc] at hs
      obtain ⟨h1, h2⟩ := hs
      cases b with
      | false => exact ⟨rfl, h2 rfl⟩
      | true =>
        have hb := h1 rfl
        unfold WSX at hb
        simp only
        cases hbb : body env s with
        | bad => rw [hbb] at hb; exact hb.elim
        | err _ _ _ _ => rw [hbb] at hb; exact hb
        | ok fl e s1 =>
          rw [hbb] at hb
          obtain ⟨rfl, m', hm', h3⟩ := hb
          have := ws_whileInv I R step n m' e s1 h3 (by omega)
          unfold WSX at this
          exact this
def endQ (Q : T → Store → Prop) : Fl → En → Store → Prop
  | .nx, _, s => Q .non s
  | .ret t, _, s => Q t s
  | _, _, _ => False
theorem wn_run {p n : Nat} {body : EvS} {ts : List T} {Q : T → Store → Prop} : WNX (runFn p n body) ts st Q E ↔ ts.length = p ∧ WSX body (startE n ts) st (endQ Q) E := by
  unfold WNX runFn
  by_cases hp : ts.length = p
  · rw [if_pos hp]
    unfold WSX
    cases body (startE n ts) st with
    | bad => simp [endFn]
    | err _ _ _ _ => simp [endFn, hp]
    | ok fl e s => cases fl <;> simp [endFn, endQ, hp]
  · rw [if_neg hp]
    simp [hp]
/-- a def of two parameters, .. -/
theorem wn_go {p n : Nat} {body : EvS} {ts : List T} {Q : T → Store → Prop} (hp : ts.length = p) (h : WSX body (startE n ts) st (endQ Q) E) : WNX (runFn p n body) ts st Q E := wn_run.mpr ⟨hp, h⟩
/-! ### what a try tells -/
theorem we_try {xn : Str → Option (List Str)} {w : Str} {hs : List HdD} {ti : Nat} {q : Str} {act : EvT} {Q : T → Store → Prop} (ht : tabAt st ti q = true)
    (h : WEX act env st (fun t s => Q (.tup [.str w, t]) s) fun c vs s => ∃ fs ns ts, pickH hs c = some fs ∧ xn c = some ns ∧ fldsT ns vs fs = some ts ∧ Q (.tup ts) s) : WEX (tryE xn w hs ti q act) env st Q E := by
  unfold WEX tryE at *
  rw [ht]
  simp only
  cases ha : act env st with
  | bad => rw [ha] at h; exact h.elim
  | ok t s => rw [ha] at h; exact h
  | err c vs s =>
    rw [ha] at h
    obtain ⟨fs, ns, ts, h1, h2, h3, q⟩ := h
    unfold triedR
    simp only [h1, h2, h3]
    exact q
theorem we_is {xn : Str → Option (List Str)} {w : Str} {hs : List HdD} {ti : Nat} {q : Str} {act due : EvT} {like : FnD} {Q : T → Store → Prop} (ht : tabAt st ti q = true)
    (h : WEX due env st (fun d s => WEX act env s (fun t s => WN like [.tup [.str w, t], d] s Q) fun c vs s => ∃ fs ns ts, pickH hs c = some fs ∧ xn c = some ns ∧ fldsT ns vs fs = some ts ∧ WN like [.tup ts, d] s Q) E) : WEX (isE xn w hs ti q act like due) env st Q E := by
  unfold WEX isE at *
  rw [ht]
  simp only [Ev.bind]
  cases hd : due env st with
  | bad => rw [hd] at h; exact h.elim
  | err c vs s => rw [hd] at h; exact h
  | ok d s =>
    rw [hd] at h
    simp only at h ⊢
    cases ha : act env s with
    | bad => rw [ha] at h; exact h.elim
    | ok t s1 =>
      rw [ha] at h
      obtain ⟨u, s2, e, q⟩ := WN.ex h
      unfold triedR
      simp only [e]
      exact q
    | err c vs s1 =>
      rw [ha] at h
      obtain ⟨fs, ns, ts, h1, h2, h3, h4⟩ := h
      obtain ⟨u, s2, e, q⟩ := WN.ex h4
      unfold triedR
      simp only [h1, h2, h3, e]
      exact q
end
end Mp


set_option Elab.async false
set_option linter.all false
set_option maxRecDepth 100000
set_option maxHeartbeats 1000000
/-! Bag: the script's bag, a pull from it. -/
namespace Mp
open PySem
structure Bag where
  sc : List Int
  at_ : Int
  rest : Int
  seed : Int
def Bag.cell (b : Bag) : Cell := .lst [.lst (b.sc.map T.int), .int b.at_, .int b.rest, .int b.seed]
structure Bag.ok (b : Bag) : Prop where
  a0 : 0 ≤ b.at_
  l : b.sc.length ≤ 63
  s0 : 0 ≤ b.seed
  s1 : b.seed < 2147483629
/-- pulled so far so often -/
def S_pull : EvS := sSeq (sIf (testV (ev2 opGe (ev2S opIx (var 0) (con (.int 2))) (var 1))) (sSeq (sAsg (.name 2) (ev2 opMod (ev2S opIx (var 0) (con (.int 2))) (var 1))) (sSeq (sIx (ev2 opDiv (ev2S opIx (var 0) (con (.int 2))) (var 1)) (var 0) (con (.int 2))) (sRet (var 2)))) (sNx)) (sSeq (sAsg (.name 3) (con (.int 0))) (sSeq (sIf (testV (ev2 opLt (ev2S opIx (var 0) (con (.int 1))) (ev1S lenT (ev2S opIx (var 0) (con (.int 0)))))) (sAsg (.name 3) (ev2S opIx (ev2S opIx (var 0) (con (.int 0))) (ev2S opIx (var 0) (con (.int 1))))) (sNx)) (sSeq (sIx (ev2 opAdd (ev2S opIx (var 0) (con (.int 1))) (con (.int 1))) (var 0) (con (.int 1))) (sSeq (sIf (testV (ev2 opGe (var 3) (ev2 opPow (con (.int 10)) (con (.int 18))))) (sSeq (sIx (ev2 opDiv (var 3) (var 1)) (var 0) (con (.int 2))) (sRet (ev2 opMod (var 3) (var 1)))) (sNx)) (sSeq (sIx (ev2 opMod (ev2 opAdd (ev2 opAdd (ev2 opAdd (ev2 opPow (ev2S opIx (var 0) (con (.int 3))) (con (.int 5))) (ev2 opMul (con (.int 69069)) (ev2S opIx (var 0) (con (.int 1))))) (ev2 opMod (var 3) (con (.int 1000003)))) (con (.int 7))) (con (.int 2147483629))) (var 0) (con (.int 3))) (sRet (ev2 opMod (ev2 opAdd (ev2 opDiv (ev2S opIx (var 0) (con (.int 3))) (con (.int 9))) (var 3)) (var 1))))))))
theorem bag_ix0 {st : Store} {n : Nat} {b : Bag} (h : st[n]? = some b.cell) : opIx st (.obj n) (.int 0) = some (.lst (b.sc.map T.int)) := by simp [opIx, opIxS, seqOf, h, Bag.cell, ixOf]
theorem bag_ix1 {st : Store} {n : Nat} {b : Bag} (h : st[n]? = some b.cell) : opIx st (.obj n) (.int 1) = some (.int b.at_) := by simp [opIx, opIxS, seqOf, h, Bag.cell, ixOf]
theorem bag_ix2 {st : Store} {n : Nat} {b : Bag} (h : st[n]? = some b.cell) : opIx st (.obj n) (.int 2) = some (.int b.rest) := by simp [opIx, opIxS, seqOf, h, Bag.cell, ixOf]
theorem bag_ix3 {st : Store} {n : Nat} {b : Bag} (h : st[n]? = some b.cell) : opIx st (.obj n) (.int 3) = some (.int b.seed) := by simp [opIx, opIxS, seqOf, h, Bag.cell, ixOf]
theorem bag_set1 {st : Store} {n : Nat} {b : Bag} {v : Int} (h : st[n]? = some b.cell) : setIx st (.int v) (.obj n) (.int 1) = some (st.set n { b with at_ := v }.cell) := by simp [setIx, h, Bag.cell, ixOf]
theorem bag_set2 {st : Store} {n : Nat} {b : Bag} {v : Int} (h : st[n]? = some b.cell) : setIx st (.int v) (.obj n) (.int 2) = some (st.set n { b with rest := v }.cell) := by simp [setIx, h, Bag.cell, ixOf]
theorem bag_set3 {st : Store} {n : Nat} {b : Bag} {v : Int} (h : st[n]? = some b.cell) : setIx st (.int v) (.obj n) (.int 3) = some (st.set n { b with seed := v }.cell) := by simp [setIx, h, Bag.cell, ixOf]
theorem opDiv_ok {i j : Int} (h0 : 0 < j) (h1 : j < 2 ^ 2000) : opDiv (.int i) (.int j) = some (.int (i / j)) := if_pos ⟨h0, h1⟩
theorem opMod_ok {i j : Int} (h0 : 0 < j) : opMod (.int i) (.int j) = some (.int (i % j)) := if_pos h0
theorem bigI_of {i : Int} (h : i.natAbs < 2 ^ 100) : bigI i = true := decide_eq_true (Nat.lt_of_lt_of_le h (Nat.pow_le_pow_right (by decide) (by decide)))
theorem opMul_ok {i j : Int} (hi : i.natAbs < 2 ^ 100) (hj : j.natAbs < 2 ^ 100) : opMul (.int i) (.int j) = some (.int (i * j)) := by
  show (if (bigI i && bigI j) = true then some (T.int (i * j)) else none) = _
  rw [bigI_of hi, bigI_of hj]; rfl
theorem opPow_ok {i j : Int} (h0 : 0 ≤ j ∧ j ≤ 1000 ∧ i.natAbs < 2 ^ 64) : opPow (.int i) (.int j) = some (.int (i ^ j.toNat)) := if_pos h0
theorem lenL_ok {st : Store} {xs : List T} : lenT st (.lst xs) = some (.int xs.length) := rfl
theorem ixL_ok {st : Store} {xs : List T} {i : Int} {t : T} (h0 : 0 ≤ i) (h : xs[i.toNat]? = some t) : opIx st (.lst xs) (.int i) = some t := by
  have h1 : i.toNat < xs.length := (List.getElem?_eq_some_iff.mp h).1
  have : ixOf i xs.length = some i.toNat := by
    unfold ixOf
    rw [if_pos h0, if_pos (by omega)]
  show (match seqOf st (.lst xs) with | some xs => (match ixOf i xs.length with | some k => xs[k]? | none => none) | none => none) = _
  simp only [seqOf, this, h]
theorem ixT_ok {st : Store} {xs : List T} {i : Int} {t : T} (h0 : 0 ≤ i) (h : xs[i.toNat]? = some t) : opIx st (.tup xs) (.int i) = some t := by
  have h1 : i.toNat < xs.length := (List.getElem?_eq_some_iff.mp h).1
  have : ixOf i xs.length = some i.toNat := by
    unfold ixOf
    rw [if_pos h0, if_pos (by omega)]
  show (match seqOf st (.tup xs) with | some xs => (match ixOf i xs.length with | some k => xs[k]? | none => none) | none => none) = _
  simp only [seqOf, this, h]
/-- one step of a text, forwards -/
local macro_rules | `(tactic| fold_depth) => `(tactic| first
  | refine ws_seq.mpr ?_ | refine ws_if.mpr ?_ | refine ws_ret.mpr ?_ | refine ws_asgN.mpr ?_ | refine ws_ix.mpr ?_ | refine ws_nx.mpr ?_
  | refine we_ev2.mpr ?_ | refine we_ev2S.mpr ?_ | refine we_ev1S.mpr ?_ | refine we_ev1.mpr ?_ | refine we_con.mpr ?_ | refine we_testV.mpr ?_
  | refine we_var.mpr ⟨_, rfl, ?_⟩
  | refine ⟨fun (_ : Fl.nx = Fl.nx) => ?_, fun (z : Fl.nx ≠ Fl.nx) => absurd rfl z⟩ | refine ⟨fun (z : Fl.ret _ = Fl.nx) => Fl.noConfusion z, fun _ => ?_⟩ | refine fun (_ : Fl.ret _ ≠ Fl.nx) => ?_
  | refine ⟨_, bag_ix0 (by assumption), ?_⟩ | refine ⟨_, bag_ix1 (by assumption), ?_⟩ | refine ⟨_, bag_ix2 (by assumption), ?_⟩ | refine ⟨_, bag_ix3 (by assumption), ?_⟩
  | refine ⟨_, opMod_ok (by first | assumption | decide), ?_⟩ | refine ⟨_, opDiv_ok (by first | assumption | decide) (by first | assumption | decide), ?_⟩
  | refine ⟨_, rfl, ?_⟩)
theorem pull_spec {n : Nat} {st : Store} {b : Bag} {size : Int} (hb : st[n]? = some b.cell) (ok : b.ok) (h0 : 0 < size) (h1 : size < 2 ^ 2000) (ha : b.at_ < 2 ^ 60) :
    WN (runFn 2 4 S_pull) [.obj n, .int size] st fun t st' => ∃ (r : Int) (b' : Bag), t = .int r ∧ 0 ≤ r ∧ r < size ∧ st' = st.set n b'.cell ∧ b'.ok ∧ b'.at_ ≤ b.at_ + 1 := by
  refine wn_run.mpr ?_
  refine ⟨rfl, ?_⟩
  have hn : n < st.length := (List.getElem?_eq_some_iff.mp hb).1
  have e0 : startE 4 [T.obj n, T.int size] = [.fr (.obj n), .fr (.int size), .no, .no] := rfl
  rw [e0]
  have ix : ∀ {st : Store} {c : Cell}, n < st.length → (st.set n c)[n]? = some c := fun h => List.getElem?_set_self h
  unfold S_pull
  repeat fold_depth
  refine ⟨fun hc => ?_, fun hc => ?_⟩
  · have hc : size ≤ b.rest := by simpa using hc
    repeat fold_depth
    refine ⟨_, bag_set2 hb, ?_⟩
    repeat fold_depth
    exact ⟨_, _, rfl, Int.emod_nonneg _ (by omega), Int.emod_lt_of_pos _ h0, rfl, ⟨ok.a0, ok.l, ok.s0, ok.s1⟩, by show b.at_ ≤ b.at_ + 1; omega⟩
  · fold_depth
    fold_depth
    fold_depth
    fold_depth
    fold_depth
    fold_depth
    fold_depth
    refine WS.imp (Q := fun fl e s => fl = .nx ∧ s = st ∧ ∃ c : Int, e = [.fr (.obj n), .fr (.int size), .no, .fr (.int c)]) ?_ ?_
    · repeat fold_depth
      refine ⟨fun hc2 => ?_, fun hc2 => ?_⟩
      · have hc2 : b.at_ < (b.sc.length : Int) := by simpa using hc2
        have a0 := ok.a0
        have hlt : b.at_.toNat < b.sc.length := by omega
        repeat fold_depth
        refine ⟨_, ixL_ok (t := .int b.sc[b.at_.toNat]) a0 (by simp [hlt]), ?_⟩
        exact ⟨rfl, rfl, _, rfl⟩
      · repeat fold_depth
        exact ⟨rfl, rfl, 0, rfl⟩
    · rintro fl e s ⟨rfl, rfl, c, rfl⟩
      repeat fold_depth
      refine ⟨_, bag_set1 hb, ?_⟩
      have hb1 := ix (c := Bag.cell { b with at_ := b.at_ + 1 }) hn
      have hn1 : n < (s.set n (Bag.cell { b with at_ := b.at_ + 1 })).length := by simpa using hn
      repeat fold_depth
      refine ⟨fun hc3 => ?_, fun hc3 => ?_⟩
      · repeat fold_depth
        refine ⟨_, bag_set2 hb1, ?_⟩
        repeat fold_depth
        refine ⟨_, _, rfl, Int.emod_nonneg _ (by omega), Int.emod_lt_of_pos _ h0, List.set_set .., ⟨?_, ok.l, ok.s0, ok.s1⟩, ?_⟩
        · show 0 ≤ b.at_ + 1; have := ok.a0; omega
        · show b.at_ + 1 ≤ b.at_ + 1; omega
      · repeat fold_depth
        refine ⟨_, opPow_ok ⟨by decide, by decide, ?_⟩, ?_⟩
        · show b.seed.natAbs < 2 ^ 64
          have := ok.s0; have := ok.s1; omega
        repeat fold_depth
        refine ⟨_, opMul_ok (by decide) ?_, ?_⟩
        · show (b.at_ + 1).natAbs < 2 ^ 100
          have := ok.a0; omega
        repeat fold_depth
        refine ⟨_, bag_set3 hb1, ?_⟩
        generalize hs : ((b.seed ^ Int.toNat 5 + 69069 * (b.at_ + 1) + c % 1000003 + 7) % 2147483629 : Int) = sd
        have s0 : 0 ≤ sd := by rw [← hs]; exact Int.emod_nonneg _ (by decide)
        have s1 : sd < 2147483629 := by rw [← hs]; exact Int.emod_lt_of_pos _ (by decide)
        have hb2 := ix (c := Bag.cell { b with at_ := b.at_ + 1, seed := sd }) hn1
        repeat fold_depth
        refine ⟨_, _, rfl, Int.emod_nonneg _ (by omega), Int.emod_lt_of_pos _ h0, List.set_set .., ⟨?_, ok.l, s0, s1⟩, ?_⟩
        · show 0 ≤ b.at_ + 1; have := ok.a0; omega
        · show b.at_ + 1 ≤ b.at_ + 1; omega
end Mp


set_option Elab.async false
set_option linter.all false
set_option maxRecDepth 100000
set_option maxHeartbeats 1000000
/-! Kit: what every law's texts call: the bag, one of these, alike. -/
namespace Mp
open PySem
/-- the bag stands in place n; so many pulls at most -/
def Bg (n N : Nat) (s0 st : Store) : Prop := n < s0.length ∧ ∃ b : Bag, st = s0.set n b.cell ∧ b.ok ∧ b.at_ ≤ N
theorem Bg.up {n N M : Nat} {s0 st : Store} (h : Bg n N s0 st) (l : N ≤ M) : Bg n M s0 st := by
  obtain ⟨h0, b, h1, h2, h3⟩ := h
  exact ⟨h0, b, h1, h2, by omega⟩
theorem Bg.len {n N : Nat} {s0 st : Store} (h : Bg n N s0 st) : st.length = s0.length := by
  obtain ⟨h0, b, rfl, h2, h3⟩ := h
  exact List.length_set
/-- the other places -/
theorem Bg.at {n N m : Nat} {s0 st : Store} (h : Bg n N s0 st) (e : m ≠ n) : st[m]? = s0[m]? := by
  obtain ⟨h0, b, rfl, h2, h3⟩ := h
  exact List.getElem?_set_ne (Ne.symm e)
theorem Bg.tab {n N m : Nat} {q : Str} {s0 st : Store} (h : Bg n N s0 st) (e : m ≠ n) (t : tabAt s0 m q = true) : tabAt st m q = true := by
  unfold tabAt at t ⊢
  rw [h.at e]
  exact t
theorem wn_pull {n N : Nat} {size : Int} {s0 st : Store} {Q : T → Store → Prop} (h : Bg n N s0 st) (h0 : 0 < size) (h1 : size < 2 ^ 200) (hN : N < 2 ^ 60) (q : ∀ (r : Int) st', 0 ≤ r → r < size → Bg n (N + 1) s0 st' → Q (.int r) st') :
    WN (runFn 2 4 S_pull) [.obj n, .int size] st Q := by
  obtain ⟨hn, b, rfl, ok, ha⟩ := h
  refine (pull_spec (List.getElem?_set_self hn) ok h0 (Int.lt_of_lt_of_le h1 (by decide +kernel)) (by omega)).imp ?_
  rintro t st' ⟨r, b', rfl, r0, r1, rfl, ok', ha'⟩
  exact q r _ r0 r1 ⟨hn, b', List.set_set _, ok', by omega⟩
theorem eqI {i : Int} : opEq (.int i) (.int i) = some (.bl true) := by
  show some (T.bl (i == i)) = _
  simp
theorem neN {i : Int} : opNe (.int i) (.int i) = some (.bl false) := by
  show some (T.bl (!(i == i))) = _
  simp
theorem eqB : ∀ {b : Bool}, opEq (.bl b) (.bl b) = some (.bl true)
  | true => rfl
  | false => rfl
/-- one step of a text, forwards -/
local macro_rules | `(tactic| fold_depth) => `(tactic| first
  | (with_reducible first
    | refine ws_seq.mpr ?_ | refine ws_if.mpr ?_ | refine ws_ret.mpr ?_ | refine ws_asgN.mpr ?_ | refine ws_asg.mpr ?_ | refine ws_ix.mpr ?_ | refine ws_nx.mpr ?_ | refine ws_par.mpr ?_ | refine ws_for.mpr ?_ | refine ws_shr.mpr ?_ | refine ws_aug.mpr ?_ | refine ws_upd.mpr ?_ | refine ws_own.mpr ?_ | refine ws_frz.mpr ?_ | refine ws_fl.mpr ?_
    | refine we_ev2.mpr ?_ | refine we_ev2S.mpr ?_ | refine we_ev3S.mpr ?_ | refine we_ev1S.mpr ?_ | refine we_ev1.mpr ?_ | refine we_con.mpr ?_ | refine we_testV.mpr ?_
    | refine we_callP.mpr ?_ | refine we_cons.mpr ?_ | refine we_nil.mpr ?_ | refine we_evN.mpr ?_ | refine we_andB.mpr ?_ | refine we_orB.mpr ?_ | refine we_notT.mpr ?_ | refine we_andV.mpr ?_ | refine we_notV.mpr ?_ | refine we_orV.mpr ?_ | refine we_ite.mpr ?_ | refine we_chain.mpr ?_
    | refine we_bind.mpr ?_ | refine we_pure.mpr ?_ | refine we_part.mpr ?_ | refine we_itRng1.mpr ?_ | refine we_itRng2.mpr ?_ | refine we_itSeq.mpr ?_ | refine we_comp1.mpr ?_ | refine we_peek.mpr ?_ | refine we_ownV.mpr ?_ | refine we_var.mpr ?_
    | refine ⟨_, neN, ?_⟩ | refine ⟨_, eqI, ?_⟩ | refine ⟨_, eqB, ?_⟩)
  | refine ⟨fun (_ : Fl.nx = Fl.nx) => ?_, fun (z : Fl.nx ≠ Fl.nx) => absurd rfl z⟩ | refine ⟨fun (z : Fl.ret _ = Fl.nx) => Fl.noConfusion z, fun _ => ?_⟩ | refine fun (_ : Fl.ret _ ≠ Fl.nx) => ?_
  | refine ⟨fun (_ : true = true) => ?_, fun (z : true = false) => Bool.noConfusion z⟩ | refine ⟨fun (z : false = true) => Bool.noConfusion z, fun (_ : false = false) => ?_⟩
  | refine ⟨.bl true, rfl, ?_⟩ | refine ⟨.bl false, rfl, ?_⟩ | refine ⟨true, rfl, ?_⟩ | refine ⟨false, rfl, ?_⟩
  | refine ⟨_, rfl, ?_⟩)
def S_bag : EvS := sRet (evN mkLst [ev1S listT (ev3S opCut (var 0) (con .non) (Ev.bind (con (.int 63)) asPart)), con (.int 0), con (.int 0), ev2 opAdd (con (.int 9463)) (ev1S lenT (ev3S opCut (var 0) (con .non) (Ev.bind (con (.int 63)) asPart)))])
theorem lim_pos {n : Nat} {i : Int} {d : Option Nat} (h : 0 ≤ i) (h1 : i < 2 ^ 60) : lim n (.int i) d = some (min i.toNat n) := by
  have : lim n (.int i) d = (if -(2 ^ 60) < i ∧ i < 2 ^ 60 then some (if i < 0 then (n + i).toNat else min i.toNat n) else none) := rfl
  rw [this, if_pos ⟨by omega, h1⟩, if_neg (by omega)]
theorem lim_neg {n : Nat} {i : Int} {d : Option Nat} (h : i < 0) (h1 : -(2 ^ 60) < i) : lim n (.int i) d = some (n + i).toNat := by
  have : lim n (.int i) d = (if -(2 ^ 60) < i ∧ i < 2 ^ 60 then some (if i < 0 then (n + i).toNat else min i.toNat n) else none) := rfl
  rw [this, if_pos ⟨h1, by omega⟩, if_pos h]
theorem cut63 {st : Store} {n : Nat} {ns : List Int} (h : st[n]? = some (.scr (ns.map T.int))) (l : ns.length ≤ 63) : opCut st (.obj n) .non (.int 63) = some (.lst (ns.map T.int)) := by
  have : min (Int.toNat 63) (ns.map T.int).length = (ns.map T.int).length := by simp; omega
  simp only [opCut, h]
  have e1 : lim (ns.map T.int).length .non (some 0) = some 0 := rfl
  have e2 : lim (ns.map T.int).length (.int 63) (some (ns.map T.int).length) = some (ns.map T.int).length := by
    rw [lim_pos (by decide) (by decide), this]
  rw [e1, e2]
  have : (ns.map T.int).take ns.length = ns.map T.int := List.take_of_length_le (by simp)
  simp [cutT, this]
theorem wn_bag {st : Store} {n : Nat} {ns : List Int} {Q : T → Store → Prop} (h : st[n]? = some (.scr (ns.map T.int))) (l : ns.length ≤ 63)
    (q : ∀ xs, Bg st.length 0 (st ++ [.no]) (st ++ [.lst xs]) → Q (.lst xs) st) : WN (runFn 1 1 S_bag) [.obj n] st Q := by
  refine wn_run.mpr ?_
  refine ⟨rfl, ?_⟩
  have e0 : startE 1 [T.obj n] = [.fr (.obj n)] := rfl
  rw [e0]
  unfold S_bag
  repeat fold_depth
  refine ⟨_, cut63 h l, ?_⟩
  repeat fold_depth
  refine ⟨_, cut63 h l, ?_⟩
  repeat fold_depth
  refine q _ ⟨by simp, ⟨ns, 0, 0, 9463 + (ns.length : Int)⟩, ?_, ⟨?_, l, ?_, ?_⟩, ?_⟩
  · simp [Bag.cell]
  · show (0 : Int) ≤ 0; omega
  · show (0 : Int) ≤ 9463 + (ns.length : Int); omega
  · show 9463 + (ns.length : Int) < 2147483629; omega
  · show (0 : Int) ≤ ((0 : Nat) : Int); omega
def S_of (pf : FnD) : EvS := sRet (ev2S opIx (var 1) (callP pf [var 0, ev1S lenT (var 1)]))
theorem wn_of {n N : Nat} {ts : List T} {s0 st : Store} {Q : T → Store → Prop} (h : Bg n N s0 st) (h0 : 0 < ts.length) (h1 : ts.length < 2 ^ 60) (hN : N < 2 ^ 60) (q : ∀ t st', t ∈ ts → Bg n (N + 1) s0 st' → Q t st') :
    WN (runFn 2 2 (S_of (runFn 2 4 S_pull))) [.obj n, .lst ts] st Q := by
  refine wn_run.mpr ?_
  refine ⟨rfl, ?_⟩
  have e0 : startE 2 [T.obj n, .lst ts] = [.fr (.obj n), .fr (.lst ts)] := rfl
  rw [e0]
  unfold S_of
  repeat fold_depth
  refine wn_pull h (by omega) (Int.lt_trans (b := 2 ^ 60) (by omega) (by decide +kernel)) hN fun r st' r0 r1 h' => ?_
  have hr : r.toNat < ts.length := by omega
  refine ⟨_, ixL_ok (t := ts[r.toNat]) r0 (List.getElem?_eq_getElem hr), ?_⟩
  exact q _ _ (List.getElem_mem hr) h'
theorem mem_rangeL {t : T} : ∀ {n : Nat} {lo : Int}, t ∈ rangeL lo n → ∃ i : Int, t = .int i ∧ lo ≤ i ∧ i < lo + n
  | 0, lo, h => by cases h
  | n + 1, lo, h => by
    rcases List.mem_cons.mp h with rfl | h
    · exact ⟨lo, rfl, by omega, by omega⟩
    · obtain ⟨i, e, h1, h2⟩ := mem_rangeL h
      exact ⟨i, e, by omega, by omega⟩
theorem len_rangeL : ∀ {n : Nat} {lo : Int}, (rangeL lo n).length = n
  | 0, _ => rfl
  | n + 1, lo => congrArg (· + 1) len_rangeL
/-! ### alike -/
def S_like (f : FnD) : EvS := sSeq (sIf (testV (ev1S (isKind ["tuple", "list"]) (var 1))) (sSeq (sIf (testV (ev2 opNe (ev1S (isKind ["tuple"]) (var 0)) (ev1S (isKind ["tuple"]) (var 1)))) (sRet (con (.bl false))) (sNx)) (sSeq (sIf (orB (Mp.notT (testV (ev1S (isKind ["tuple", "list"]) (var 0)))) (testV (ev2 opNe (ev1S lenT (var 0)) (ev1S lenT (var 1))))) (sRet (con (.bl false))) (sNx)) (sRet (ev1 allT (comp1 [2] (itRng1 (ev1S lenT (var 1))) (.name 2) tYes (callP f [ev2S opIx (var 0) (var 2), ev2S opIx (var 1) (var 2)])))))) (sNx)) (sSeq (sIf (testV (ev1S (isKind ["bool"]) (var 1))) (sRet (andV (ev1S (isKind ["bool"]) (var 0)) (ev2 opEq (var 0) (var 1)))) (sNx)) (sSeq (sIf (testV (ev1S (isKind ["int"]) (var 1))) (sRet (andV (ev1S (isKind ["int"]) (var 0)) (andV (notV (ev1S (isKind ["bool"]) (var 0))) (ev2 opEq (var 0) (var 1))))) (sNx)) (sSeq (sIf (testV (ev1S (isKind ["str"]) (var 1))) (sRet (andV (ev1S (isKind ["str"]) (var 0)) (ev2 opEq (var 0) (var 1)))) (sNx)) (sRet (andV (ev2 opIsN (var 1) (con .non)) (ev2 opIsN (var 0) (con .non)))))))
mutual
/-- plain data that alike looks through -/
def T.lk : Nat → T → Bool
  | 0, _ => false
  | n + 1, .tup xs => decide (xs.length ≤ 100000) && T.lkL n xs
  | n + 1, .lst xs => decide (xs.length ≤ 100000) && T.lkL n xs
  | _ + 1, .str s => s.cps.all fun c => decide (c < 1114112)
  | _ + 1, .non => true
  | _ + 1, .bl _ => true
  | _ + 1, .int _ => true
  | _ + 1, .dct _ => false
  | _ + 1, .set _ => false
  | _ + 1, .ins _ _ _ => false
  | _ + 1, .obj _ => false
def T.lkL : Nat → List T → Bool
  | _, [] => true
  | n, x :: xs => T.lk n x && T.lkL n xs
end
theorem lkL_mem {n : Nat} {x : T} : ∀ {xs : List T}, T.lkL n xs = true → x ∈ xs → T.lk n x = true
  | [], _, h => by cases h
  | y :: ys, h, m => by
    have h : (T.lk n y && T.lkL n ys) = true := h
    rw [Bool.and_eq_true] at h
    rcases List.mem_cons.mp m with rfl | m
    · exact h.1
    · exact lkL_mem h.2 m
theorem bls_rep : ∀ n : Nat, T.bls? (List.replicate n (.bl true)) = some (List.replicate n true)
  | 0 => rfl
  | n + 1 => by simp only [List.replicate_succ, T.bls?, bls_rep n, Option.map_some]
theorem all_rep {n : Nat} : allT (.lst (List.replicate n (.bl true))) = some (.bl true) := by
  have : allT (.lst (List.replicate n (.bl true))) = (T.bls? (List.replicate n (.bl true))).map fun bs => .bl (bs.all id) := rfl
  rw [this, bls_rep]
  simp
theorem eqRefl (s : Str) : (s == s) = true := by
  show (decide (s = s)) = true
  simp
theorem eqS {s : Str} (h : T.lk 1 (.str s) = true) : opEq (.str s) (.str s) = some (.bl true) := by
  have h : T.okd 12 (.str s) = true := h
  show (T.eq? _ _).map T.bl = _
  unfold T.eq?
  rw [h]
  have : T.eqv (.str s) (.str s) = true := by
    show (s == s) = true
    exact eqRefl s
  rw [this]
  rfl
theorem like_seq {f : FnD} {st : Store} {env : En} {xs : List T} {x : T} (hx : x = .tup xs ∨ x = .lst xs) (hl : xs.length ≤ 100000) (h0 : env[0]? = some (.fr x)) (h1 : env[1]? = some (.fr x)) (h2 : env.length = 3)
    (hf : ∀ y, y ∈ xs → WN f [y, y] st fun t st' => t = .bl true ∧ st' = st) :
    WE (ev1 allT (comp1 [2] (itRng1 (ev1S lenT (var 1))) (.name 2) tYes (callP f [ev2S opIx (var 0) (var 2), ev2S opIx (var 1) (var 2)]))) env st fun t st' => t = .bl true ∧ st' = st := by
  have il : lenT st x = some (.int xs.length) := by rcases hx with rfl | rfl <;> rfl
  have ii : ∀ {i : Int}, 0 ≤ i → i < xs.length → ∃ y, y ∈ xs ∧ ∀ st', opIx st' x (.int i) = some y := by
    intro i i0 i1
    have hi : i.toNat < xs.length := by omega
    refine ⟨xs[i.toNat], List.getElem_mem hi, fun st' => ?_⟩
    rcases hx with rfl | rfl
    · exact ixT_ok i0 (List.getElem?_eq_getElem hi)
    · exact ixL_ok i0 (List.getElem?_eq_getElem hi)
  refine we_ev1.mpr (we_comp1.mpr (we_itRng1.mpr (we_ev1S.mpr (we_var.mpr ⟨_, h1, _, il, _, rfl, ⟨by omega, by omega⟩, ?_⟩))))
  refine ⟨by rw [len_rangeL]; omega, ?_⟩
  have e0 : (wipeE [2] env)[0]? = some (.fr x) := by
    show (env.set 2 .no)[0]? = _
    rw [List.getElem?_set_ne (by decide), h0]
  have e1 : (wipeE [2] env)[1]? = some (.fr x) := by
    show (env.set 2 .no)[1]? = _
    rw [List.getElem?_set_ne (by decide), h1]
  have e2 : (wipeE [2] env).length = 3 := by
    show (env.set 2 .no).length = 3
    simp [h2]
  generalize wipeE [2] env = en at e0 e1 e2
  have := wc_inv (g := .name 2) (c := tYes) (e := callP f [ev2S opIx (var 0) (var 2), ev2S opIx (var 1) (var 2)]) (env := en) (fun d m s => s = st ∧ m = List.replicate m.length (.bl true)) (rangeL 0 (Int.toNat xs.length)) [] [] st ⟨rfl, rfl⟩ ?_
  · obtain ⟨ys, s, e, rfl, h⟩ := this
    refine ⟨ys, _, e, .bl true, ?_, rfl, rfl⟩
    have h : ys = List.replicate ys.length (.bl true) := by simpa using h
    rw [h]
    exact all_rep
  · rintro y d m s hy ⟨rfl, hm⟩
    obtain ⟨i, rfl, i0, i1⟩ := mem_rangeL hy
    obtain ⟨y, my, hy⟩ := ii i0 (by omega)
    refine ⟨_, rfl, we_pure.mpr ⟨fun _ => ?_, fun z => Bool.noConfusion z⟩⟩
    have v0 : (en.set 2 (.fr (.int i)))[0]? = some (.fr x) := by rw [List.getElem?_set_ne (by decide), e0]
    have v1 : (en.set 2 (.fr (.int i)))[1]? = some (.fr x) := by rw [List.getElem?_set_ne (by decide), e1]
    have v2 : (en.set 2 (.fr (.int i)))[2]? = some (.fr (.int i)) := List.getElem?_set_self (by omega)
    refine we_callP.mpr (we_cons.mpr (we_ev2S.mpr (we_var.mpr ⟨_, v0, we_var.mpr ⟨_, v2, _, hy _, we_cons.mpr (we_ev2S.mpr (we_var.mpr ⟨_, v1, we_var.mpr ⟨_, v2, _, hy _, we_nil.mpr ?_⟩⟩))⟩⟩)))
    refine (hf y my).imp ?_
    rintro t s' ⟨rfl, rfl⟩
    refine ⟨rfl, ?_⟩
    have : (m ++ [T.bl true]).length = m.length + 1 := by simp
    rw [this, List.replicate_succ', ← hm]
theorem like_case {f : FnD} {st : Store} {xs : List T} {x : T} (hx : x = .tup xs ∨ x = .lst xs) (hl : xs.length ≤ 100000) (ih : ∀ y, y ∈ xs → WN f [y, y] st fun t st' => t = .bl true ∧ st' = st) : WS (S_like f) [.fr x, .fr x, .no] st (endQ fun t st' => t = .bl true ∧ st' = st) := by
  have this := like_seq (f := f) (st := st) (env := [.fr x, .fr x, .no]) hx hl rfl rfl rfl ih
  unfold S_like
  rcases hx with rfl | rfl
  · repeat (first | (fail_if_success (with_reducible refine we_ev1.mpr ?_)); fold_depth)
    with_reducible refine WE.imp this ?_
    exact fun _ _ h => ⟨fun z => Fl.noConfusion z, fun _ => h⟩
  · repeat (first | (fail_if_success (with_reducible refine we_ev1.mpr ?_)); fold_depth)
    with_reducible refine WE.imp this ?_
    exact fun _ _ h => ⟨fun z => Fl.noConfusion z, fun _ => h⟩
theorem wn_like0 {f : Nat → FnD} {st : Store} (hf : ∀ n, n < 13 → f (n + 1) = runFn 2 3 (S_like (f n))) : ∀ (n : Nat) (x : T), n ≤ 13 → T.lk n x = true → WN (f n) [x, x] st fun t st' => t = .bl true ∧ st' = st
  | 0, _, _, h => by unfold T.lk at h; cases h
  | n + 1, x, hn, h => by
    rw [hf n hn]
    refine wn_run.mpr ?_
    refine ⟨rfl, ?_⟩
    have e0 : startE 3 [x, x] = [.fr x, .fr x, .no] := rfl
    rw [e0]
    cases x with
    | tup xs =>
      have h : (decide (xs.length ≤ 100000) && T.lkL n xs) = true := h
      rw [Bool.and_eq_true, decide_eq_true_iff] at h
      exact like_case (.inl rfl) h.1 fun y hy => wn_like0 hf n y (by omega) (lkL_mem h.2 hy)
    | lst xs =>
      have h : (decide (xs.length ≤ 100000) && T.lkL n xs) = true := h
      rw [Bool.and_eq_true, decide_eq_true_iff] at h
      exact like_case (.inr rfl) h.1 fun y hy => wn_like0 hf n y (by omega) (lkL_mem h.2 hy)
    | str s =>
      unfold S_like
      repeat fold_depth
      refine ⟨_, eqS h, ?_⟩
      repeat fold_depth
      exact ⟨rfl, rfl⟩
    | non => unfold S_like
             repeat fold_depth
             exact ⟨rfl, rfl⟩
    | bl b => unfold S_like
              repeat fold_depth
              exact ⟨rfl, rfl⟩
    | int i => unfold S_like
               repeat fold_depth
               exact ⟨rfl, rfl⟩
    | _ => cases h
theorem wn_like {f : Nat → FnD} {st : Store} {x : T} {Q : T → Store → Prop} (hf : ∀ n, n < 13 → f (n + 1) = runFn 2 3 (S_like (f n))) (h : T.lk 13 x = true) (q : Q (.bl true) st) : WN (f 13) [x, x] st Q :=
  (wn_like0 hf 13 x (by decide) h).imp fun _ _ ⟨h1, h2⟩ => by subst h1 h2; exact q
/-! ### the shared texts, closed -/
def F_pull : FnD := runFn 2 4 S_pull
def F_bag : FnD := runFn 1 1 S_bag
def F_of : FnD := runFn 2 2 (S_of F_pull)
def F_like : Nat → FnD
  | 0 => fun _ _ => .bad
  | n + 1 => runFn 2 3 (S_like (F_like n))
theorem pull1 {n N : Nat} {size : Int} {s0 st : Store} {Q : T → Store → Prop} {E : Str → List T → Store → Prop} (h : Bg n N s0 st) (h0 : 0 < size) (h1 : size < 2 ^ 200) (hN : N < 2 ^ 60) (q : ∀ (r : Int) st', 0 ≤ r → r < size → Bg n (N + 1) s0 st' → Q (.int r) st') : WNX F_pull [.obj n, .int size] st Q E := (wn_pull h h0 h1 hN q).imp fun _ _ h => h
theorem of1 {n N : Nat} {ts : List T} {s0 st : Store} {Q : T → Store → Prop} {E : Str → List T → Store → Prop} (h : Bg n N s0 st) (h0 : 0 < ts.length) (h1 : ts.length < 2 ^ 60) (hN : N < 2 ^ 60) (q : ∀ t st', t ∈ ts → Bg n (N + 1) s0 st' → Q t st') : WNX F_of [.obj n, .lst ts] st Q E := (wn_of h h0 h1 hN q).imp fun _ _ h => h
theorem like1 {st : Store} {x : T} {Q : T → Store → Prop} {E : Str → List T → Store → Prop} (h : T.lk 13 x = true) (q : Q (.bl true) st) : WNX (F_like 13) [x, x] st Q E := (wn_like (Q := Q) (f := F_like) (fun _ _ => rfl) h q).imp fun _ _ h => h
theorem bag1 {ns : List Int} {st : Store} {n : Nat} {Q : T → Store → Prop} {E : Str → List T → Store → Prop} (h : st[n]? = some (.scr (ns.map T.int))) (l : ns.length ≤ 63) (q : ∀ xs, Bg st.length 0 (st ++ [.no]) (st ++ [.lst xs]) → Q (.lst xs) st) : WNX F_bag [.obj n] st Q E := (wn_bag h l q).imp fun _ _ h => h
end Mp


set_option Elab.async false
set_option linter.all false
set_option maxRecDepth 100000
set_option maxHeartbeats 1000000
/-! Ints: lists of numbers, loops that may return. -/
namespace Mp
open PySem
/-- a list of numbers as a list of data -/
abbrev il (xs : List Int) : List T := xs.map T.int
theorem il_len {xs : List Int} : (il xs).length = xs.length := List.length_map ..
theorem okdL_il (n : Nat) : ∀ xs : List Int, T.okdL (n + 1) (il xs) = true
  | [] => rfl
  | x :: xs => by
    show (T.okd (n + 1) (.int x) && T.okdL (n + 1) (il xs)) = true
    rw [okdL_il n xs]; rfl
theorem eqvL_il : ∀ xs ys : List Int, T.eqvL (il xs) (il ys) = decide (xs = ys)
  | [], [] => rfl
  | [], y :: ys => rfl
  | x :: xs, [] => rfl
  | x :: xs, y :: ys => by
    show (x == y && T.eqvL (il xs) (il ys)) = _
    rw [eqvL_il xs ys]
    by_cases h : x = y <;> by_cases h2 : xs = ys <;> simp [h, h2]
theorem eq_tup {xs ys : List Int} : opEq (.tup (il xs)) (.tup (il ys)) = some (.bl (decide (xs = ys))) := by
  show (if (T.okdL 11 (il xs) && T.okdL 11 (il ys)) = true then some (T.eqvL (il xs) (il ys)) else none).map T.bl = _
  rw [okdL_il, okdL_il, eqvL_il]; rfl
theorem eq_lst {xs ys : List Int} : opEq (.lst (il xs)) (.lst (il ys)) = some (.bl (decide (xs = ys))) := by
  show (if (T.okdL 11 (il xs) && T.okdL 11 (il ys)) = true then some (T.eqvL (il xs) (il ys)) else none).map T.bl = _
  rw [okdL_il, okdL_il, eqvL_il]; rfl
theorem ne_tup {xs ys : List Int} : opNe (.tup (il xs)) (.tup (il ys)) = some (.bl (!decide (xs = ys))) := by
  show (if (T.okdL 11 (il xs) && T.okdL 11 (il ys)) = true then some (T.eqvL (il xs) (il ys)) else none).map (fun b => T.bl (!b)) = _
  rw [okdL_il, okdL_il, eqvL_il]; rfl
theorem ne_lst {xs ys : List Int} : opNe (.lst (il xs)) (.lst (il ys)) = some (.bl (!decide (xs = ys))) := by
  show (if (T.okdL 11 (il xs) && T.okdL 11 (il ys)) = true then some (T.eqvL (il xs) (il ys)) else none).map (fun b => T.bl (!b)) = _
  rw [okdL_il, okdL_il, eqvL_il]; rfl
theorem eq_int {i j : Int} : opEq (.int i) (.int j) = some (.bl (decide (i = j))) := by
  show some (T.bl (i == j)) = _
  by_cases h : i = j <;> simp [h]
theorem ne_int {i j : Int} : opNe (.int i) (.int j) = some (.bl (!decide (i = j))) := by
  show some (T.bl (!(i == j))) = _
  by_cases h : i = j <;> simp [h]
theorem rep_il : ∀ (n : Nat) (xs : List Int), rep (il xs) n = il (List.flatten (List.replicate n xs))
  | 0, _ => rfl
  | n + 1, xs => by
    show il xs ++ rep (il xs) n = _
    rw [rep_il n xs, List.replicate_succ, List.flatten_cons]
    simp [il]
theorem mul_tup {xs : List Int} {n : Int} (h : xs.length * n.toNat ≤ 100000) (h1 : n < 2 ^ 62) (h2 : -(2 ^ 62) < n) : opMul (.tup (il xs)) (.int n) = some (.tup (il (List.flatten (List.replicate n.toNat xs)))) := by
  show (if (il xs).length * n.toNat ≤ 100000 ∧ n < 2 ^ 62 ∧ -(2 ^ 62) < n then some (T.tup (rep (il xs) n.toNat)) else none) = _
  rw [if_pos ⟨by rw [il_len]; exact h, h1, h2⟩, rep_il]
theorem mul_lst {xs : List Int} {n : Int} (h : xs.length * n.toNat ≤ 100000) (h1 : n < 2 ^ 62) (h2 : -(2 ^ 62) < n) : opMul (.lst (il xs)) (.int n) = some (.lst (il (List.flatten (List.replicate n.toNat xs)))) := by
  show (if (il xs).length * n.toNat ≤ 100000 ∧ n < 2 ^ 62 ∧ -(2 ^ 62) < n then some (T.lst (rep (il xs) n.toNat)) else none) = _
  rw [if_pos ⟨by rw [il_len]; exact h, h1, h2⟩, rep_il]
theorem add_tup {xs ys : List Int} (h : xs.length + ys.length ≤ 100000) : opAdd (.tup (il xs)) (.tup (il ys)) = some (.tup (il (xs ++ ys))) := by
  show (if (il xs).length + (il ys).length ≤ 100000 then some (T.tup (il xs ++ il ys)) else none) = _
  rw [if_pos (by rw [il_len, il_len]; exact h)]
  simp [il]
theorem add_lst {xs ys : List Int} (h : xs.length + ys.length ≤ 100000) : opAdd (.lst (il xs)) (.lst (il ys)) = some (.lst (il (xs ++ ys))) := by
  show (if (il xs).length + (il ys).length ≤ 100000 then some (T.lst (il xs ++ il ys)) else none) = _
  rw [if_pos (by rw [il_len, il_len]; exact h)]
  simp [il]
theorem cut_il {a b : Nat} {xs : List Int} : cutT a b (il xs) = il ((xs.drop a).take (b - a)) := by
  simp [cutT, il, List.map_take, List.map_drop]
/-- x[:i] -/
theorem cut_to {st : Store} {xs : List Int} {i : Int} (h : 0 ≤ i) (h1 : i < 2 ^ 60) : opCut st (.tup (il xs)) .non (.int i) = some (.tup (il (xs.take i.toNat))) ∧ opCut st (.lst (il xs)) .non (.int i) = some (.lst (il (xs.take i.toNat))) := by
  have e1 : lim (il xs).length .non (some 0) = some 0 := rfl
  have e2 : lim (il xs).length (.int i) (some (il xs).length) = some (min i.toNat xs.length) := by rw [lim_pos h h1, il_len]
  have e3 : (xs.drop 0).take (min i.toNat xs.length - 0) = xs.take i.toNat := by
    rw [Nat.sub_zero, List.drop_zero, ← List.take_eq_take_min]
  constructor
  · show (match lim (il xs).length .non (some 0), lim (il xs).length (.int i) (some (il xs).length) with | some a, some b => some (T.tup (cutT a b (il xs))) | _, _ => none) = _
    rw [e1, e2]
    simp only [cut_il, e3]
  · show (match lim (il xs).length .non (some 0), lim (il xs).length (.int i) (some (il xs).length) with | some a, some b => some (T.lst (cutT a b (il xs))) | _, _ => none) = _
    rw [e1, e2]
    simp only [cut_il, e3]
/-- x[i:] -/
theorem cut_from {st : Store} {xs : List Int} {i : Int} (h : 0 ≤ i) (h1 : i < 2 ^ 60) : opCut st (.tup (il xs)) (.int i) .non = some (.tup (il (xs.drop i.toNat))) ∧ opCut st (.lst (il xs)) (.int i) .non = some (.lst (il (xs.drop i.toNat))) := by
  have e1 : lim (il xs).length .non (some (il xs).length) = some xs.length := by rw [il_len]; rfl
  have e2 : lim (il xs).length (.int i) (some 0) = some (min i.toNat xs.length) := by rw [lim_pos h h1, il_len]
  have e3 : (xs.drop (min i.toNat xs.length)).take (xs.length - min i.toNat xs.length) = xs.drop i.toNat := by
    rw [List.take_of_length_le (by simp)]
    by_cases hh : i.toNat ≤ xs.length
    · rw [Nat.min_eq_left hh]
    · rw [Nat.min_eq_right (by omega), List.drop_length, List.drop_eq_nil_of_le (by omega)]
  constructor
  · show (match lim (il xs).length (.int i) (some 0), lim (il xs).length .non (some (il xs).length) with | some a, some b => some (T.tup (cutT a b (il xs))) | _, _ => none) = _
    rw [e1, e2]
    simp only [cut_il, e3]
  · show (match lim (il xs).length (.int i) (some 0), lim (il xs).length .non (some (il xs).length) with | some a, some b => some (T.lst (cutT a b (il xs))) | _, _ => none) = _
    rw [e1, e2]
    simp only [cut_il, e3]
/-- x[:-1], x[-1:], x[-1] of what is not empty -/
theorem cut_init {st : Store} {xs : List Int} (h : xs ≠ []) : opCut st (.tup (il xs)) .non (.int (-1)) = some (.tup (il xs.dropLast)) := by
  have hl : 0 < xs.length := List.length_pos_iff.mpr h
  have e1 : lim (il xs).length .non (some 0) = some 0 := rfl
  have e2 : lim (il xs).length (.int (-1)) (some (il xs).length) = some (xs.length - 1) := by rw [lim_neg (by decide) (by decide), il_len]; congr 1; omega
  show (match lim (il xs).length .non (some 0), lim (il xs).length (.int (-1)) (some (il xs).length) with | some a, some b => some (T.tup (cutT a b (il xs))) | _, _ => none) = _
  rw [e1, e2]
  simp only [cut_il, List.drop_zero, Nat.sub_zero, List.dropLast_eq_take]
theorem cut_last {st : Store} {xs : List Int} (h : xs ≠ []) : opCut st (.tup (il xs)) (.int (-1)) .non = some (.tup (il [xs.getLast h])) := by
  have hl : 0 < xs.length := List.length_pos_iff.mpr h
  have e1 : lim (il xs).length .non (some (il xs).length) = some xs.length := by rw [il_len]; rfl
  have e2 : lim (il xs).length (.int (-1)) (some 0) = some (xs.length - 1) := by rw [lim_neg (by decide) (by decide), il_len]; congr 1; omega
  show (match lim (il xs).length (.int (-1)) (some 0), lim (il xs).length .non (some (il xs).length) with | some a, some b => some (T.tup (cutT a b (il xs))) | _, _ => none) = _
  rw [e1, e2]
  have : (xs.drop (xs.length - 1)).take (xs.length - (xs.length - 1)) = [xs.getLast h] := by
    have h2 : xs.length - (xs.length - 1) = 1 := by omega
    rw [h2, List.getLast_eq_getElem, List.drop_eq_getElem_cons (by omega)]
    rfl
  simp only [cut_il, this]
theorem ix_last {st : Store} {xs : List Int} (h : xs ≠ []) : opIx st (.tup (il xs)) (.int (-1)) = some (.int (xs.getLast h)) := by
  have hl : 0 < xs.length := List.length_pos_iff.mpr h
  have : ixOf (-1) (il xs).length = some (xs.length - 1) := by
    unfold ixOf
    rw [if_neg (by decide), if_pos (by rw [il_len]; omega), il_len]
    congr 1
    omega
  show (match seqOf st (.tup (il xs)) with | some xs => (match ixOf (-1) xs.length with | some k => xs[k]? | none => none) | none => none) = _
  simp only [seqOf, this]
  rw [List.getElem?_map, List.getLast_eq_getElem, List.getElem?_eq_getElem (by omega)]
  rfl
theorem ix_tup {st : Store} {xs : List Int} {i : Int} (h0 : 0 ≤ i) (h : i.toNat < xs.length) : opIx st (.tup (il xs)) (.int i) = some (.int xs[i.toNat]) := ixT_ok h0 (by simp [il, h])
theorem ix_lst {st : Store} {xs : List Int} {i : Int} (h0 : 0 ≤ i) (h : i.toNat < xs.length) : opIx st (.lst (il xs)) (.int i) = some (.int xs[i.toNat]) := ixL_ok h0 (by simp [il, h])
theorem rangeL_il : ∀ (n : Nat) (lo : Int), rangeL lo n = il ((List.range n).map fun k : Nat => lo + (k : Int))
  | 0, _ => rfl
  | n + 1, lo => by
    show T.int lo :: rangeL (lo + 1) n = _
    rw [rangeL_il n, List.range_succ_eq_map]
    simp only [il, List.map_cons, List.map_map]
    congr 1
    · simp
    · apply List.map_congr_left
      intro k _
      simp only [Function.comp]
      congr 1
      omega
theorem lkL_il (n : Nat) : ∀ xs : List Int, T.lkL (n + 1) (il xs) = true
  | [] => rfl
  | x :: xs => by
    show (T.lk (n + 1) (.int x) && T.lkL (n + 1) (il xs)) = true
    rw [lkL_il n xs]; rfl
theorem lk_tup {n : Nat} {xs : List Int} (h : xs.length ≤ 100000) : T.lk (n + 2) (.tup (il xs)) = true := by
  show (decide ((il xs).length ≤ 100000) && T.lkL (n + 1) (il xs)) = true
  rw [lkL_il, il_len, decide_eq_true h]; rfl
theorem lk_lst {n : Nat} {xs : List Int} (h : xs.length ≤ 100000) : T.lk (n + 2) (.lst (il xs)) = true := by
  show (decide ((il xs).length ≤ 100000) && T.lkL (n + 1) (il xs)) = true
  rw [lkL_il, il_len, decide_eq_true h]; rfl
/-- a loop that may return -/
theorem ws_forRet {g : Tg} {body : EvS} {all : List T} {E : Str → List T → Store → Prop} (I : List T → En → Store → Prop) (R : T → Store → Prop)
    (step : ∀ (x : T) (done rest : List T) (env : En) (st : Store), done ++ x :: rest = all → I done env st → ∃ e, Tg.put g x env = some e ∧ WSX body e st (fun fl e s => (fl = .nx ∧ I (done ++ [x]) e s) ∨ (∃ t, fl = .ret t ∧ R t s)) E) :
    ∀ (xs done : List T) (env : En) (st : Store), done ++ xs = all → I done env st →
    WSX (forL g body xs) env st (fun fl e s => (fl = .nx ∧ I all e s) ∨ (∃ t, fl = .ret t ∧ R t s)) E
  | [], done, env, st, he, h => by
    refine ws_forNil.mpr ?_
    left; rw [← he]; simpa using h
  | x :: xs, done, env, st, he, h => by
    obtain ⟨e, hp, hb⟩ := step x done xs env st he h
    refine ws_forCons ⟨e, hp, hb.impE ?_⟩
    rintro fl e s (⟨rfl, h2⟩ | ⟨t, rfl, h2⟩)
    · exact ws_forRet I R step xs (done ++ [x]) e s (by simpa using he) h2
    · exact .inr ⟨t, rfl, h2⟩
theorem rangeL_at : ∀ {n : Nat} {lo : Int} {done rest : List T} {x : T}, done ++ x :: rest = rangeL lo n → x = .int (lo + done.length) ∧ done.length < n
  | 0, lo, done, rest, x, h => by cases done <;> cases h
  | n + 1, lo, [], rest, x, h => by
    cases h
    exact ⟨by simp, by simp⟩
  | n + 1, lo, y :: done, rest, x, h => by
    have h : y :: (done ++ x :: rest) = .int lo :: rangeL (lo + 1) n := h
    injection h with h1 h2
    obtain ⟨h3, h4⟩ := rangeL_at h2
    refine ⟨?_, by simp; omega⟩
    rw [h3]
    congr 1
    simp; omega
/-- .. of a comprehension that sifts -/
theorem wc_filter {j : Nat} {c : EvB} {pr : T → Bool} {env : En} {st : Store} (hj : j < env.length) : ∀ (xs : List T) {Q : List T → Store → Prop},
    (∀ x ∈ xs, WE c (env.set j (.fr x)) st fun b s => b = pr x ∧ s = st) → Q (xs.filter pr) st → WC (.name j) c (var j) env xs st Q
  | [], Q, _, q => wc_nil.mpr q
  | x :: xs, Q, h, q => by
    refine wc_cons.mpr ⟨_, rfl, (h x List.mem_cons_self).imp ?_⟩
    rintro b s ⟨rfl, rfl⟩
    refine ⟨fun hb => we_var.mpr ⟨_, List.getElem?_set_self hj, ?_⟩, fun hb => ?_⟩
    · refine wc_filter hj xs (fun y hy => h y (List.mem_cons_of_mem _ hy)) ?_
      rw [List.filter_cons_of_pos hb] at q
      exact q
    · refine wc_filter hj xs (fun y hy => h y (List.mem_cons_of_mem _ hy)) ?_
      rw [List.filter_cons_of_neg (by simp [hb])] at q
      exact q
/-- .. of one that maps -/
theorem wc_map {j : Nat} {e : EvT} {fm : T → T} {env : En} {st : Store} : ∀ (xs : List T) {Q : List T → Store → Prop},
    (∀ x ∈ xs, WE e (env.set j (.fr x)) st fun t s => t = fm x ∧ s = st) → Q (xs.map fm) st → WC (.name j) tYes e env xs st Q
  | [], Q, _, q => wc_nil.mpr q
  | x :: xs, Q, h, q => by
    refine wc_cons.mpr ⟨_, rfl, we_pure.mpr ⟨fun _ => ?_, fun z => Bool.noConfusion z⟩⟩
    refine (h x List.mem_cons_self).imp ?_
    rintro t s ⟨rfl, rfl⟩
    exact wc_map xs (fun y hy => h y (List.mem_cons_of_mem _ hy)) q
theorem first_range {pr : T → Bool} : ∀ {n : Nat} {lo : Int} {t : T} {r : List T}, (rangeL lo n).filter pr = t :: r → ∃ i : Int, t = .int i ∧ lo ≤ i ∧ i < lo + n ∧ pr (.int i) = true ∧ ∀ j : Int, lo ≤ j → j < i → pr (.int j) = false
  | 0, lo, t, r, h => by cases h
  | n + 1, lo, t, r, h => by
    have e : rangeL lo (n + 1) = .int lo :: rangeL (lo + 1) n := rfl
    rw [e] at h
    by_cases hp : pr (.int lo) = true
    · rw [List.filter_cons_of_pos hp] at h
      injection h with h1 h2
      exact ⟨lo, h1.symm, by omega, by omega, hp, fun j h1 h2 => by omega⟩
    · rw [List.filter_cons_of_neg hp] at h
      obtain ⟨i, h1, h2, h3, h4, h5⟩ := first_range h
      refine ⟨i, h1, by omega, by omega, h4, fun j h6 h7 => ?_⟩
      by_cases hj : j = lo
      · subst hj; simpa using hp
      · exact h5 j (by omega) h7
/-- [pull(size) for _ in range(n)] -/
theorem wc_pulls {n N : Nat} {size : Int} {pf : FnD} {env : En} {s0 st : Store} {i j : Nat} {Q : List T → Store → Prop} (hp : pf = runFn 2 4 S_pull) (h : Bg n N s0 st) (h0 : 0 < size) (h1 : size < 2 ^ 200) (hi : env[i]? = some (.fr (.obj n))) (hij : i ≠ j)
    (xs : List T) (hN : N + xs.length < 2 ^ 60) (q : ∀ (ys : List Int) st', ys.length = xs.length → (∀ y ∈ ys, 0 ≤ y ∧ y < size) → Bg n (N + xs.length) s0 st' → Q (il ys) st') :
    WC (.name j) tYes (callP pf [var i, con (.int size)]) env xs st Q := by
  subst hp
  induction xs generalizing N st Q with
  | nil => exact wc_nil.mpr (q [] st rfl (fun y hy => by cases hy) h)
  | cons x xs ih =>
    refine wc_cons.mpr ⟨_, rfl, we_pure.mpr ⟨fun _ => ?_, fun z => Bool.noConfusion z⟩⟩
    have v : (env.set j (.fr x))[i]? = some (.fr (.obj n)) := by rw [List.getElem?_set_ne (Ne.symm hij), hi]
    have hl : (x :: xs).length = xs.length + 1 := rfl
    refine we_callP.mpr (we_cons.mpr (we_var.mpr ⟨_, v, we_cons.mpr (we_con.mpr (we_nil.mpr ?_))⟩))
    refine wn_pull h h0 h1 (by omega) fun r st' r0 r1 hb' => ih hb' (by omega) fun ys st2 hy hr hb2 => ?_
    refine q (r :: ys) st2 (by rw [List.length_cons, hy, hl]) (fun y hy => ?_) (hb2.up (by omega))
    rcases List.mem_cons.mp hy with rfl | hy
    · exact ⟨r0, r1⟩
    · exact hr y hy
/-- a comprehension that draws numbers -/
theorem wc_bag {n N K : Nat} {P : Int → Prop} {e : EvT} {env : En} {s0 st : Store} {j : Nat} {Q : List T → Store → Prop} (h : Bg n N s0 st)
    (xs : List T) (hN : N + K * xs.length < 2 ^ 60) (he : ∀ x M s, Bg n M s0 s → M + K < 2 ^ 60 → WE e (env.set j (.fr x)) s fun t s' => ∃ r : Int, t = .int r ∧ P r ∧ Bg n (M + K) s0 s')
    (q : ∀ (ys : List Int) st', ys.length = xs.length → (∀ y ∈ ys, P y) → Bg n (N + K * xs.length) s0 st' → Q (il ys) st') :
    WC (.name j) tYes e env xs st Q := by
  induction xs generalizing N st Q with
  | nil => exact wc_nil.mpr (q [] st rfl (fun y hy => by cases hy) h)
  | cons x xs ih =>
    refine wc_cons.mpr ⟨_, rfl, we_pure.mpr ⟨fun _ => ?_, fun z => Bool.noConfusion z⟩⟩
    have hl : (x :: xs).length = xs.length + 1 := rfl
    rw [hl, Nat.mul_add] at hN
    refine (he x N st h (by omega)).imp ?_
    rintro t st' ⟨r, rfl, hr0, hb'⟩
    refine ih hb' (by omega) fun ys st2 hy hr hb2 => ?_
    refine q (r :: ys) st2 (by rw [List.length_cons, hy, hl]) (fun y hy => ?_) (hb2.up (by rw [hl, Nat.mul_add]; omega))
    rcases List.mem_cons.mp hy with rfl | hy
    · exact hr0
    · exact hr y hy
theorem len_tup {st : Store} {xs : List Int} : lenT st (.tup (il xs)) = some (.int xs.length) := by
  show some (T.int (il xs).length) = _
  rw [il_len]
theorem len_lst {st : Store} {xs : List Int} : lenT st (.lst (il xs)) = some (.int xs.length) := by
  show some (T.int (il xs).length) = _
  rw [il_len]
/-- a test that is decided -/
theorem dec_split {p : Prop} [Decidable p] {A B : Prop} (h1 : p → A) (h2 : ¬ p → B) : (decide p = true → A) ∧ (decide p = false → B) := ⟨fun h => h1 (of_decide_eq_true h), fun h => h2 (of_decide_eq_false h)⟩
theorem dec_splitN {p : Prop} [Decidable p] {A B : Prop} (h1 : ¬ p → A) (h2 : p → B) : ((!decide p) = true → A) ∧ ((!decide p) = false → B) := ⟨fun h => h1 (by simpa using h), fun h => h2 (by simpa using h)⟩
theorem isCut {st : Store} {x lo hi : T} {P : T → Prop} (h : ∃ z, opCut st x lo hi = some z ∧ P z) : ∃ z, opCut st x lo hi = some z ∧ P z := h
theorem isMul {x y : T} {P : T → Prop} (h : ∃ z, opMul x y = some z ∧ P z) : ∃ z, opMul x y = some z ∧ P z := h
theorem isDiv {x y : T} {P : T → Prop} (h : ∃ z, opDiv x y = some z ∧ P z) : ∃ z, opDiv x y = some z ∧ P z := h
theorem ws_whileStop {c : EvB} {body : EvS} {env : En} {st : Store} {Q : Fl → En → Store → Prop} {E : Str → List T → Store → Prop} (h : WE c env st fun b s => b = false ∧ Q .nx env s) : WSX (sWhile c body) env st Q E := by
  obtain ⟨b, s, e, rfl, q⟩ := WE.ex h
  refine ws_of (fl := .nx) (en := env) (s := s) ?_ q
  show whileL c body (999999 + 1) env st = _
  unfold whileL
  rw [e]
end Mp


set_option Elab.async false
set_option linter.all false
set_option maxRecDepth 100000
set_option maxHeartbeats 1000000
/-! Pm: forward rules for classes, dicts, loops that look for the first. -/
namespace Mp
open PySem
section
variable {env : En} {st : Store} {E : Str → List T → Store → Prop}
theorem we_dcomp {vs : List Nat} {it : EvI} {g : Tg} {c : EvB} {ek ev : EvT} {Q : T → Store → Prop} (h : WEX it env st (fun xs s => xs.length ≤ 100000 ∧ ∃ kvs s', compD g c ek ev (wipeE vs env) xs [] s = .ok kvs s' ∧ Q (.dct kvs) s') E) :
    WEX (dcomp vs it g c ek ev) env st Q E := by
  unfold dcomp
  refine we_bind.mpr (h.impE fun xs s ⟨h1, kvs, s', h2, q⟩ => ?_)
  unfold WEX
  simp only [if_pos h1, h2]
  exact q
/-- .. where each item's key and value are told -/
theorem compD_all {g : Tg} {ek ev : EvT} {fk fv : T → T} : ∀ (xs acc : List T), (∀ x ∈ xs, ∃ e, Tg.put g x env = some e ∧ ek e st = .ok (fk x) st ∧ ev e st = .ok (fv x) st ∧ keyT (fk x) = true) →
    compD g tYes ek ev env xs acc st = .ok (xs.foldl (fun a x => dput (fk x) (fv x) a) acc) st
  | [], acc, _ => rfl
  | x :: xs, acc, h => by
    obtain ⟨e, h1, h2, h3, h4⟩ := h x List.mem_cons_self
    have ih := compD_all xs (dput (fk x) (fv x) acc) fun y hy => h y (List.mem_cons_of_mem _ hy)
    rw [compD]
    simp only [h1]
    show (match (Out.ok true st : Out Bool) with
      | .ok true st1 => (match ek e st1 with
        | .ok kt st2 => (match ev e st2 with
          | .ok vt st3 => if keyT kt then compD g tYes ek ev env xs (dput kt vt acc) st3 else .bad
          | _ => .bad)
        | _ => .bad)
      | .ok false st1 => compD g tYes ek ev env xs acc st1
      | _ => .bad) = _
    simp only [h2, h3, if_pos h4]
    exact ih
theorem we_fn {fn : FnD} {us : List T} {Q : T → Store → Prop} : WEX (fun _ s => fn us s) env st Q E ↔ WNX fn us st Q E := by
  unfold WEX WNX
  simp only
  cases fn us st <;> exact Iff.rfl
theorem we_newC {c : Str} {fn : FnD} {ss : List Src} {args kws : List EvT} {Q : T → Store → Prop} : WEX (newC c fn ss args kws) env st Q E ↔ WEX (evL args) env st (fun ts s => WEX (evL kws) env s (fun zs s => ∃ us, fillT ss ts zs = some us ∧ WNX (newI c fn) us s Q E) E) E := by
  unfold newC
  simp only [we_bind, we_opt, we_fn]
theorem wn_newI {c : Str} {fn : FnD} {us : List T} {Q : T → Store → Prop} (h : WNX fn (.obj st.length :: us) (st ++ [.ins c [] []]) (fun t s => t = .non ∧ ∃ ns ds, s[st.length]? = some (.ins c ns ds) ∧ plainD ds = true ∧ Q (.ins c ns (ds.map (·.t))) (s.set st.length .no)) E) :
    WNX (newI c fn) us st Q E := by
  unfold WNX newI at *
  cases e : fn (.obj st.length :: us) (st ++ [.ins c [] []]) with
  | bad => rw [e] at h; exact h.elim
  | err d vs s => rw [e] at h; exact h
  | ok t s =>
    rw [e] at h
    obtain ⟨rfl, ns, ds, h1, h2, q⟩ := h
    have hc : (c == c) = true := beq_self_eq_true c
    simp only [h1, h2, hc, Bool.and_self, if_true]
    exact q
theorem we_methC {ents : List (Str × FnE)} {m : Str} {n : Nat} {o : EvT} {args : List EvT} {Q : T → Store → Prop} : WEX (methC ents m n o args) env st Q E ↔ WEX o env st (fun x s => ∃ e, pickM ents m n s x = some e ∧ WEX (evL args) env s (fun ts s => WNX e.fn (x :: ts) s Q E) E) E := by
  unfold methC
  simp only [we_bind, we_optS, we_fn]
theorem ws_fldS {G : Genv} {f : Str} {e o : EvT} {Q : Fl → En → Store → Prop} : WSX (sFldS G f e o) env st Q E ↔ WEX e env st (fun v s => WEX o env s (fun x s => ∃ s', setFldG G f s v x = some s' ∧ Q .nx env s') E) E := by
  unfold sFldS
  simp only [ws_bind, ws_sto]
end
/-! ### loops that look for the first -/
def firstS {α β : Type} (f : Nat → α → Option β) : Nat → List α → Option β
  | _, [] => none
  | i, x :: xs => match f i x with
    | some b => some b
    | none => firstS f (i + 1) xs
theorem firstS_none {α β : Type} {f : Nat → α → Option β} : ∀ {xs : List α} {i : Nat}, firstS f i xs = none → ∀ j x, xs[j]? = some x → f (i + j) x = none
  | [], _, _, j, x, h => by cases h
  | y :: xs, i, e, 0, x, h => by
    cases h
    unfold firstS at e
    cases h : f i y with
    | none => simpa using h
    | some b => rw [h] at e; cases e
  | y :: xs, i, e, j + 1, x, h => by
    unfold firstS at e
    cases h' : f i y with
    | none =>
      rw [h'] at e
      have := firstS_none e j x (by simpa using h)
      have e2 : i + (j + 1) = i + 1 + j := by omega
      rw [e2]; exact this
    | some b => rw [h'] at e; cases e
theorem firstS_some {α β : Type} {f : Nat → α → Option β} : ∀ {xs : List α} {i : Nat} {b : β}, firstS f i xs = some b → ∃ j x, xs[j]? = some x ∧ f (i + j) x = some b
  | [], _, _, h => by cases h
  | y :: xs, i, b, e => by
    unfold firstS at e
    cases h : f i y with
    | some c => rw [h] at e; exact ⟨0, y, rfl, by rw [Nat.add_zero, h]; exact e⟩
    | none =>
      rw [h] at e
      obtain ⟨j, x, h1, h2⟩ := firstS_some (i := i + 1) e
      refine ⟨j + 1, x, by simpa using h1, ?_⟩
      have e2 : i + (j + 1) = i + 1 + j := by omega
      rw [e2]; exact h2
theorem firstS_congr {α β : Type} {f g : Nat → α → Option β} : ∀ {xs : List α} {i : Nat}, (∀ j x, xs[j]? = some x → f (i + j) x = g (i + j) x) → firstS f i xs = firstS g i xs
  | [], _, _ => rfl
  | y :: xs, i, h => by
    have h0 := h 0 y rfl
    rw [Nat.add_zero] at h0
    unfold firstS
    rw [h0]
    cases g i y with
    | some b => rfl
    | none =>
      refine firstS_congr fun j x hx => ?_
      have := h (j + 1) x (by simpa using hx)
      have e2 : i + (j + 1) = i + 1 + j := by omega
      rw [e2] at this; exact this
/-- a loop over what stands for xs, that ends at the first some -/
theorem ws_forFirst {α β : Type} {f : Nat → α → Option β} {g : Tg} {body : EvS} {st : Store} (I : Nat → En → Prop) (R : β → T → Store → Prop) (X : β → Str → List T → Store → Prop) :
    ∀ (its : List T) (xs : List α) (i : Nat) (env : En), I i env → its.length = xs.length →
    (∀ j x t env, xs[j]? = some x → its[j]? = some t → I (i + j) env → ∃ e, Tg.put g t env = some e ∧ WSX body e st (fun fl e s => (fl = .nx ∧ f (i + j) x = none ∧ I (i + j + 1) e ∧ s = st) ∨ (∃ t b, fl = .ret t ∧ f (i + j) x = some b ∧ R b t s)) (fun c vs s => ∃ b, f (i + j) x = some b ∧ X b c vs s)) →
    WSX (forL g body its) env st (fun fl e s => (fl = .nx ∧ firstS f i xs = none ∧ I (i + xs.length) e ∧ s = st) ∨ (∃ t b, fl = .ret t ∧ firstS f i xs = some b ∧ R b t s)) (fun c vs s => ∃ b, firstS f i xs = some b ∧ X b c vs s)
  | [], [], i, env, h, _, _ => ws_forNil.mpr (.inl ⟨rfl, rfl, h, rfl⟩)
  | [], _ :: _, _, _, _, hl, _ => by cases hl
  | _ :: _, [], _, _, _, hl, _ => by cases hl
  | t :: its, x :: xs, i, env, h, hl, step => by
    obtain ⟨e, hp, hb⟩ := step 0 x t env rfl rfl h
    refine ws_forCons ⟨e, hp, hb.mono ?_ ?_⟩
    · rintro fl e2 s (⟨rfl, h1, h2, rfl⟩ | ⟨u, b, rfl, h1, h2⟩)
      · rw [Nat.add_zero] at h1 h2
        have ih := ws_forFirst I R X its xs (i + 1) e2 h2 (by simpa using hl) fun j x' t' en hx ht hi => by
          have e3 : i + 1 + j = i + (j + 1) := by omega
          rw [e3] at hi ⊢
          exact step (j + 1) x' t' en (by simpa using hx) (by simpa using ht) hi
        have ef : firstS f i (x :: xs) = firstS f (i + 1) xs := by
          rw [firstS, h1]
        have el : i + (x :: xs).length = i + 1 + xs.length := by simp; omega
        rw [ef, el]
        exact ih
      · right
        refine ⟨u, b, rfl, ?_, h2⟩
        rw [Nat.add_zero] at h1
        rw [firstS, h1]
    · rintro c vs s ⟨b, h1, h2⟩
      refine ⟨b, ?_, h2⟩
      rw [Nat.add_zero] at h1
      rw [firstS, h1]
theorem rangeL_getI {n : Nat} {lo : Int} {j : Nat} {t : T} (h : (rangeL lo n)[j]? = some t) : t = .int (lo + j) := by
  induction n generalizing lo j with
  | zero => simp [rangeL] at h
  | succ n ih =>
    cases j with
    | zero => simp [rangeL] at h; rw [← h]; simp
    | succ j =>
      have := ih (lo := lo + 1) (by simpa [rangeL] using h)
      rw [this]; congr 1; omega
theorem enumL_at {xs : List T} {k : Int} {j : Nat} {t : T} (h : (enumL k xs)[j]? = some t) : ∃ x, xs[j]? = some x ∧ t = .tup [.int (k + j), x] := by
  induction xs generalizing k j with
  | nil => simp [enumL] at h
  | cons y ys ih =>
    cases j with
    | zero => simp [enumL] at h; exact ⟨y, rfl, by rw [← h]; simp⟩
    | succ j =>
      obtain ⟨x, h1, h2⟩ := ih (k := k + 1) (by simpa [enumL] using h)
      refine ⟨x, by simpa using h1, ?_⟩
      rw [h2]; congr 2; congr 1; omega
theorem enumL_len (k : Int) : ∀ xs : List T, (enumL k xs).length = xs.length := by
  intro xs
  induction xs generalizing k with
  | nil => rfl
  | cons y ys ih => simp [enumL, ih]
/-! ### == of plain things -/
theorem eqv_refl : ∀ (n : Nat), (∀ x : T, T.okd n x = true → T.eqv x x = true) ∧ (∀ xs : List T, T.okdL n xs = true → T.eqvL xs xs = true) := by
  intro n
  induction n with
  | zero =>
    refine ⟨fun x h => (by cases x <;> cases h), fun xs => ?_⟩
    induction xs with
    | nil => intro _; rfl
    | cons y ys ih => intro h; cases y <;> cases h
  | succ n ih =>
    have h1 : ∀ x : T, T.okd (n + 1) x = true → T.eqv x x = true := fun x h => by
      cases x with
      | non => rfl
      | bl b => cases b <;> rfl
      | int i => show (i == i) = true; exact beq_self_eq_true i
      | str s => show (s == s) = true; exact beq_self_eq_true s
      | tup xs => exact ih.2 xs h
      | lst xs => exact ih.2 xs h
      | _ => cases h
    refine ⟨h1, fun xs => ?_⟩
    induction xs with
    | nil => intro _; rfl
    | cons y ys ih2 =>
      intro h
      obtain ⟨ha, hb⟩ := Bool.and_eq_true_iff.mp (show (T.okd (n + 1) y && T.okdL (n + 1) ys) = true from h)
      show (T.eqv y y && T.eqvL ys ys) = true
      rw [h1 y ha, ih2 hb]; rfl
theorem eq_self {x : T} (h : T.okd 12 x = true) : opEq x x = some (.bl true) := by
  unfold opEq T.eq?
  rw [h, (eqv_refl 12).1 x h]; rfl
theorem ne_self {x : T} (h : T.okd 12 x = true) : opNe x x = some (.bl false) := by
  unfold opNe T.eq?
  rw [h, (eqv_refl 12).1 x h]; rfl
theorem okdL_all {n : Nat} : ∀ {xs : List T}, (∀ x ∈ xs, T.okd n x = true) → T.okdL n xs = true
  | [], _ => by cases n <;> rfl
  | x :: xs, h => by
    show (T.okd n x && T.okdL n xs) = true
    rw [h x List.mem_cons_self, okdL_all fun y hy => h y (List.mem_cons_of_mem _ hy)]; rfl
theorem okd_tup {n : Nat} {xs : List T} (h : ∀ x ∈ xs, T.okd n x = true) : T.okd (n + 1) (.tup xs) = true := okdL_all h
theorem okd_lst {n : Nat} {xs : List T} (h : ∀ x ∈ xs, T.okd n x = true) : T.okd (n + 1) (.lst xs) = true := okdL_all h
theorem okd_il {n : Nat} {xs : List Int} {x : T} (h : x ∈ il xs) : T.okd (n + 1) x = true := by
  obtain ⟨i, _, rfl⟩ := List.mem_map.mp h
  rfl
/-! ### comprehensions over what stands for a list -/
theorem wc_mapE {α : Type} {enc fm : α → T} {g : Tg} {e : EvT} {env : En} {st : Store} : ∀ (xs : List α) {Q : List T → Store → Prop},
    (∀ x ∈ xs, ∃ e', Tg.put g (enc x) env = some e' ∧ WE e e' st fun t s => t = fm x ∧ s = st) → Q (xs.map fm) st → WC g tYes e env (xs.map enc) st Q
  | [], Q, _, q => wc_nil.mpr q
  | x :: xs, Q, h, q => by
    obtain ⟨e', h1, h2⟩ := h x List.mem_cons_self
    refine wc_cons.mpr ⟨e', h1, we_pure.mpr ⟨fun _ => ?_, fun z => Bool.noConfusion z⟩⟩
    refine h2.imp ?_
    rintro t s ⟨rfl, rfl⟩
    exact wc_mapE xs (fun y hy => h y (List.mem_cons_of_mem _ hy)) q
theorem wc_filtE {α : Type} {enc fm : α → T} {pr : α → Bool} {g : Tg} {c : EvB} {e : EvT} {env : En} {st : Store} : ∀ (xs : List α) {Q : List T → Store → Prop},
    (∀ x ∈ xs, ∃ e', Tg.put g (enc x) env = some e' ∧ WE c e' st (fun b s => b = pr x ∧ s = st) ∧ (pr x = true → WE e e' st fun t s => t = fm x ∧ s = st)) → Q ((xs.filter pr).map fm) st → WC g c e env (xs.map enc) st Q
  | [], Q, _, q => wc_nil.mpr q
  | x :: xs, Q, h, q => by
    obtain ⟨e', h1, h2, h3⟩ := h x List.mem_cons_self
    refine wc_cons.mpr ⟨e', h1, h2.imp ?_⟩
    rintro b s ⟨rfl, rfl⟩
    refine ⟨fun hb => (h3 hb).imp ?_, fun hb => ?_⟩
    · rintro t s ⟨rfl, rfl⟩
      refine wc_filtE xs (fun y hy => h y (List.mem_cons_of_mem _ hy)) ?_
      rw [List.filter_cons_of_pos hb] at q
      exact q
    · refine wc_filtE xs (fun y hy => h y (List.mem_cons_of_mem _ hy)) ?_
      rw [List.filter_cons_of_neg (by simp [hb])] at q
      exact q
theorem bls_map {α : Type} {f : α → Bool} : ∀ xs : List α, T.bls? (xs.map fun x => .bl (f x)) = some (xs.map f)
  | [] => rfl
  | x :: xs => by
    show (T.bls? (xs.map fun x => .bl (f x))).map (f x :: ·) = _
    rw [bls_map xs]; rfl
theorem any_map {α : Type} {f : α → Bool} {xs : List α} : anyT (.lst (xs.map fun x => .bl (f x))) = some (.bl (xs.any f)) := by
  show (T.bls? (xs.map fun x => .bl (f x))).map (fun bs => T.bl (bs.any id)) = _
  rw [bls_map]
  simp [List.any_map]
theorem all_map {α : Type} {f : α → Bool} {xs : List α} : allT (.lst (xs.map fun x => .bl (f x))) = some (.bl (xs.all f)) := by
  show (T.bls? (xs.map fun x => .bl (f x))).map (fun bs => T.bl (bs.all id)) = _
  rw [bls_map]
  simp [List.all_map]
theorem mem_il {p : Int} : ∀ {ps : List Int}, memT (.int p) (il ps) = decide (p ∈ ps)
  | [] => by simp [il, memT]
  | q :: ps => by
    show (T.eqv (.int q) (.int p) || memT (.int p) (il ps)) = _
    rw [mem_il]
    show ((q == p) || decide (p ∈ ps)) = _
    by_cases h : q = p
    · subst h; simp
    · have h2 : ¬ p = q := fun z => h z.symm
      simp [h, h2]
theorem okd_lil {n : Nat} {xs : List Int} : T.okd (n + 2) (.lst (il xs)) = true := okd_lst fun x hx => okd_il hx
theorem in_lst {p : Int} {ps : List Int} : opIn (.int p) (.lst (il ps)) = some (.bl (decide (p ∈ ps))) := by
  have h1 : T.okd 12 (.int p) = true := rfl
  have h2 : T.okd 12 (.lst (il ps)) = true := okd_lil
  show (if (T.okd 12 (.int p) && T.okd 12 (.lst (il ps))) = true then some (T.bl (memT (.int p) (il ps))) else none) = _
  rw [h1, h2, mem_il]; rfl
/-! ### dicts of numbers -/
def putI (p n : Int) (l : List (Int × Int)) : List (Int × Int) := if p ∈ l.map (·.1) then l.map fun q => if q.1 = p then (q.1, n) else q else l ++ [(p, n)]
def dctI (l : List (Int × Int)) : List T := l.map fun q => .tup [.int q.1, .int q.2]
theorem keys_dctI : ∀ l : List (Int × Int), keysOf (dctI l) = il (l.map (·.1))
  | [] => rfl
  | q :: l => by
    show T.int q.1 :: keysOf (dctI l) = _
    rw [keys_dctI l]; rfl
theorem putM_dctI {p n : Int} : ∀ l : List (Int × Int), dputM (.int p) (.int n) (dctI l) = dctI (l.map fun q => if q.1 = p then (q.1, n) else q)
  | [] => rfl
  | q :: l => by
    show (if (q.1 == p) = true then T.tup [.int q.1, .int n] else .tup [.int q.1, .int q.2]) :: dputM (.int p) (.int n) (dctI l) = _
    rw [putM_dctI l]
    by_cases h : q.1 = p
    · simp [dctI, h]
    · simp [dctI, h]
theorem dput_dctI {p n : Int} {l : List (Int × Int)} : dput (.int p) (.int n) (dctI l) = dctI (putI p n l) := by
  unfold dput putI
  rw [keys_dctI, mem_il]
  by_cases h : p ∈ l.map (·.1)
  · rw [if_pos (decide_eq_true h), if_pos h, putM_dctI]
  · rw [if_neg (by rw [decide_eq_false h]; decide), if_neg h]
    simp [dctI]
theorem dget_dctI {p : Int} : ∀ l : List (Int × Int), dget (.int p) (dctI l) = (l.lookup p).map T.int
  | [] => rfl
  | q :: l => by
    show (if (q.1 == p) = true then some (T.int q.2) else dget (.int p) (dctI l)) = _
    rw [dget_dctI l, List.lookup_cons]
    by_cases h : q.1 = p
    · subst h; simp
    · have h2 : (p == q.1) = false := by simpa using fun z : p = q.1 => h z.symm
      have h3 : (q.1 == p) = false := by simpa using h
      rw [h2, h3]; simp
theorem lookup_mem1 {p : Int} : ∀ {l : List (Int × Int)}, (l.lookup p).isSome = decide (p ∈ l.map (·.1))
  | [] => rfl
  | q :: l => by
    rw [List.lookup_cons]
    by_cases h : p = q.1
    · subst h; simp
    · have h2 : (p == q.1) = false := by simpa using h
      rw [h2]
      have ih := lookup_mem1 (p := p) (l := l)
      simp only
      rw [ih]
      simp [h]
theorem putI_keys {p n x : Int} {l : List (Int × Int)} : x ∈ (putI p n l).map (·.1) ↔ x = p ∨ x ∈ l.map (·.1) := by
  unfold putI
  by_cases h : p ∈ l.map (·.1)
  · rw [if_pos h]
    have e : (l.map fun q => if q.1 = p then (q.1, n) else q).map (·.1) = l.map (·.1) := by
      rw [List.map_map]
      apply List.map_congr_left
      intro q _
      by_cases hq : q.1 = p <;> simp [hq]
    rw [e]
    constructor
    · exact .inr
    · rintro (rfl | z)
      · exact h
      · exact z
  · rw [if_neg h]
    simp [or_comm]
/-! ### the bag and new cells -/
theorem Bg.app {n N : Nat} {s0 st : Store} {c : Cell} (h : Bg n N s0 st) : Bg n N (s0 ++ [c]) (st ++ [c]) := by
  obtain ⟨hn, b, rfl, h1, h2⟩ := h
  refine ⟨by rw [List.length_append]; omega, b, ?_, h1, h2⟩
  rw [List.set_append_left _ _ hn]
end Mp


set_option Elab.async false
set_option linter.all false
set_option maxRecDepth 100000
set_option maxHeartbeats 1000000
/-! Rw: rows of notes, what their texts reach. -/
namespace Mp
open PySem
theorem flat_get (x : List Int) : ∀ (m k : Nat), ((List.replicate m x).flatten)[k]? = if k < m * x.length then x[k % x.length]? else none
  | 0, k => by simp
  | m + 1, k => by
    rw [List.replicate_succ, List.flatten_cons]
    by_cases h : k < x.length
    · rw [List.getElem?_append_left h, Nat.mod_eq_of_lt h, if_pos (by rw [Nat.add_mul]; omega)]
    · rw [List.getElem?_append_right (by omega), flat_get x m]
      have e : (k - x.length) % x.length = k % x.length := (Nat.mod_eq_sub_mod (by omega)).symm
      have e2 : (m + 1) * x.length = m * x.length + x.length := by rw [Nat.add_mul, Nat.one_mul]
      rw [e, e2]
      by_cases h2 : k < m * x.length + x.length
      · rw [if_pos h2, if_pos (by omega)]
      · rw [if_neg h2, if_neg (by omega)]
def Good (a : List Int) (s : Nat) : Prop := 0 < s ∧ a.length % s = 0 ∧ (List.replicate (a.length / s) (a.take s)).flatten = a
theorem good_iff {a : List Int} {s : Nat} : Good a s ↔ 0 < s ∧ a.length % s = 0 ∧ ∀ k, k < a.length → a[k]? = a[k % s]? := by
  constructor
  · rintro ⟨h0, h1, h2⟩
    refine ⟨h0, h1, fun k hk => ?_⟩
    have hs : s ≤ a.length := Nat.le_of_dvd (by omega) (Nat.dvd_of_mod_eq_zero h1)
    have hl : (a.take s).length = s := by rw [List.length_take]; omega
    have hm : a.length / s * s = a.length := Nat.div_mul_cancel (Nat.dvd_of_mod_eq_zero h1)
    have := flat_get (a.take s) (a.length / s) k
    rw [h2, hl, hm, if_pos hk, List.getElem?_take_of_lt (Nat.mod_lt _ h0)] at this
    exact this
  · rintro ⟨h0, h1, h2⟩
    refine ⟨h0, h1, ?_⟩
    apply List.ext_getElem?
    intro k
    rw [flat_get]
    have hm : a.length / s * s = a.length := Nat.div_mul_cancel (Nat.dvd_of_mod_eq_zero h1)
    by_cases ha : a.length = 0
    · rw [ha]; simp [ha]
    · have hs : s ≤ a.length := Nat.le_of_dvd (by omega) (Nat.dvd_of_mod_eq_zero h1)
      have hl : (a.take s).length = s := by rw [List.length_take]; omega
      rw [hl, hm]
      by_cases hk : k < a.length
      · rw [if_pos hk, List.getElem?_take_of_lt (Nat.mod_lt _ h0), h2 k hk]
      · rw [if_neg hk, List.getElem?_eq_none (by omega)]
theorem good_all {a : List Int} (h : a ≠ []) : Good a a.length := by
  have hl : 0 < a.length := List.length_pos_iff.mpr h
  rw [good_iff]
  exact ⟨hl, Nat.mod_self _, fun k hk => by rw [Nat.mod_eq_of_lt hk]⟩
structure IsPer (a : List Int) (p : Nat) : Prop where
  g : Good a p
  m : ∀ s, s < p → ¬ Good a s
theorem IsPer.uniq {a : List Int} {p q : Nat} (h : IsPer a p) (h' : IsPer a q) : p = q := by
  rcases Nat.lt_trichotomy p q with l | l | l
  · exact absurd h.g (h'.m p l)
  · exact l
  · exact absurd h'.g (h.m q l)
theorem IsPer.pos {a : List Int} {p : Nat} (h : IsPer a p) : 0 < p := h.g.1
theorem IsPer.le {a : List Int} {p : Nat} (h : IsPer a p) (ha : a ≠ []) : p ≤ a.length := Nat.le_of_dvd (List.length_pos_iff.mpr ha) (Nat.dvd_of_mod_eq_zero h.g.2.1)
/-- the note at a depth -/
def seen (lead turn : List Int) (i : Nat) : Int := if i < lead.length then lead.getD i 0 else turn.getD ((i - lead.length) % turn.length) 0
structure IsB (lead turn : List Int) (p b : Nat) : Prop where
  l : b ≤ lead.length
  e : ∀ j, b ≤ j → j < lead.length → seen lead turn j = seen lead turn (j + p)
  n : b = 0 ∨ seen lead turn (b - 1) ≠ seen lead turn (b - 1 + p)
theorem IsB.uniq {lead turn : List Int} {p b c : Nat} (h : IsB lead turn p b) (h' : IsB lead turn p c) : b = c := by
  rcases Nat.lt_trichotomy b c with l | l | l
  · rcases h'.n with n | n
    · omega
    · exact absurd (h.e (c - 1) (by omega) (by have := h'.l; omega)) n
  · exact l
  · rcases h.n with n | n
    · omega
    · exact absurd (h'.e (b - 1) (by omega) (by have := h.l; omega)) n
def told (lead turn : List Int) (p b : Nat) : List Int := (List.range p).map fun k => seen lead turn (b + k)
theorem told_len {lead turn : List Int} {p b : Nat} : (told lead turn p b).length = p := by simp [told]
def LR (lead turn A B : List Int) : Prop := (turn = [] ∧ A = lead ∧ B = []) ∨ (turn ≠ [] ∧ ∃ p b, IsPer turn p ∧ IsB lead turn p b ∧ A = lead.take b ∧ B = told lead turn p b)
theorem LR.uniq {lead turn A B A' B' : List Int} (h : LR lead turn A B) (h' : LR lead turn A' B') : A = A' ∧ B = B' := by
  rcases h with ⟨e, rfl, rfl⟩ | ⟨e, p, b, h1, h2, rfl, rfl⟩ <;> rcases h' with ⟨e', rfl, rfl⟩ | ⟨e', p', b', h1', h2', rfl, rfl⟩
  · exact ⟨rfl, rfl⟩
  · exact absurd e e'
  · exact absurd e' e
  · have := h1.uniq h1'
    subst this
    have := h2.uniq h2'
    subst this
    exact ⟨rfl, rfl⟩
theorem getD_of {a : List Int} {k : Nat} (h : k < a.length) : a.getD k 0 = a[k] := by simp [h]
theorem getD_good {a : List Int} {s k : Nat} (h : Good a s) (hk : k < a.length) : a.getD k 0 = a.getD (k % s) 0 := by
  have := (good_iff.mp h).2.2 k hk
  simp only [List.getD_eq_getElem?_getD, this]
theorem good_of_getD {a : List Int} {s : Nat} (h0 : 0 < s) (h1 : a.length % s = 0) (h : ∀ k, k < a.length → a.getD k 0 = a.getD (k % s) 0) : Good a s := by
  refine good_iff.mpr ⟨h0, h1, fun k hk => ?_⟩
  have hs : s ≤ a.length := Nat.le_of_dvd (by omega) (Nat.dvd_of_mod_eq_zero h1)
  have h3 : k % s < a.length := Nat.lt_of_lt_of_le (Nat.mod_lt _ h0) hs
  have := h k hk
  rw [getD_of hk, getD_of h3] at this
  rw [List.getElem?_eq_getElem hk, List.getElem?_eq_getElem h3, this]
theorem seen_far {lead turn : List Int} {i : Nat} (h : lead.length ≤ i) : seen lead turn i = turn.getD ((i - lead.length) % turn.length) 0 := if_neg (by omega)
theorem seen_near {lead turn : List Int} {i : Nat} (h : i < lead.length) : seen lead turn i = lead.getD i 0 := if_pos h
/-- far out the notes come again -/
theorem seen_per {lead turn : List Int} {p b : Nat} (h1 : Good turn p) (ht : turn ≠ []) (h2 : IsB lead turn p b) {i : Nat} (hi : b ≤ i) : seen lead turn (i + p) = seen lead turn i := by
  have hl : 0 < turn.length := List.length_pos_iff.mpr ht
  by_cases h : i < lead.length
  · exact (h2.e i hi h).symm
  · rw [seen_far (by omega), seen_far (by omega)]
    rw [getD_good h1 (Nat.mod_lt _ hl), getD_good h1 (Nat.mod_lt (i - lead.length) hl)]
    rw [Nat.mod_mod_of_dvd _ (Nat.dvd_of_mod_eq_zero h1.2.1), Nat.mod_mod_of_dvd _ (Nat.dvd_of_mod_eq_zero h1.2.1)]
    have : i + p - lead.length = i - lead.length + p := by omega
    rw [this, Nat.add_mod_right]
theorem seen_mod {lead turn : List Int} {p b : Nat} (h1 : Good turn p) (ht : turn ≠ []) (h2 : IsB lead turn p b) : ∀ (m k : Nat), seen lead turn (b + (k + p * m)) = seen lead turn (b + k)
  | 0, k => by simp
  | m + 1, k => by
    have e : b + (k + p * (m + 1)) = b + (k + p * m) + p := by rw [Nat.mul_add]; omega
    rw [e, seen_per h1 ht h2 (by omega), seen_mod h1 ht h2 m k]
theorem told_get {lead turn : List Int} {p b k : Nat} (h : k < p) : (told lead turn p b).getD k 0 = seen lead turn (b + k) := by
  simp [told, h]
theorem seen_told {lead turn : List Int} {p b : Nat} (h1 : Good turn p) (ht : turn ≠ []) (h2 : IsB lead turn p b) (k : Nat) : seen lead turn (b + k) = (told lead turn p b).getD (k % p) 0 := by
  rw [told_get (Nat.mod_lt _ h1.1)]
  have := seen_mod h1 ht h2 (k / p) (k % p)
  rw [Nat.mod_add_div] at this
  exact this
theorem per_told {lead turn : List Int} {p b : Nat} (h1 : IsPer turn p) (ht : turn ≠ []) (h2 : IsB lead turn p b) : IsPer (told lead turn p b) p := by
  have hl : 0 < turn.length := List.length_pos_iff.mpr ht
  refine ⟨?_, fun s hs hg => ?_⟩
  · have := good_all (a := told lead turn p b) (by
      intro e
      have : (told lead turn p b).length = 0 := by rw [e]; rfl
      rw [told_len] at this
      have := h1.pos
      omega)
    rw [told_len] at this
    exact this
  · refine h1.m s hs ?_
    have hs0 := hg.1
    have hsp : p % s = 0 := by have := hg.2.1; rw [told_len] at this; exact this
    have dsp : s ∣ p := Nat.dvd_of_mod_eq_zero hsp
    have dpn : p ∣ turn.length := Nat.dvd_of_mod_eq_zero h1.g.2.1
    refine good_of_getD hs0 (Nat.mod_eq_zero_of_dvd (Nat.dvd_trans dsp dpn)) fun k hk => ?_
    have key : ∀ j, seen lead turn (b + j) = (told lead turn p b).getD (j % s) 0 := fun j => by
      rw [seen_told h1.g ht h2 j, getD_good hg (by rw [told_len]; exact Nat.mod_lt _ h1.pos), Nat.mod_mod_of_dvd _ dsp]
    have far : ∀ j, j < turn.length → turn.getD j 0 = seen lead turn (lead.length + j) := fun j hj => by
      rw [seen_far (by omega)]
      have : lead.length + j - lead.length = j := by omega
      rw [this, Nat.mod_eq_of_lt hj]
    have hsn : s ≤ turn.length := Nat.le_of_dvd hl (Nat.dvd_trans dsp dpn)
    rw [far k hk, far (k % s) (Nat.lt_of_lt_of_le (Nat.mod_lt _ hs0) hsn)]
    have hb := h2.l
    have e1 : lead.length + k = b + (lead.length - b + k) := by omega
    have e2 : lead.length + k % s = b + (lead.length - b + k % s) := by omega
    rw [e1, e2, key, key, Nat.add_mod_mod]
theorem LR.idem {lead turn A B A' B' : List Int} (h : LR lead turn A B) (h' : LR A B A' B') : A' = A ∧ B' = B := by
  rcases h with ⟨e, rfl, rfl⟩ | ⟨e, p, b, h1, h2, rfl, rfl⟩
  · rcases h' with ⟨_, rfl, rfl⟩ | ⟨e', _⟩
    · exact ⟨rfl, rfl⟩
    · exact absurd rfl e'
  · rcases h' with ⟨e', _⟩ | ⟨e', p', b', h1', h2', rfl, rfl⟩
    · have : (told lead turn p b).length = 0 := by rw [e']; rfl
      rw [told_len] at this
      have := h1.pos
      omega
    · have := (per_told h1 e h2).uniq h1'
      subst this
      have hl : (lead.take b).length = b := by rw [List.length_take]; have := h2.l; omega
      have hb : IsB (lead.take b) (told lead turn p b) p b := by
        refine ⟨by omega, fun j h3 h4 => by omega, ?_⟩
        rcases h2.n with n | n
        · exact .inl n
        · by_cases b0 : b = 0
          · exact .inl b0
          · right
            have hp := h1.pos
            rw [seen_near (by omega), seen_far (by omega)]
            have e1 : (lead.take b).getD (b - 1) 0 = seen lead turn (b - 1) := by
              rw [seen_near (by have := h2.l; omega)]
              simp only [List.getD_eq_getElem?_getD]
              rw [List.getElem?_take_of_lt (by omega)]
            have e2 : (b - 1 + p - (lead.take b).length) % (told lead turn p b).length = p - 1 := by
              rw [hl, told_len]
              have : b - 1 + p - b = p - 1 := by omega
              rw [this, Nat.mod_eq_of_lt (by omega)]
            rw [e1, e2, told_get (by omega)]
            have : b + (p - 1) = b - 1 + p := by omega
            rw [this]
            exact n
      have := hb.uniq h2'
      subst this
      refine ⟨List.take_of_length_le (by omega), ?_⟩
      apply List.ext_getElem?
      intro k
      by_cases hk : k < p
      · have e1 : (told (lead.take b) (told lead turn p b) p b)[k]? = some (seen (lead.take b) (told lead turn p b) (b + k)) := by simp [told, hk]
        have e2 : (told lead turn p b)[k]? = some (seen lead turn (b + k)) := by simp [told, hk]
        rw [e1, e2, seen_far (by omega), hl, told_len]
        have : b + k - b = k := by omega
        rw [this, Nat.mod_eq_of_lt hk, told_get hk]
      · rw [List.getElem?_eq_none (by rw [told_len]; omega), List.getElem?_eq_none (by rw [told_len]; omega)]

/-! ### the texts -/
def S_shortest : EvS := sSeq (sFor (itRng2 (con (.int 1)) (ev2 opAdd (ev1S lenT (var 0)) (con (.int 1)))) (.name 1) (sIf (andB (testV (ev2 opEq (ev2 opMod (ev1S lenT (var 0)) (var 1)) (con (.int 0)))) (testV (ev2 opEq (ev2 opMul (ev3S opCut (var 0) (con .non) (Ev.bind (var 1) asPart)) (ev2 opDiv (ev1S lenT (var 0)) (var 1))) (var 0)))) (sRet (ev3S opCut (var 0) (con .non) (Ev.bind (var 1) asPart))) (sNx))) (sRet (var 0))
def F_shortest : FnD := runFn 1 2 S_shortest
def S_least_row : EvS := sSeq (sPar [2, 3] [ev1S tupleT (var 0), callP F_shortest [ev1S tupleT (var 1)]]) (sSeq (sWhile (andB (testV (ev2 opNe (var 3) (evN mkTup []))) (andB (testV (ev2 opNe (var 2) (evN mkTup []))) (testV (ev2 opEq (ev2S opIx (var 2) (ev1 opNeg (con (.int 1)))) (ev2S opIx (var 3) (ev1 opNeg (con (.int 1)))))))) (sPar [2, 3] [ev3S opCut (var 2) (con .non) (Ev.bind (ev1 opNeg (con (.int 1))) asPart), ev2 opAdd (ev3S opCut (var 3) (Ev.bind (ev1 opNeg (con (.int 1))) asPart) (con .non)) (ev3S opCut (var 3) (con .non) (Ev.bind (ev1 opNeg (con (.int 1))) asPart))])) (sRet (evN mkTup [var 2, var 3])))
def F_least_row : FnD := runFn 2 4 S_least_row
def S_note_at : EvS := sSeq (sAsg (.tup [(.name 2), (.name 3)]) (var 0)) (sSeq (sIf (orB (testV (ev2 opLt (var 1) (con (.int 0)))) (andB (testV (ev2 opGe (var 1) (ev1S lenT (var 2)))) (testV (ev2 opEq (var 3) (evN mkTup []))))) (sRaise "NoNote" ["depth", "word"] (evL [var 1])) (sNx)) (sRet (iteE (testV (ev2 opLt (var 1) (ev1S lenT (var 2)))) (ev2S opIx (var 2) (var 1)) (ev2S opIx (var 3) (ev2 opMod (ev2 opSub (var 1) (ev1S lenT (var 2))) (ev1S lenT (var 3)))))))
def F_note_at : FnD := runFn 2 4 S_note_at
def S_behind : EvS := sSeq (sAsg (.tup [(.name 2), (.name 3)]) (var 0)) (sSeq (sIf (testV (ev2 opLe (var 1) (ev1S lenT (var 2)))) (sRet (callP F_least_row [ev3S opCut (var 2) (Ev.bind (var 1) asPart) (con .non), var 3])) (sNx)) (sSeq (sIf (testV (ev2 opEq (var 3) (evN mkTup []))) (sRaise "NoNote" ["depth", "word"] (evL [ev1S lenT (var 2)])) (sNx)) (sSeq (sAsg (.name 4) (ev2 opMod (ev2 opSub (var 1) (ev1S lenT (var 2))) (ev1S lenT (var 3)))) (sRet (evN mkTup [evN mkTup [], ev2 opAdd (ev3S opCut (var 3) (Ev.bind (var 4) asPart) (con .non)) (ev3S opCut (var 3) (con .non) (Ev.bind (var 4) asPart))])))))
def F_behind : FnD := runFn 2 5 S_behind
def S_rows : EvS := sSeq (sOwn 4 (evN mkLst [])) (sSeq (sFor (itSeq (var 1)) (.name 5) (sSeq (sAsg (.name 6) (comp1 [8] (itRng1 (callP F_pull [var 0, ev2 opAdd (var 2) (con (.int 1))])) (.name 8) tYes (callP F_pull [var 0, var 5]))) (sSeq (sAsg (.name 7) (evN mkLst [])) (sSeq (sIf (andB (testV (ev2 opGt (var 3) (con (.int 0)))) (testV (ev2 opEq (callP F_pull [var 0, var 3]) (con (.int 0))))) (sAsg (.name 7) (comp1 [8] (itRng1 (ev2 opAdd (con (.int 1)) (callP F_pull [var 0, con (.int 4)]))) (.name 8) tYes (callP F_pull [var 0, var 5]))) (sNx)) (sUpd 4 (evL [evN mkTup [var 6, var 7]]) opApp))))) (sRet (ownV 4)))
def F_rows : FnD := runFn 4 9 S_rows
def S_seen : EvS := sSeq (sAsg (.tup [(.name 2), (.name 3)]) (var 0)) (sSeq (sIf (testV (chain opLe opLt (con (.int 0)) (var 1) (ev1S lenT (var 2)))) (sRet (ev2S opIx (var 2) (var 1))) (sNx)) (sSeq (sIf (orB (testV (ev2 opLt (var 1) (con (.int 0)))) (testV (ev2 opEq (var 3) (evN mkLst [])))) (sRet (con .non)) (sNx)) (sRet (ev2S opIx (var 3) (ev2 opMod (ev2 opSub (var 1) (ev1S lenT (var 2))) (ev1S lenT (var 3)))))))
def F_seen : FnD := runFn 2 4 S_seen
def S_least : EvS := sSeq (sAsg (.tup [(.name 1), (.name 2)]) (var 0)) (sSeq (sIf (testV (ev2 opEq (var 2) (evN mkLst []))) (sRet (evN mkTup [ev1S tupleT (var 1), evN mkTup []])) (sNx)) (sSeq (sAsg (.name 3) (comp1 [6] (itRng2 (con (.int 1)) (ev2 opAdd (ev1S lenT (var 2)) (con (.int 1)))) (.name 6) (testV (ev2 opEq (ev2 opMod (ev1S lenT (var 2)) (var 6)) (con (.int 0)))) (var 6))) (sSeq (sAsg (.name 4) (ev2S opIx (comp1 [6] (itSeq (var 3)) (.name 6) (testV (ev2 opEq (ev2 opMul (ev3S opCut (var 2) (con .non) (Ev.bind (var 6) asPart)) (ev2 opDiv (ev1S lenT (var 2)) (var 6))) (var 2))) (var 6)) (con (.int 0)))) (sSeq (sAsg (.name 5) (ev1S lenT (var 1))) (sSeq (sWhile (andB (testV (ev2 opGt (var 5) (con (.int 0)))) (testV (ev2 opEq (ev2S opIx (var 1) (ev2 opSub (var 5) (con (.int 1)))) (callP F_seen [var 0, ev2 opAdd (ev2 opSub (var 5) (con (.int 1))) (var 4)])))) (sAsg (.name 5) (ev2 opSub (var 5) (con (.int 1))))) (sRet (evN mkTup [ev1S tupleT (ev3S opCut (var 1) (con .non) (Ev.bind (var 5) asPart)), ev1S tupleT (comp1 [7] (itRng1 (var 4)) (.name 7) tYes (callP F_seen [var 0, ev2 opAdd (var 5) (var 7)]))])))))))
def F_least : FnD := runFn 1 8 S_least
def S_far : EvS := sRet (callP F_pull [var 0, ev2 opPow (con (.int 10)) (con (.int 29))])
def F_far : FnD := runFn 1 1 S_far
def S_has : EvS := sRet (orV (ev2 opNe (ev2S opIx (var 0) (con (.int 1))) (evN mkLst [])) (ev2 opGe (ev1S lenT (ev2S opIx (var 0) (con (.int 0)))) (var 1)))
def F_has : FnD := runFn 2 2 S_has
def S_cut : EvS := sSeq (sAsg (.tup [(.name 2), (.name 3)]) (var 0)) (sSeq (sIf (testV (ev2 opLe (var 1) (ev1S lenT (var 2)))) (sRet (evN mkTup [ev3S opCut (var 2) (Ev.bind (var 1) asPart) (con .non), ev1S listT (var 3)])) (sNx)) (sSeq (sAsg (.name 4) (ev2 opMod (ev2 opSub (var 1) (ev1S lenT (var 2))) (ev1S lenT (var 3)))) (sRet (evN mkTup [evN mkLst [], ev2 opAdd (ev3S opCut (var 3) (Ev.bind (var 4) asPart) (con .non)) (ev3S opCut (var 3) (con .non) (Ev.bind (var 4) asPart))]))))
def F_cut : FnD := runFn 2 5 S_cut
/-- one step of a text, forwards -/
local macro_rules | `(tactic| fold_depth) => `(tactic| first
  | (with_reducible first
    | refine ws_seq.mpr ?_ | refine ws_if.mpr ?_ | refine ws_ret.mpr ?_ | refine ws_asgN.mpr ?_ | refine ws_asg.mpr ?_ | refine ws_ix.mpr ?_ | refine ws_nx.mpr ?_ | refine ws_par.mpr ?_ | refine ws_for.mpr ?_ | refine ws_shr.mpr ?_ | refine ws_aug.mpr ?_ | refine ws_upd.mpr ?_ | refine ws_own.mpr ?_ | refine ws_frz.mpr ?_ | refine ws_fl.mpr ?_
    | refine we_ev2.mpr ?_ | refine we_ev2S.mpr ?_ | refine we_ev3S.mpr ?_ | refine we_ev1S.mpr ?_ | refine we_ev1.mpr ?_ | refine we_con.mpr ?_ | refine we_testV.mpr ?_
    | refine we_callP.mpr ?_ | refine we_cons.mpr ?_ | refine we_nil.mpr ?_ | refine we_evN.mpr ?_ | refine we_andB.mpr ?_ | refine we_orB.mpr ?_ | refine we_notT.mpr ?_ | refine we_andV.mpr ?_ | refine we_notV.mpr ?_ | refine we_orV.mpr ?_ | refine we_ite.mpr ?_ | refine we_chain.mpr ?_
    | refine we_bind.mpr ?_ | refine we_pure.mpr ?_ | refine we_part.mpr ?_ | refine we_itRng1.mpr ?_ | refine we_itRng2.mpr ?_ | refine we_itSeq.mpr ?_ | refine we_comp1.mpr ?_ | refine we_peek.mpr ?_ | refine we_ownV.mpr ?_ | refine we_var.mpr ?_
    | refine ⟨_, len_tup, ?_⟩ | refine ⟨_, len_lst, ?_⟩ | refine ⟨_, neN, ?_⟩ | refine ⟨_, eqI, ?_⟩ | refine ⟨_, eqB, ?_⟩ | refine ⟨_, eq_int, ?_⟩ | refine ⟨_, ne_int, ?_⟩ | refine ⟨_, eq_tup, ?_⟩ | refine ⟨_, eq_lst, ?_⟩ | refine ⟨_, ne_tup, ?_⟩ | refine ⟨_, ne_lst, ?_⟩)
  | refine ⟨fun (_ : Fl.nx = Fl.nx) => ?_, fun (z : Fl.nx ≠ Fl.nx) => absurd rfl z⟩ | refine ⟨fun (z : Fl.ret _ = Fl.nx) => Fl.noConfusion z, fun _ => ?_⟩ | refine fun (_ : Fl.ret _ ≠ Fl.nx) => ?_
  | refine ⟨fun (_ : true = true) => ?_, fun (z : true = false) => Bool.noConfusion z⟩ | refine ⟨fun (z : false = true) => Bool.noConfusion z, fun (_ : false = false) => ?_⟩
  | (fail_if_success (with_reducible refine isCut ?_)
     fail_if_success (with_reducible refine isMul ?_)
     fail_if_success (with_reducible refine isDiv ?_)
     first | refine ⟨.bl true, rfl, ?_⟩ | refine ⟨.bl false, rfl, ?_⟩ | refine ⟨true, rfl, ?_⟩ | refine ⟨false, rfl, ?_⟩ | refine ⟨_, rfl, ?_⟩))
theorem wn_shortest {a : List Int} {st : Store} (h : a.length ≤ 1000) : WN F_shortest [.tup (il a)] st fun t st' => st' = st ∧ ((a = [] ∧ t = .tup (il [])) ∨ (a ≠ [] ∧ ∃ p, IsPer a p ∧ t = .tup (il (a.take p)))) := by
  unfold F_shortest
  with_reducible refine wn_run.mpr ?_
  refine ⟨rfl, ?_⟩
  have e0 : startE 2 [T.tup (il a)] = [.fr (.tup (il a)), .no] := rfl
  rw [e0]
  unfold S_shortest
  repeat fold_depth
  have el : ((il a).length : Int) = (a.length : Int) := by rw [il_len]
  refine ⟨_, _, rfl, rfl, ⟨⟨by omega, by omega⟩, by decide, by decide⟩, ?_⟩
  have en : ((a.length : Int) + 1 - 1).toNat = a.length := by omega
  rw [en]
  refine (ws_forRet (all := rangeL 1 a.length) (fun done e s => s = st ∧ (∃ sl, e = [.fr (.tup (il a)), sl]) ∧ ∀ s : Nat, s ≤ done.length → ¬ Good a s) (fun t s => s = st ∧ a ≠ [] ∧ ∃ p, IsPer a p ∧ t = .tup (il (a.take p))) ?_ _ [] _ _ rfl ⟨rfl, ⟨_, rfl⟩, ?_⟩).imp ?_
  · rintro x done rest env st0 he ⟨rfl, ⟨sl, rfl⟩, hg⟩
    obtain ⟨rfl, hd⟩ := rangeL_at he
    have ex : (1 + (done.length : Int)) = ((done.length + 1 : Nat) : Int) := by omega
    rw [ex]
    generalize hs : done.length + 1 = s
    refine ⟨_, rfl, ?_⟩
    have s0 : (0 : Int) < (s : Int) := by omega
    show WS _ [.fr (.tup (il a)), .fr (.int s)] _ _
    have no : ¬ Good a s → WS sNx [.fr (.tup (il a)), .fr (.int s)] st0 fun fl e s' => (fl = Fl.nx ∧ s' = st0 ∧ (∃ sl, e = [Slot.fr (T.tup (il a)), sl]) ∧ ∀ s' : Nat, s' ≤ (done ++ [T.int (s : Int)]).length → ¬ Good a s') ∨ ∃ t, fl = Fl.ret t ∧ s' = st0 ∧ a ≠ [] ∧ ∃ p, IsPer a p ∧ t = .tup (il (a.take p)) := fun hn => by
      refine ws_nx.mpr (.inl ⟨rfl, rfl, ⟨_, rfl⟩, fun s' hs' => ?_⟩)
      have hs' : s' ≤ done.length + 1 := by simpa using hs'
      by_cases h1 : s' = s
      · subst h1; exact hn
      · exact hg s' (by omega)
    have em : ((a.length : Int) % (s : Int) = 0) ↔ a.length % s = 0 := by omega
    have eq : ((a.length : Int) / (s : Int)) = ((a.length / s : Nat) : Int) := rfl
    have ed : ((a.length : Int) / (s : Int)).toNat = a.length / s := rfl
    repeat fold_depth
    refine ⟨_, opMod_ok s0, ?_⟩
    repeat fold_depth
    refine dec_split (fun hm => ?_) (fun hm => ?_)
    · have hm := em.mp hm
      have hsa : s ≤ a.length := by omega
      repeat fold_depth
      refine ⟨_, (cut_to (by omega) (by omega)).1, ?_⟩
      repeat fold_depth
      refine ⟨_, opDiv_ok s0 (Int.lt_trans (b := 2 ^ 60) (by omega) (by decide +kernel)), ?_⟩
      repeat fold_depth
      have hd2 : a.length / s * s ≤ a.length := Nat.div_mul_le_self _ _
      have et : (s : Int).toNat = s := rfl
      have hdl : a.length / s ≤ a.length := Nat.div_le_self _ _
      refine ⟨_, mul_tup ?_ ?_ ?_, ?_⟩
      · rw [ed, et, List.length_take, Nat.min_eq_left hsa, Nat.mul_comm]; omega
      · rw [eq]; omega
      · rw [eq]; omega
      rw [ed, et]
      repeat fold_depth
      refine dec_split (fun hf => ?_) (fun hf => ?_)
      · have hG : Good a s := ⟨by omega, hm, hf⟩
        repeat fold_depth
        refine ⟨_, (cut_to (by omega) (by omega)).1, ?_⟩
        exact .inr ⟨_, rfl, rfl, (by rintro rfl; simp at hsa; omega), s, ⟨hG, fun s' hs' => hg s' (by omega)⟩, rfl⟩
      · exact no fun hG => hf hG.2.2
    · exact ⟨fun z => Bool.noConfusion z, fun _ => no fun hG => hm (em.mpr hG.2.1)⟩
  · intro s hs hg
    have := hg.1
    simp at hs
    omega
  · rintro fl e s (⟨rfl, rfl, ⟨sl, rfl⟩, hg⟩ | ⟨t, rfl, rfl, ha, p, hp, rfl⟩)
    · rw [len_rangeL] at hg
      refine ⟨fun _ => ?_, fun z => absurd rfl z⟩
      repeat fold_depth
      have : a = [] := Classical.byContradiction fun ha => hg _ (Nat.le_refl _) (good_all ha)
      subst this
      exact ⟨rfl, .inl ⟨rfl, rfl⟩⟩
    · exact ⟨fun z => Fl.noConfusion z, fun _ => ⟨rfl, .inr ⟨ha, p, hp, rfl⟩⟩⟩
theorem told_last {lead turn : List Int} {p b : Nat} (hp : 0 < p) (h : told lead turn p b ≠ []) : (told lead turn p b).getLast h = seen lead turn (b + (p - 1)) := by
  rw [List.getLast_eq_getElem]
  simp [told]
theorem told_ne {lead turn : List Int} {p b : Nat} (hp : 0 < p) : told lead turn p b ≠ [] := by
  intro e
  have : (told lead turn p b).length = 0 := by rw [e]; rfl
  rw [told_len] at this
  omega
theorem told_roll {lead turn : List Int} {p b : Nat} (hp : 0 < p) (hb : 0 < b) (h : seen lead turn (b - 1) = seen lead turn (b + (p - 1))) : [seen lead turn (b + (p - 1))] ++ (told lead turn p b).dropLast = told lead turn p (b - 1) := by
  obtain ⟨q, rfl⟩ : ∃ q, p = q + 1 := ⟨p - 1, by omega⟩
  have e1 : (told lead turn (q + 1) b).dropLast = (List.range q).map fun k => seen lead turn (b + k) := by
    simp [told, List.range_succ]
  have e2 : told lead turn (q + 1) (b - 1) = seen lead turn (b - 1) :: (List.range q).map fun k => seen lead turn (b + k) := by
    unfold told
    rw [List.range_succ_eq_map, List.map_cons, List.map_map]
    congr 1
    apply List.map_congr_left
    intro k _
    show seen lead turn (b - 1 + (k + 1)) = _
    have : b - 1 + (k + 1) = b + k := by omega
    rw [this]
  rw [e1, e2, ← h]; rfl
theorem take_last {lead turn : List Int} {b : Nat} (h : b ≤ lead.length) (h2 : lead.take b ≠ []) : (lead.take b).getLast h2 = seen lead turn (b - 1) := by
  have hb : 0 < b := by
    rcases Nat.eq_zero_or_pos b with rfl | h3
    · exact absurd rfl h2
    · exact h3
  rw [seen_near (by omega), List.getLast_eq_getElem, getD_of (by omega)]
  simp [List.length_take, Nat.min_eq_left h]
theorem take_drop {lead : List Int} {b : Nat} (h : b ≤ lead.length) : (lead.take b).dropLast = lead.take (b - 1) := by
  rw [List.dropLast_eq_take, List.length_take, Nat.min_eq_left h, List.take_take]
  congr 1
  omega
theorem told_all {lead turn : List Int} {p : Nat} (h : IsPer turn p) (ht : turn ≠ []) : turn.take p = told lead turn p lead.length := by
  have hp := h.le ht
  apply List.ext_getElem?
  intro k
  by_cases hk : k < p
  · rw [List.getElem?_take_of_lt hk]
    have : (told lead turn p lead.length)[k]? = some (seen lead turn (lead.length + k)) := by simp [told, hk]
    rw [this, seen_far (by omega)]
    have : lead.length + k - lead.length = k := by omega
    rw [this, Nat.mod_eq_of_lt (by omega), getD_of (by omega), List.getElem?_eq_getElem (by omega)]
  · rw [List.getElem?_eq_none (by rw [List.length_take]; omega), List.getElem?_eq_none (by rw [told_len]; omega)]
theorem wn_least_row {lead turn : List Int} {x y : T} {st : Store} (hx : x = .tup (il lead) ∨ x = .lst (il lead)) (hy : y = .tup (il turn) ∨ y = .lst (il turn)) (hl : lead.length ≤ 1000) (ht : turn.length ≤ 1000) :
    WN F_least_row [x, y] st fun t st' => st' = st ∧ ∃ A B, LR lead turn A B ∧ A.length ≤ 1000 ∧ B.length ≤ 1000 ∧ t = .tup [.tup (il A), .tup (il B)] := by
  unfold F_least_row
  with_reducible refine wn_run.mpr ?_
  refine ⟨rfl, ?_⟩
  have e0 : startE 4 [x, y] = [.fr x, .fr y, .no, .no] := rfl
  rw [e0]
  unfold S_least_row
  have tx : tupleT st x = some (.tup (il lead)) := by rcases hx with rfl | rfl <;> rfl
  have ty : tupleT st y = some (.tup (il turn)) := by rcases hy with rfl | rfl <;> rfl
  refine ws_seq.mpr (ws_par.mpr (we_cons.mpr (we_ev1S.mpr (we_var.mpr ⟨_, rfl, _, tx, ?_⟩))))
  refine we_cons.mpr (we_callP.mpr (we_cons.mpr (we_ev1S.mpr (we_var.mpr ⟨_, rfl, _, ty, we_nil.mpr ?_⟩))))
  refine (wn_shortest ht).imp ?_
  rintro t s ⟨rfl, hs⟩
  refine we_nil.mpr ⟨_, rfl, fun _ => ?_, fun z => absurd rfl z⟩
  show WS _ [.fr x, .fr y, .fr (.tup (il lead)), .fr t] s _
  rcases hs with ⟨ht0, rfl⟩ | ⟨hne, p, hp, rfl⟩
  · refine ws_seq.mpr (ws_whileStop ?_)
    repeat fold_depth
    refine ⟨rfl, fun _ => ?_, fun z => absurd rfl z⟩
    repeat fold_depth
    exact ⟨rfl, _, _, .inl ⟨ht0, rfl, rfl⟩, hl, by decide, rfl⟩
  · have hp0 := hp.pos
    have hpl := hp.le hne
    rw [told_all (lead := lead) hp hne]
    refine ws_seq.mpr ?_
    refine (ws_whileInv (fun m e s' => s' = s ∧ m ≤ lead.length ∧ (∀ j, m ≤ j → j < lead.length → seen lead turn j = seen lead turn (j + p)) ∧ e = [.fr x, .fr y, .fr (.tup (il (lead.take m))), .fr (.tup (il (told lead turn p m)))])
      (fun e s' => s' = s ∧ ∃ b, IsB lead turn p b ∧ e = [.fr x, .fr y, .fr (.tup (il (lead.take b))), .fr (.tup (il (told lead turn p b)))]) ?_ turns lead.length _ s ⟨rfl, Nat.le_refl _, fun j h1 h2 => by omega, by rw [List.take_length]⟩ (Nat.lt_of_le_of_lt hl (by decide))).imp ?_
    · rintro m e s' ⟨rfl, hm, hj, rfl⟩
      have hB := told_ne (lead := lead) (turn := turn) (b := m) hp0
      have stop : (m = 0 ∨ seen lead turn (m - 1) ≠ seen lead turn (m - 1 + p)) → ∃ b, IsB lead turn p b ∧ ([.fr x, .fr y, .fr (.tup (il (lead.take m))), .fr (.tup (il (told lead turn p m)))] : En) = [.fr x, .fr y, .fr (.tup (il (lead.take b))), .fr (.tup (il (told lead turn p b)))] := fun h => ⟨m, ⟨hm, hj, h⟩, rfl⟩
      repeat fold_depth
      refine ⟨_, ne_tup (ys := []), _, rfl, dec_splitN (fun _ => ?_) (fun h => absurd h hB)⟩
      repeat fold_depth
      refine ⟨_, ne_tup (ys := []), _, rfl, dec_splitN (fun hA => ?_) (fun h => ?_)⟩
      · have hm0 : 0 < m := by
          rcases Nat.eq_zero_or_pos m with rfl | h3
          · exact absurd rfl hA
          · exact h3
        have ep : m + (p - 1) = m - 1 + p := by omega
        repeat fold_depth
        refine ⟨_, ix_last hA, ?_⟩
        repeat fold_depth
        refine ⟨_, ix_last hB, ?_⟩
        rw [take_last (turn := turn) hm hA, told_last hp0 hB]
        repeat fold_depth
        refine dec_split (fun hq => ?_) (fun hq => ?_)
        · repeat fold_depth
          refine ⟨_, cut_init hA, ?_⟩
          repeat fold_depth
          refine ⟨_, cut_last hB, ?_⟩
          repeat fold_depth
          refine ⟨_, cut_init hB, ?_⟩
          repeat fold_depth
          rw [told_last hp0 hB, take_drop hm]
          refine ⟨_, add_tup ?_, ?_⟩
          · rw [List.length_dropLast, told_len]; simp; omega
          rw [told_roll hp0 hm0 hq]
          repeat fold_depth
          refine ⟨rfl, m - 1, by omega, rfl, by omega, fun j h1 h2 => ?_, rfl⟩
          by_cases h3 : j = m - 1
          · subst h3; rw [← ep]; exact hq
          · exact hj j (by omega) h2
        · refine ⟨rfl, stop (.inr ?_)⟩
          rw [← ep]; exact hq
      · refine ⟨fun z => Bool.noConfusion z, fun _ => ⟨rfl, stop ?_⟩⟩
        rcases Nat.eq_zero_or_pos m with h3 | h3
        · exact .inl h3
        · have : (lead.take m).length = 0 := by rw [h]; rfl
          rw [List.length_take] at this
          omega
    · rintro fl e s' ⟨rfl, rfl, b, hb, rfl⟩
      refine ⟨fun _ => ?_, fun z => absurd rfl z⟩
      repeat fold_depth
      refine ⟨rfl, _, _, .inr ⟨hne, p, b, hp, hb, rfl, rfl⟩, ?_, ?_, rfl⟩
      · rw [List.length_take]; omega
      · rw [told_len]; omega
theorem wn_seen {lead turn : List Int} {i : Nat} {st : Store} (hi : i < 2 ^ 60) (ht : turn ≠ []) : WN F_seen [.tup [.lst (il lead), .lst (il turn)], .int (i : Int)] st fun t st' => t = .int (seen lead turn i) ∧ st' = st := by
  unfold F_seen
  with_reducible refine wn_run.mpr ?_
  refine ⟨rfl, ?_⟩
  have e0 : startE 4 [T.tup [.lst (il lead), .lst (il turn)], .int (i : Int)] = [.fr (.tup [.lst (il lead), .lst (il turn)]), .fr (.int i), .no, .no] := rfl
  rw [e0]
  unfold S_seen
  have hl : 0 < turn.length := List.length_pos_iff.mpr ht
  refine ws_seq.mpr (ws_asg.mpr (we_var.mpr ⟨_, rfl, _, rfl, ⟨fun _ => ?_, fun z => absurd rfl z⟩⟩))
  show WS _ [.fr (.tup [.lst (il lead), .lst (il turn)]), .fr (.int i), .fr (.lst (il lead)), .fr (.lst (il turn))] st _
  repeat fold_depth
  refine dec_split (fun h => ?_) (fun h => ?_)
  · repeat fold_depth
    refine ⟨_, ix_lst (by omega) (by omega), ?_⟩
    repeat fold_depth
    refine ⟨?_, rfl⟩
    rw [seen_near (by omega), getD_of (by omega)]
    rfl
  · repeat fold_depth
    refine ⟨_, eq_lst (ys := []), _, rfl, dec_split (fun h => absurd h ht) (fun _ => ?_)⟩
    repeat fold_depth
    refine ⟨_, opMod_ok (by omega), ?_⟩
    have e : ((i : Int) - (lead.length : Int)) % (turn.length : Int) = (((i - lead.length) % turn.length : Nat) : Int) := by
      have e1 : (i : Int) - (lead.length : Int) = ((i - lead.length : Nat) : Int) := by omega
      rw [e1]
      rfl
    rw [e]
    have hm : (i - lead.length) % turn.length < turn.length := Nat.mod_lt _ hl
    refine ⟨_, ix_lst (i := (((i - lead.length) % turn.length : Nat) : Int)) (by omega) hm, ?_⟩
    repeat fold_depth
    refine ⟨?_, rfl⟩
    rw [seen_far (by omega), getD_of hm]
    rfl
def pr1 (turn : List Int) (t : T) : Bool := match t with | .int i => decide ((turn.length : Int) % i = 0) | _ => false
def pr2 (turn : List Int) (t : T) : Bool := match t with | .int i => decide ((List.replicate (turn.length / i.toNat) (turn.take i.toNat)).flatten = turn) | _ => false
theorem wn_least {lead turn : List Int} {st : Store} (hl : lead.length ≤ 1000) (ht : turn.length ≤ 1000) :
    WN F_least [.tup [.lst (il lead), .lst (il turn)]] st fun t st' => st' = st ∧ ∃ A B, LR lead turn A B ∧ t = .tup [.tup (il A), .tup (il B)] := by
  unfold F_least
  with_reducible refine wn_run.mpr ?_
  refine ⟨rfl, ?_⟩
  have e0 : startE 8 [T.tup [.lst (il lead), .lst (il turn)]] = [.fr (.tup [.lst (il lead), .lst (il turn)]), .no, .no, .no, .no, .no, .no, .no] := rfl
  rw [e0]
  unfold S_least
  refine ws_seq.mpr (ws_asg.mpr (we_var.mpr ⟨_, rfl, _, rfl, ⟨fun _ => ?_, fun z => absurd rfl z⟩⟩))
  show WS _ [.fr (.tup [.lst (il lead), .lst (il turn)]), .fr (.lst (il lead)), .fr (.lst (il turn)), .no, .no, .no, .no, .no] st _
  generalize hr : T.tup [.lst (il lead), .lst (il turn)] = row
  repeat fold_depth
  refine ⟨_, eq_lst (ys := []), _, rfl, dec_split (fun h => ?_) (fun hne => ?_)⟩
  · repeat fold_depth
    exact ⟨rfl, _, _, .inl ⟨h, rfl, rfl⟩, rfl⟩
  · have hn : 0 < turn.length := List.length_pos_iff.mpr hne
    repeat fold_depth
    refine ⟨_, _, rfl, rfl, ⟨⟨by omega, by omega⟩, by decide, by decide⟩, ?_⟩
    have en : ((turn.length : Int) + 1 - 1).toNat = turn.length := by omega
    rw [en]
    refine ⟨by rw [len_rangeL]; omega, ?_⟩
    show WC _ _ _ [.fr row, .fr (.lst (il lead)), .fr (.lst (il turn)), .no, .no, .no, .no, .no] _ _ _
    refine wc_filter (pr := pr1 turn) (show 6 < 8 by decide) _ (fun x hx => ?_) ?_
    · obtain ⟨i, rfl, i0, i1⟩ := mem_rangeL hx
      show WE _ [.fr row, .fr (.lst (il lead)), .fr (.lst (il turn)), .no, .no, .no, .fr (.int i), .no] _ _
      repeat fold_depth
      refine ⟨_, opMod_ok (by omega), ?_⟩
      repeat fold_depth
      exact ⟨rfl, rfl⟩
    · generalize hL : (rangeL 1 turn.length).filter (pr1 turn) = L
      refine ⟨fun _ => ?_, fun z => absurd rfl z⟩
      show WS _ [.fr row, .fr (.lst (il lead)), .fr (.lst (il turn)), .fr (.lst L), .no, .no, .no, .no] _ _
      repeat fold_depth
      refine .inl ⟨_, .inl rfl, ?_, ?_⟩
      · rw [← hL]
        exact Nat.le_trans (List.length_filter_le ..) (by rw [len_rangeL]; omega)
      show WC _ _ _ [.fr row, .fr (.lst (il lead)), .fr (.lst (il turn)), .fr (.lst L), .no, .no, .no, .no] _ _ _
      refine wc_filter (pr := pr2 turn) (show 6 < 8 by decide) _ (fun x hx => ?_) ?_
      · rw [← hL] at hx
        obtain ⟨hx1, hx2⟩ := List.mem_filter.mp hx
        obtain ⟨i, rfl, i0, i1⟩ := mem_rangeL hx1
        obtain ⟨s, rfl⟩ : ∃ s : Nat, i = (s : Int) := ⟨i.toNat, by omega⟩
        have et : (s : Int).toNat = s := rfl
        have ed : ((turn.length : Int) / (s : Int)) = ((turn.length / s : Nat) : Int) := rfl
        have ed2 : ((turn.length / s : Nat) : Int).toNat = turn.length / s := rfl
        show WE _ [.fr row, .fr (.lst (il lead)), .fr (.lst (il turn)), .fr (.lst L), .no, .no, .fr (.int s), .no] _ _
        repeat fold_depth
        refine ⟨_, (cut_to (by omega) (by omega)).2, ?_⟩
        repeat fold_depth
        refine ⟨_, opDiv_ok (by omega) (Int.lt_trans (b := 2 ^ 60) (by omega) (by decide +kernel)), ?_⟩
        rw [ed, et]
        have hd2 : turn.length / s * s ≤ turn.length := Nat.div_mul_le_self _ _
        have hdl : turn.length / s ≤ turn.length := Nat.div_le_self _ _
        refine ⟨_, mul_lst ?_ (by omega) (by omega), ?_⟩
        · rw [ed2, List.length_take, Nat.min_eq_left (by omega), Nat.mul_comm]; omega
        rw [ed2]
        repeat fold_depth
        exact ⟨rfl, rfl⟩
      · have hM : (rangeL 1 turn.length).filter (fun t => pr2 turn t && pr1 turn t) = L.filter (pr2 turn) := by rw [← hL, List.filter_filter]
        generalize L.filter (pr2 turn) = M at hM
        cases M with
        | nil =>
          exfalso
          have hg := good_all hne
          have : T.int (turn.length : Int) ∈ (rangeL 1 turn.length).filter (fun t => pr2 turn t && pr1 turn t) := List.mem_filter.mpr ⟨?_, ?_⟩
          · rw [hM] at this
            cases this
          · rw [rangeL_il]
            refine List.mem_map.mpr ⟨_, List.mem_map.mpr ⟨turn.length - 1, List.mem_range.mpr (by omega), rfl⟩, ?_⟩
            congr 1
            omega
          · show (decide _ && decide _) = true
            rw [Bool.and_eq_true, decide_eq_true_iff, decide_eq_true_iff]
            exact ⟨hg.2.2, by rw [Int.emod_self]⟩
        | cons t r =>
          obtain ⟨i, rfl, i0, i1, hp1, hp2⟩ := first_range hM
          obtain ⟨p, rfl⟩ : ∃ p : Nat, i = (p : Int) := ⟨i.toNat, by omega⟩
          have hG : ∀ s : Nat, 1 ≤ s → ((decide ((List.replicate (turn.length / s) (turn.take s)).flatten = turn) && decide ((turn.length : Int) % (s : Int) = 0)) = true ↔ Good turn s) := fun s hs => by
            rw [Bool.and_eq_true, decide_eq_true_iff, decide_eq_true_iff]
            exact ⟨fun h => ⟨by omega, by omega, h.1⟩, fun h => ⟨h.2.2, by have := h.2.1; omega⟩⟩
          have hp : IsPer turn p := by
            refine ⟨(hG p (by omega)).mp hp1, fun s hs hg => ?_⟩
            have h1 := hp2 s (by have := hg.1; omega) (by omega)
            have h2 := (hG s hg.1).mpr hg
            exact Bool.noConfusion (h1.symm.trans h2)
          have hp0 := hp.pos
          have hpl := hp.le hne
          repeat fold_depth
          refine ⟨_, ixL_ok (t := .int p) (by decide) rfl, ?_⟩
          repeat fold_depth
          show WS (sWhile _ _) [.fr row, .fr (.lst (il lead)), .fr (.lst (il turn)), .fr (.lst L), .fr (.int p), .fr (.int lead.length), .no, .no] _ _
          refine (ws_whileInv (fun m e s' => s' = st ∧ m ≤ lead.length ∧ (∀ j, m ≤ j → j < lead.length → seen lead turn j = seen lead turn (j + p)) ∧ e = [.fr row, .fr (.lst (il lead)), .fr (.lst (il turn)), .fr (.lst L), .fr (.int p), .fr (.int m), .no, .no])
            (fun e s' => s' = st ∧ ∃ b : Nat, IsB lead turn p b ∧ e = [.fr row, .fr (.lst (il lead)), .fr (.lst (il turn)), .fr (.lst L), .fr (.int p), .fr (.int b), .no, .no]) ?_ turns lead.length _ st ⟨rfl, Nat.le_refl _, fun j h1 h2 => by omega, rfl⟩ (Nat.lt_of_le_of_lt hl (by decide))).imp ?_
          · rintro m e s' ⟨rfl, hm, hj, rfl⟩
            repeat fold_depth
            refine dec_split (fun hm0 => ?_) (fun hm0 => ?_)
            · obtain ⟨m', rfl⟩ : ∃ m', m = m' + 1 := ⟨m - 1, by omega⟩
              have e1 : (((m' + 1 : Nat) : Int) - 1) = (m' : Int) := by omega
              repeat fold_depth
              rw [e1]
              refine ⟨_, ix_lst (i := ((m' : Nat) : Int)) (by omega) (show m' < lead.length by omega), ?_⟩
              repeat fold_depth
              rw [e1, ← hr]
              refine (wn_seen (i := m' + p) (by omega) hne).imp ?_
              rintro t s ⟨rfl, rfl⟩
              repeat fold_depth
              have es : lead[((m' : Nat) : Int).toNat]'(show m' < lead.length by omega) = seen lead turn m' := by
                rw [seen_near (by omega), getD_of (by omega)]; rfl
              rw [es]
              refine dec_split (fun hq => ?_) (fun hq => ?_)
              · repeat fold_depth
                rw [e1]
                refine ⟨rfl, m', by omega, rfl, by omega, fun j h1 h2 => ?_, rfl⟩
                by_cases h3 : j = m'
                · subst h3; exact hq
                · exact hj j (by omega) h2
              · exact ⟨rfl, m' + 1, ⟨hm, hj, .inr hq⟩, rfl⟩
            · exact ⟨fun z => Bool.noConfusion z, fun _ => ⟨rfl, m, ⟨hm, hj, .inl (by omega)⟩, rfl⟩⟩
          · rintro fl e s' ⟨rfl, rfl, b, hb, rfl⟩
            refine ⟨fun _ => ?_, fun z => absurd rfl z⟩
            have hbl := hb.l
            repeat fold_depth
            refine ⟨_, (cut_to (by omega) (by omega)).2, ?_⟩
            repeat fold_depth
            refine ⟨⟨by omega, by omega⟩, by rw [len_rangeL]; omega, ?_⟩
            show WC _ _ _ [.fr row, .fr (.lst (il lead)), .fr (.lst (il turn)), .fr (.lst L), .fr (.int p), .fr (.int b), .no, .no] _ _ _
            refine wc_map (fm := fun t => match t with | .int k => .int (seen lead turn (b + k.toNat)) | _ => .non) _ (fun x hx => ?_) ?_
            · obtain ⟨k, rfl, k0, k1⟩ := mem_rangeL hx
              obtain ⟨k, rfl⟩ : ∃ k' : Nat, k = (k' : Int) := ⟨k.toNat, by omega⟩
              show WE _ [.fr row, .fr (.lst (il lead)), .fr (.lst (il turn)), .fr (.lst L), .fr (.int p), .fr (.int b), .no, .fr (.int k)] _ _
              repeat fold_depth
              rw [← hr]
              have : ((b : Int) + (k : Int)) = ((b + k : Nat) : Int) := by omega
              rw [this]
              refine (wn_seen (i := b + k) (by omega) hne).imp ?_
              rintro t s ⟨rfl, rfl⟩
              exact ⟨rfl, rfl⟩
            · repeat fold_depth
              refine ⟨rfl, _, _, .inr ⟨hne, p, b, hp, hb, rfl, rfl⟩, ?_⟩
              have : (rangeL 0 (p : Int).toNat).map (fun t => match t with | .int k => .int (seen lead turn (b + k.toNat)) | _ => .non) = il (told lead turn p b) := by
                rw [rangeL_il]
                simp only [il, told, List.map_map]
                apply List.map_congr_left
                intro k _
                show T.int (seen lead turn (b + (0 + (k : Int)).toNat)) = T.int (seen lead turn (b + k))
                have : (0 + (k : Int)).toNat = k := by omega
                rw [this]
              rw [this]
              rfl

end Mp


set_option Elab.async false
set_option linter.all false
set_option maxRecDepth 100000
set_option maxHeartbeats 1000000
/-! Rv: rows of notes by their streams. -/
namespace Mp
open PySem
/-- q is a period of s from some place on -/
def Ev' (s : Nat → Int) (q : Nat) : Prop := ∃ M, ∀ i, M ≤ i → s (i + q) = s i
structure MinP (s : Nat → Int) (p : Nat) : Prop where
  pos : 0 < p
  ev : Ev' s p
  min : ∀ q, 0 < q → q < p → ¬ Ev' s q
theorem MinP.uniq {s : Nat → Int} {p q : Nat} (h : MinP s p) (h' : MinP s q) : p = q := by
  rcases Nat.lt_trichotomy p q with l | l | l
  · exact absurd h.ev (h'.min p h.pos l)
  · exact l
  · exact absurd h'.ev (h.min q h'.pos l)
theorem Ev'.sub {s : Nat → Int} {p q : Nat} (h : Ev' s p) (h' : Ev' s q) (l : p ≤ q) : Ev' s (q - p) := by
  obtain ⟨M, h⟩ := h
  obtain ⟨L, h'⟩ := h'
  refine ⟨max M L, fun i hi => ?_⟩
  have h1 := h (i + (q - p)) (by omega)
  have h2 := h' i (by omega)
  have e : i + (q - p) + p = i + q := by omega
  rw [e] at h1
  rw [← h1, h2]
/-- a common divisor that is a period too -/
theorem Ev'.gcd {s : Nat → Int} : ∀ (n : Nat) {p q : Nat}, p + q ≤ n → 0 < p → 0 < q → Ev' s p → Ev' s q → ∃ g, 0 < g ∧ g ∣ p ∧ g ∣ q ∧ Ev' s g
  | 0, p, q, h, hp, _, _, _ => by omega
  | n + 1, p, q, h, hp, hq, ep, eq => by
    rcases Nat.lt_trichotomy p q with l | l | l
    · obtain ⟨g, g0, g1, g2, g3⟩ := Ev'.gcd n (p := p) (q := q - p) (by omega) hp (by omega) ep (ep.sub eq (by omega))
      refine ⟨g, g0, g1, ?_, g3⟩
      have := Nat.dvd_add g1 g2
      have e : p + (q - p) = q := by omega
      rwa [e] at this
    · subst l
      exact ⟨p, hp, Nat.dvd_refl p, Nat.dvd_refl p, ep⟩
    · obtain ⟨g, g0, g1, g2, g3⟩ := Ev'.gcd n (p := p - q) (q := q) (by omega) (by omega) hq (eq.sub ep (by omega)) eq
      refine ⟨g, g0, ?_, g2, g3⟩
      have := Nat.dvd_add g1 g2
      have e : p - q + q = p := by omega
      rwa [e] at this
theorem seen_ev {lead turn : List Int} {p : Nat} (ht : turn ≠ []) (h : Good turn p) : Ev' (seen lead turn) p := by
  have hl : 0 < turn.length := List.length_pos_iff.mpr ht
  refine ⟨lead.length, fun i hi => ?_⟩
  rw [seen_far (by omega), seen_far hi, getD_good h (Nat.mod_lt _ hl), getD_good h (Nat.mod_lt (i - lead.length) hl), Nat.mod_mod_of_dvd _ (Nat.dvd_of_mod_eq_zero h.2.1), Nat.mod_mod_of_dvd _ (Nat.dvd_of_mod_eq_zero h.2.1)]
  have : i + p - lead.length = i - lead.length + p := by omega
  rw [this, Nat.add_mod_right]
theorem ev_mul {s : Nat → Int} {g M : Nat} (h : ∀ i, M ≤ i → s (i + g) = s i) : ∀ (k i : Nat), M ≤ i → s (i + g * k) = s i
  | 0, i, _ => by simp
  | k + 1, i, hi => by
    have e : i + g * (k + 1) = i + g * k + g := by rw [Nat.mul_add]; omega
    rw [e, h _ (Nat.le_trans hi (Nat.le_add_right _ _)), ev_mul h k i hi]
theorem ev_good {lead turn : List Int} {g : Nat} (ht : turn ≠ []) (g0 : 0 < g) (gd : g ∣ turn.length) (h : Ev' (seen lead turn) g) : Good turn g := by
  have hl : 0 < turn.length := List.length_pos_iff.mpr ht
  obtain ⟨M, h⟩ := h
  refine good_of_getD g0 (Nat.mod_eq_zero_of_dvd gd) fun k hk => ?_
  have hg : g ≤ turn.length := Nat.le_of_dvd hl gd
  have far : ∀ j, j < turn.length → turn.getD j 0 = seen lead turn (lead.length + turn.length * M + j) := fun j hj => by
    rw [seen_far (by omega)]
    have : lead.length + turn.length * M + j - lead.length = j + turn.length * M := by omega
    rw [this, Nat.add_mul_mod_self_left, Nat.mod_eq_of_lt hj]
  have hM : M ≤ lead.length + turn.length * M := Nat.le_trans (Nat.le_mul_of_pos_left M hl) (Nat.le_add_left _ _)
  have hk2 : k % g < turn.length := Nat.lt_of_lt_of_le (Nat.mod_lt _ g0) hg
  rw [far k hk, far (k % g) hk2]
  have := ev_mul h (k / g) (lead.length + turn.length * M + k % g) (Nat.le_trans hM (Nat.le_add_right _ _))
  rw [← this]
  congr 1
  have := Nat.mod_add_div k g
  omega
theorem per_min {lead turn : List Int} {p : Nat} (ht : turn ≠ []) (h : IsPer turn p) : MinP (seen lead turn) p := by
  have hl : 0 < turn.length := List.length_pos_iff.mpr ht
  have ev := seen_ev (lead := lead) ht h.g
  refine ⟨h.pos, ev, fun q q0 ql eq => ?_⟩
  obtain ⟨g, g0, g1, g2, g3⟩ := Ev'.gcd (p + q) (Nat.le_refl _) h.pos q0 ev eq
  have gq : g ≤ q := Nat.le_of_dvd q0 g2
  exact h.m g (by omega) (ev_good ht g0 (Nat.dvd_trans g1 (Nat.dvd_of_mod_eq_zero h.g.2.1)) g3)
theorem per_ex {turn : List Int} (ht : turn ≠ []) : ∃ p, IsPer turn p := by
  have : ∀ n, Good turn n → ∃ p, IsPer turn p := fun n => by
    induction n using Nat.strongRecOn with
    | ind n ih =>
      intro h
      by_cases e : ∃ s, s < n ∧ Good turn s
      · obtain ⟨s, h1, h2⟩ := e
        exact ih s h1 h2
      · exact ⟨n, h, fun s hs hg => e ⟨s, hs, hg⟩⟩
  exact this _ (good_all ht)
theorem min_per {lead turn : List Int} {p : Nat} (ht : turn ≠ []) (h : MinP (seen lead turn) p) : IsPer turn p := by
  obtain ⟨q, hq⟩ := per_ex ht
  rw [h.uniq (per_min ht hq)]
  exact hq
/-- from b on the notes come again after p, and no earlier -/
structure MinB (s : Nat → Int) (p b : Nat) : Prop where
  e : ∀ j, b ≤ j → s j = s (j + p)
  n : b = 0 ∨ s (b - 1) ≠ s (b - 1 + p)
theorem MinB.uniq {s : Nat → Int} {p b c : Nat} (h : MinB s p b) (h' : MinB s p c) : b = c := by
  rcases Nat.lt_trichotomy b c with l | l | l
  · rcases h'.n with n | n
    · omega
    · exact absurd (h.e (c - 1) (by omega)) n
  · exact l
  · rcases h.n with n | n
    · omega
    · exact absurd (h'.e (b - 1) (by omega)) n
theorem isB_min {lead turn : List Int} {p b : Nat} (ht : turn ≠ []) (h1 : Good turn p) (h : IsB lead turn p b) : MinB (seen lead turn) p b :=
  ⟨fun j hj => (seen_per h1 ht h hj).symm, h.n⟩
theorem take_seen {lead turn : List Int} {b : Nat} (h : b ≤ lead.length) : lead.take b = (List.range b).map (seen lead turn) := by
  apply List.ext_getElem?
  intro k
  by_cases hk : k < b
  · rw [List.getElem?_take_of_lt hk, List.getElem?_map, List.getElem?_range hk, List.getElem?_eq_getElem (by omega)]
    show _ = some (seen lead turn k)
    rw [seen_near (by omega), getD_of (by omega)]
  · rw [List.getElem?_eq_none (by rw [List.length_take]; omega), List.getElem?_eq_none (by simp; omega)]
/-- the least row goes by the notes alone -/
theorem LR.ext {lead turn lead' turn' A B A' B' : List Int} (ht : turn ≠ []) (ht' : turn' ≠ []) (hs : ∀ i, seen lead turn i = seen lead' turn' i) (h : LR lead turn A B) (h' : LR lead' turn' A' B') : A = A' ∧ B = B' := by
  have es : seen lead turn = seen lead' turn' := funext hs
  rcases h with ⟨e, _⟩ | ⟨_, p, b, h1, h2, rfl, rfl⟩
  · exact absurd e ht
  rcases h' with ⟨e, _⟩ | ⟨_, p', b', h1', h2', rfl, rfl⟩
  · exact absurd e ht'
  have m1 := per_min (lead := lead) ht h1
  have m2 := per_min (lead := lead') ht' h1'
  rw [← es] at m2
  have := m1.uniq m2
  subst this
  have b1 := isB_min ht h1.g h2
  have b2 := isB_min ht' h1'.g h2'
  rw [← es] at b2
  have := b1.uniq b2
  subst this
  refine ⟨?_, ?_⟩
  · rw [take_seen (turn := turn) h2.l, take_seen (turn := turn') h2'.l, es]
  · unfold told; rw [es]
theorem LR.ne {lead turn A B : List Int} (h : LR lead turn A B) : B = [] ↔ turn = [] := by
  rcases h with ⟨e, rfl, rfl⟩ | ⟨e, p, b, h1, h2, rfl, rfl⟩
  · exact ⟨fun _ => e, fun _ => rfl⟩
  · refine ⟨fun h => ?_, fun h => absurd h e⟩
    have : (told lead turn p b).length = 0 := by rw [h]; rfl
    rw [told_len] at this
    have := h1.pos
    omega
theorem LR.len {lead turn A B : List Int} (h : LR lead turn A B) : A.length ≤ lead.length ∧ B.length ≤ turn.length := by
  rcases h with ⟨e, rfl, rfl⟩ | ⟨e, p, b, h1, h2, rfl, rfl⟩
  · exact ⟨Nat.le_refl _, Nat.zero_le _⟩
  · exact ⟨by rw [List.length_take]; exact Nat.min_le_right _ _, by rw [told_len]; exact h1.le e⟩
/-- the least row tells the same notes -/
theorem LR.seen {lead turn A B : List Int} (h : LR lead turn A B) (i : Nat) : Mp.seen A B i = Mp.seen lead turn i := by
  rcases h with ⟨e, rfl, rfl⟩ | ⟨e, p, b, h1, h2, rfl, rfl⟩
  · rw [e]
  · have hl : (lead.take b).length = b := by rw [List.length_take]; have := h2.l; omega
    by_cases hi : i < b
    · rw [seen_near (by omega), seen_near (by have := h2.l; omega)]
      simp only [List.getD_eq_getElem?_getD]
      rw [List.getElem?_take_of_lt hi]
    · rw [seen_far (by omega), hl, told_len]
      have := seen_told h1.g e h2 (i - b)
      rw [← this]
      congr 1
      omega
theorem LR.self {lead turn A B : List Int} (h : LR lead turn A B) : LR A B A B := by
  have key : ∃ A' B', LR A B A' B' := by
    by_cases e : B = []
    · exact ⟨A, [], .inl ⟨e, rfl, rfl⟩⟩
    · obtain ⟨p, hp⟩ := per_ex e
      have : ∀ n, n ≤ A.length → (∀ j, n ≤ j → j < A.length → Mp.seen A B j = Mp.seen A B (j + p)) → ∃ b, IsB A B p b := fun n => by
        induction n with
        | zero => exact fun h1 h2 => ⟨0, h1, h2, .inl rfl⟩
        | succ n ih =>
          intro h1 h2
          by_cases q : Mp.seen A B n = Mp.seen A B (n + p)
          · refine ih (by omega) fun j h3 h4 => ?_
            by_cases hj : j = n
            · rw [hj]; exact q
            · exact h2 j (by omega) h4
          · exact ⟨n + 1, h1, h2, .inr q⟩
      obtain ⟨b, hb⟩ := this A.length (Nat.le_refl _) fun j h1 h2 => by omega
      exact ⟨_, _, .inr ⟨e, p, b, hp, hb, rfl, rfl⟩⟩
  obtain ⟨A', B', h'⟩ := key
  obtain ⟨e1, e2⟩ := h.idem h'
  rw [e1, e2] at h'
  exact h'
/-- turned on by so many -/
def rot (t : List Int) (s : Nat) : List Int := t.drop s ++ t.take s
theorem rot_len {t : List Int} {s : Nat} : (rot t s).length = t.length := by unfold rot; simp; omega
theorem rot_ne {t : List Int} {s : Nat} (h : t ≠ []) : rot t s ≠ [] := by
  intro e
  have : (rot t s).length = 0 := by rw [e]; rfl
  rw [rot_len] at this
  exact h (List.eq_nil_of_length_eq_zero this)
theorem rot_get {t : List Int} {s k : Nat} (hs : s < t.length) (hk : k < t.length) : (rot t s).getD k 0 = t.getD ((s + k) % t.length) 0 := by
  unfold rot
  simp only [List.getD_eq_getElem?_getD]
  by_cases h : k < t.length - s
  · rw [List.getElem?_append_left (by simp; omega), List.getElem?_drop, Nat.mod_eq_of_lt (by omega)]
  · rw [List.getElem?_append_right (by simp; omega)]
    have e : k - (t.drop s).length = s + k - t.length := by simp; omega
    have e2 : (s + k) % t.length = s + k - t.length := by
      rw [Nat.mod_eq_sub_mod (by omega), Nat.mod_eq_of_lt (by omega)]
    rw [e, e2, List.getElem?_take_of_lt (by omega)]
theorem seen_rot {lead turn : List Int} {m : Nat} (ht : turn ≠ []) (h : lead.length ≤ m) (i : Nat) : Mp.seen [] (rot turn ((m - lead.length) % turn.length)) i = Mp.seen lead turn (i + m) := by
  have hl : 0 < turn.length := List.length_pos_iff.mpr ht
  rw [seen_far (Nat.zero_le _), seen_far (by omega)]
  show (rot turn ((m - lead.length) % turn.length)).getD ((i - 0) % (rot turn ((m - lead.length) % turn.length)).length) 0 = _
  rw [rot_len, Nat.sub_zero, rot_get (Nat.mod_lt _ hl) (Nat.mod_lt _ hl), Nat.mod_add_mod, Nat.add_mod_mod]
  congr 2
  omega
theorem seen_drop {lead turn : List Int} {m : Nat} (h : m ≤ lead.length) (i : Nat) : Mp.seen (lead.drop m) turn i = Mp.seen lead turn (i + m) := by
  by_cases hi : i < lead.length - m
  · rw [seen_near (by simp; omega), seen_near (by omega)]
    simp only [List.getD_eq_getElem?_getD, List.getElem?_drop]
    rw [Nat.add_comm]
  · rw [seen_far (by simp; omega), seen_far (by omega)]
    congr 2
    simp; omega
/-- behind the lead of a least row the round is least -/
theorem LR.rot {lead turn A B : List Int} {m : Nat} (h : LR lead turn A B) (hB : B ≠ []) (hm : A.length ≤ m) : LR [] (Mp.rot B ((m - A.length) % B.length)) [] (Mp.rot B ((m - A.length) % B.length)) := by
  generalize hr : Mp.rot B ((m - A.length) % B.length) = r
  have ne : r ≠ [] := by rw [← hr]; exact rot_ne hB
  have hp : IsPer B B.length := by
    rcases h.self with ⟨e, _⟩ | ⟨_, p, b, h1, h2, e1, e2⟩
    · exact absurd e hB
    · have : B.length = p := by rw [e2, told_len]
      rw [this]; exact h1
  have ms : MinP (Mp.seen [] r) B.length := by
    obtain ⟨p0, ⟨M, pe⟩, pm⟩ := per_min (lead := A) hB hp
    have es : ∀ i, Mp.seen [] r i = Mp.seen A B (i + m) := fun i => by rw [← hr]; exact seen_rot hB hm i
    refine ⟨p0, ⟨M, fun i hi => ?_⟩, fun q q0 ql ⟨L, z⟩ => pm q q0 ql ⟨L + m, fun i hi => ?_⟩⟩
    · rw [es, es]
      have e : i + B.length + m = i + m + B.length := by omega
      rw [e, pe _ (by omega)]
    · have := z (i - m) (by omega)
      rw [es, es] at this
      have e1 : i - m + q + m = i + q := by omega
      have e2 : i - m + m = i := by omega
      rw [e1, e2] at this
      exact this
  have hr2 : IsPer r B.length := min_per ne ms
  have rl : r.length = B.length := by rw [← hr, rot_len]
  have hb : IsB [] r B.length 0 := ⟨Nat.le_refl _, fun j h1 h2 => by simp at h2, .inl rfl⟩
  refine .inr ⟨ne, _, _, hr2, hb, rfl, ?_⟩
  apply List.ext_getElem?
  intro k
  by_cases hk : k < B.length
  · have : (told [] r B.length 0)[k]? = some (Mp.seen [] r (0 + k)) := by simp [told, hk]
    rw [this, seen_far (Nat.zero_le _), rl]
    have e : (0 + k - ([] : List Int).length) % B.length = k := by
      show (0 + k - 0) % B.length = k
      rw [Nat.zero_add, Nat.sub_zero, Nat.mod_eq_of_lt hk]
    rw [e, getD_of (by omega), List.getElem?_eq_getElem (by omega)]
  · rw [List.getElem?_eq_none (by omega), List.getElem?_eq_none (by rw [told_len]; omega)]
end Mp


set_option Elab.async false
set_option linter.all false
set_option maxRecDepth 100000
set_option maxHeartbeats 1000000
/-! Rx: what the texts over rows reach. -/
namespace Mp
open PySem
/-- one step of a text, forwards -/
local macro_rules | `(tactic| fold_depth) => `(tactic| first
  | (with_reducible first
    | refine ws_seq.mpr ?_ | refine ws_if.mpr ?_ | refine ws_ret.mpr ?_ | refine ws_asgN.mpr ?_ | refine ws_asg.mpr ?_ | refine ws_ix.mpr ?_ | refine ws_nx.mpr ?_ | refine ws_par.mpr ?_ | refine ws_for.mpr ?_ | refine ws_shr.mpr ?_ | refine ws_aug.mpr ?_ | refine ws_upd.mpr ?_ | refine ws_own.mpr ?_ | refine ws_frz.mpr ?_ | refine ws_fl.mpr ?_ | refine ws_expr.mpr ?_ | refine ws_raise.mpr ?_
    | refine we_ev2.mpr ?_ | refine we_ev2S.mpr ?_ | refine we_ev3S.mpr ?_ | refine we_ev1S.mpr ?_ | refine we_ev1.mpr ?_ | refine we_con.mpr ?_ | refine we_testV.mpr ?_
    | refine we_callP.mpr ?_ | refine we_cons.mpr ?_ | refine we_nil.mpr ?_ | refine we_evN.mpr ?_ | refine we_andB.mpr ?_ | refine we_orB.mpr ?_ | refine we_notT.mpr ?_ | refine we_andV.mpr ?_ | refine we_notV.mpr ?_ | refine we_orV.mpr ?_ | refine we_ite.mpr ?_ | refine we_chain.mpr ?_
    | refine we_bind.mpr ?_ | refine we_pure.mpr ?_ | refine we_part.mpr ?_ | refine we_itRng1.mpr ?_ | refine we_itRng2.mpr ?_ | refine we_itSeq.mpr ?_ | refine we_comp1.mpr ?_ | refine we_itEnum.mpr ?_ | refine we_peek.mpr ?_ | refine we_ownV.mpr ?_ | refine we_var.mpr ?_
    | refine ⟨_, len_tup, ?_⟩ | refine ⟨_, len_lst, ?_⟩ | refine ⟨_, neN, ?_⟩ | refine ⟨_, eqI, ?_⟩ | refine ⟨_, eqB, ?_⟩ | refine ⟨_, eq_int, ?_⟩ | refine ⟨_, ne_int, ?_⟩ | refine ⟨_, eq_tup, ?_⟩ | refine ⟨_, eq_lst, ?_⟩ | refine ⟨_, ne_tup, ?_⟩ | refine ⟨_, ne_lst, ?_⟩)
  | refine ⟨fun (_ : Fl.nx = Fl.nx) => ?_, fun (z : Fl.nx ≠ Fl.nx) => absurd rfl z⟩ | refine ⟨fun (z : Fl.ret _ = Fl.nx) => Fl.noConfusion z, fun _ => ?_⟩ | refine fun (_ : Fl.ret _ ≠ Fl.nx) => ?_
  | refine ⟨fun (_ : true = true) => ?_, fun (z : true = false) => Bool.noConfusion z⟩ | refine ⟨fun (z : false = true) => Bool.noConfusion z, fun (_ : false = false) => ?_⟩
  | (fail_if_success (with_reducible refine isCut ?_)
     fail_if_success (with_reducible refine isMul ?_)
     fail_if_success (with_reducible refine isDiv ?_)
     first | refine ⟨.bl true, rfl, ?_⟩ | refine ⟨.bl false, rfl, ?_⟩ | refine ⟨true, rfl, ?_⟩ | refine ⟨false, rfl, ?_⟩ | refine ⟨_, rfl, ?_⟩))

/-- a told row, a row of lists -/
abbrev tRow (A B : List Int) : T := .tup [.tup (il A), .tup (il B)]
abbrev lRow (A B : List Int) : T := .tup [.lst (il A), .lst (il B)]
section
variable {st : Store} {Q : T → Store → Prop} {E : Str → List T → Store → Prop}
theorem row1 {lead turn : List Int} {x y : T} (hx : x = .tup (il lead) ∨ x = .lst (il lead)) (hy : y = .tup (il turn) ∨ y = .lst (il turn)) (hl : lead.length ≤ 1000) (ht : turn.length ≤ 1000)
    (q : ∀ A B, LR lead turn A B → Q (tRow A B) st) : WNX F_least_row [x, y] st Q E :=
  (wn_least_row hx hy hl ht).imp fun t s h => by
    obtain ⟨rfl, A, B, h1, h2, h3, rfl⟩ := h
    exact q A B h1
theorem least1 {lead turn : List Int} (hl : lead.length ≤ 1000) (ht : turn.length ≤ 1000) (q : ∀ A B, LR lead turn A B → Q (tRow A B) st) : WNX F_least [lRow lead turn] st Q E :=
  (wn_least hl ht).imp fun t s h => by
    obtain ⟨rfl, A, B, h1, rfl⟩ := h
    exact q A B h1
theorem ix_at {xs : List Int} {i : Int} (h0 : 0 ≤ i) (h : i.toNat < xs.length) : opIx st (.tup (il xs)) (.int i) = some (.int (xs.getD i.toNat 0)) ∧ opIx st (.lst (il xs)) (.int i) = some (.int (xs.getD i.toNat 0)) := by
  rw [getD_of h]
  exact ⟨ix_tup h0 h, ix_lst h0 h⟩
theorem far_ix {lead turn : List Int} {d : Int} (h0 : (lead.length : Int) ≤ d) (ht : turn ≠ []) : 0 ≤ (d - lead.length) % (turn.length : Int) ∧ ((d - lead.length) % (turn.length : Int)).toNat < turn.length ∧ turn.getD ((d - lead.length) % (turn.length : Int)).toNat 0 = seen lead turn d.toNat := by
  have hl : 0 < turn.length := List.length_pos_iff.mpr ht
  have e : (d - lead.length) % (turn.length : Int) = (((d.toNat - lead.length) % turn.length : Nat) : Int) := by
    have e1 : d - (lead.length : Int) = ((d.toNat - lead.length : Nat) : Int) := by omega
    rw [e1]; rfl
  have hm : (d.toNat - lead.length) % turn.length < turn.length := Nat.mod_lt _ hl
  rw [e]
  refine ⟨by omega, by omega, ?_⟩
  rw [seen_far (by omega)]
  rfl
theorem note1 {A B : List Int} {d : Int} (h1 : 0 ≤ d → (d < A.length ∨ B ≠ []) → Q (.int (seen A B d.toNat)) st) (h2 : (d < 0 ∨ ((A.length : Int) ≤ d ∧ B = [])) → E "NoNote" [.int d, .str "NoNote"] st) : WNX F_note_at [tRow A B, .int d] st Q E := by
  refine wn_go rfl ?_
  show WSX S_note_at [.fr (tRow A B), .fr (.int d), .no, .no] st _ _
  unfold S_note_at
  refine ws_seq.mpr (ws_asg.mpr (we_var.mpr ⟨_, rfl, _, rfl, ⟨fun _ => ?_, fun z => absurd rfl z⟩⟩))
  show WSX _ [.fr (tRow A B), .fr (.int d), .fr (.tup (il A)), .fr (.tup (il B))] st _ _
  have goal2 : (d < 0 ∨ ((A.length : Int) ≤ d ∧ B = [])) → E "NoNote" [.int d, .str "NoNote"] st := h2
  have good : 0 ≤ d → (d < A.length ∨ B ≠ []) → WSX (sRet (iteE (testV (ev2 opLt (var 1) (ev1S lenT (var 2)))) (ev2S opIx (var 2) (var 1)) (ev2S opIx (var 3) (ev2 opMod (ev2 opSub (var 1) (ev1S lenT (var 2))) (ev1S lenT (var 3)))))) [.fr (tRow A B), .fr (.int d), .fr (.tup (il A)), .fr (.tup (il B))] st (endQ Q) E := fun h0 hv => by
    have q := h1 h0 hv
    repeat fold_depth
    refine dec_split (fun h => ?_) (fun h => ?_)
    · repeat fold_depth
      refine ⟨_, (ix_at h0 (by omega)).1, ?_⟩
      rw [seen_near (by omega)] at q
      exact q
    · have hB : B ≠ [] := hv.resolve_left h
      obtain ⟨f1, f2, f3⟩ := far_ix (lead := A) (d := d) (by omega) hB
      have hl : 0 < B.length := List.length_pos_iff.mpr hB
      repeat fold_depth
      refine ⟨_, opMod_ok (by omega), ?_⟩
      refine ⟨_, (ix_at f1 f2).1, ?_⟩
      rw [f3]
      exact q
  repeat fold_depth
  refine dec_split (fun h => ?_) (fun h => ?_)
  · refine ⟨fun _ => ?_, fun z => Bool.noConfusion z⟩
    repeat fold_depth
    exact ⟨rfl, h2 (.inl h)⟩
  · repeat fold_depth
    refine dec_split (fun h3 => ?_) (fun h3 => ?_)
    · repeat fold_depth
      refine ⟨_, eq_tup (ys := []), _, rfl, dec_split (fun h4 => ?_) (fun h4 => ?_)⟩
      · repeat fold_depth
        exact ⟨rfl, h2 (.inr ⟨h3, h4⟩)⟩
      · repeat (first | (exact good (by omega) (.inr h4)) | fold_depth)
    · refine ⟨fun z => Bool.noConfusion z, fun _ => ?_⟩
      repeat (first | (exact good (by omega) (.inl (by omega))) | fold_depth)
theorem seen1 {lead turn : List Int} {d : Int} (h1 : 0 ≤ d → (d < lead.length ∨ turn ≠ []) → Q (.int (seen lead turn d.toNat)) st) (h2 : (d < 0 ∨ ((lead.length : Int) ≤ d ∧ turn = [])) → Q .non st) : WNX F_seen [lRow lead turn, .int d] st Q E := by
  refine wn_go rfl ?_
  show WSX S_seen [.fr (lRow lead turn), .fr (.int d), .no, .no] st _ _
  unfold S_seen
  refine ws_seq.mpr (ws_asg.mpr (we_var.mpr ⟨_, rfl, _, rfl, ⟨fun _ => ?_, fun z => absurd rfl z⟩⟩))
  show WSX _ [.fr (lRow lead turn), .fr (.int d), .fr (.lst (il lead)), .fr (.lst (il turn))] st _ _
  repeat fold_depth
  refine dec_split (fun h0 => ?_) (fun h0 => ?_)
  · repeat fold_depth
    refine dec_split (fun h => ?_) (fun h => ?_)
    · repeat fold_depth
      refine ⟨_, (ix_at h0 (by omega)).2, ?_⟩
      have q := h1 h0 (.inl h)
      rw [seen_near (by omega)] at q
      repeat fold_depth
      exact q
    · repeat fold_depth
      refine dec_split (fun h => by omega) (fun h3 => ?_)
      repeat fold_depth
      refine ⟨_, eq_lst (ys := []), _, rfl, dec_split (fun h4 => ?_) (fun h4 => ?_)⟩
      · repeat fold_depth
        exact h2 (.inr ⟨by omega, h4⟩)
      · obtain ⟨f1, f2, f3⟩ := far_ix (lead := lead) (d := d) (by omega) h4
        have hl : 0 < turn.length := List.length_pos_iff.mpr h4
        repeat fold_depth
        refine ⟨_, opMod_ok (by omega), ?_⟩
        refine ⟨_, (ix_at f1 f2).2, ?_⟩
        rw [f3]
        exact h1 h0 (.inr h4)
  · repeat fold_depth
    refine dec_split (fun h => ?_) (fun h => by omega)
    repeat fold_depth
    exact h2 (.inl (by omega))
theorem behind1 {A B : List Int} {m : Int} (h0 : 0 ≤ m) (hA : A.length ≤ 1000) (hB : B.length ≤ 1000) (h1 : m ≤ A.length → ∀ A' B', LR (A.drop m.toNat) B A' B' → Q (tRow A' B') st) (h2 : (A.length : Int) < m → B = [] → E "NoNote" [.int A.length, .str "NoNote"] st)
    (h3 : (A.length : Int) < m → B ≠ [] → Q (tRow [] (rot B ((m.toNat - A.length) % B.length))) st) : WNX F_behind [tRow A B, .int m] st Q E := by
  refine wn_go rfl ?_
  show WSX S_behind [.fr (tRow A B), .fr (.int m), .no, .no, .no] st _ _
  unfold S_behind
  refine ws_seq.mpr (ws_asg.mpr (we_var.mpr ⟨_, rfl, _, rfl, ⟨fun _ => ?_, fun z => absurd rfl z⟩⟩))
  show WSX _ [.fr (tRow A B), .fr (.int m), .fr (.tup (il A)), .fr (.tup (il B)), .no] st _ _
  repeat fold_depth
  refine dec_split (fun h => ?_) (fun h => ?_)
  · repeat fold_depth
    refine ⟨_, (cut_from h0 (by omega)).1, ?_⟩
    repeat fold_depth
    refine row1 (lead := A.drop m.toNat) (turn := B) (.inl rfl) (.inl rfl) (by simp; omega) hB fun A' B' hr => ?_
    exact ⟨fun z => Fl.noConfusion z, fun _ => h1 h A' B' hr⟩
  · repeat fold_depth
    refine ⟨_, eq_tup (ys := []), _, rfl, dec_split (fun h4 => ?_) (fun h4 => ?_)⟩
    · repeat fold_depth
      exact ⟨rfl, h2 (by omega) h4⟩
    · have hl : 0 < B.length := List.length_pos_iff.mpr h4
      have e : (m - A.length) % (B.length : Int) = (((m.toNat - A.length) % B.length : Nat) : Int) := by
        have e1 : m - (A.length : Int) = ((m.toNat - A.length : Nat) : Int) := by omega
        rw [e1]; rfl
      have hm : (m.toNat - A.length) % B.length < B.length := Nat.mod_lt _ hl
      generalize hk : (m.toNat - A.length) % B.length = k at e hm
      repeat fold_depth
      refine ⟨_, opMod_ok (by omega), ?_⟩
      rw [e]
      show (Fl.nx = Fl.nx → WSX _ [.fr (tRow A B), .fr (.int m), .fr (.tup (il A)), .fr (.tup (il B)), .fr (.int k)] st _ _) ∧ _
      repeat fold_depth
      refine ⟨_, (cut_from (by omega) (by omega)).1, ?_⟩
      repeat fold_depth
      refine ⟨_, (cut_to (by omega) (by omega)).1, ?_⟩
      refine ⟨_, add_tup (by simp; omega), ?_⟩
      repeat fold_depth
      have q := h3 (by omega) h4
      rw [hk] at q
      exact q
theorem has1 {lead turn : List Int} {m : Int} (q : Q (.bl (decide (turn ≠ [] ∨ m ≤ lead.length))) st) : WNX F_has [lRow lead turn, .int m] st Q E := by
  refine wn_go rfl ?_
  show WSX S_has [.fr (lRow lead turn), .fr (.int m)] st _ _
  unfold S_has
  repeat fold_depth
  refine ⟨_, ne_lst (ys := []), _, rfl, dec_splitN (fun h => ?_) (fun h => ?_)⟩
  · have : decide (turn ≠ [] ∨ m ≤ lead.length) = true := decide_eq_true (.inl h)
    rw [this] at q
    exact q
  · repeat fold_depth
    have : decide (turn ≠ [] ∨ m ≤ lead.length) = decide (m ≤ (lead.length : Int)) := by
      rw [h]; simp
    rw [this] at q
    exact q
theorem cut1 {lead turn : List Int} {m : Int} (h0 : 0 ≤ m) (hl : lead.length ≤ 1000) (hr : turn.length ≤ 1000) (h1 : m ≤ lead.length → Q (lRow (lead.drop m.toNat) turn) st)
    (h3 : (lead.length : Int) < m → Q (lRow [] (rot turn ((m.toNat - lead.length) % turn.length))) st) (ht : (lead.length : Int) < m → turn ≠ []) : WNX F_cut [lRow lead turn, .int m] st Q E := by
  refine wn_go rfl ?_
  show WSX S_cut [.fr (lRow lead turn), .fr (.int m), .no, .no, .no] st _ _
  unfold S_cut
  refine ws_seq.mpr (ws_asg.mpr (we_var.mpr ⟨_, rfl, _, rfl, ⟨fun _ => ?_, fun z => absurd rfl z⟩⟩))
  show WSX _ [.fr (lRow lead turn), .fr (.int m), .fr (.lst (il lead)), .fr (.lst (il turn)), .no] st _ _
  repeat fold_depth
  refine dec_split (fun h => ?_) (fun h => ?_)
  · repeat fold_depth
    refine ⟨_, (cut_from h0 (by omega)).2, ?_⟩
    repeat fold_depth
    exact h1 h
  · have h4 := ht (by omega)
    have hl : 0 < turn.length := List.length_pos_iff.mpr h4
    have e : (m - lead.length) % (turn.length : Int) = (((m.toNat - lead.length) % turn.length : Nat) : Int) := by
      have e1 : m - (lead.length : Int) = ((m.toNat - lead.length : Nat) : Int) := by omega
      rw [e1]; rfl
    have hm : (m.toNat - lead.length) % turn.length < turn.length := Nat.mod_lt _ hl
    generalize hk : (m.toNat - lead.length) % turn.length = k at e hm
    repeat fold_depth
    refine ⟨_, opMod_ok (by omega), ?_⟩
    rw [e]
    show (Fl.nx = Fl.nx → WSX _ [.fr (lRow lead turn), .fr (.int m), .fr (.lst (il lead)), .fr (.lst (il turn)), .fr (.int k)] st _ _) ∧ _
    repeat fold_depth
    refine ⟨_, (cut_from (by omega) (by omega)).2, ?_⟩
    repeat fold_depth
    refine ⟨_, (cut_to (by omega) (by omega)).2, ?_⟩
    refine ⟨_, add_lst (by simp; omega), ?_⟩
    repeat fold_depth
    have q := h3 (by omega)
    rw [hk] at q
    exact q
end
end Mp


set_option Elab.async false
set_option linter.all false
set_option maxRecDepth 100000
set_option maxHeartbeats 1000000
/-! Ry: rows drawn from the bag. -/
namespace Mp
open PySem
/-- one step of a text, forwards -/
local macro_rules | `(tactic| fold_depth) => `(tactic| first
  | (with_reducible first
    | refine ws_seq.mpr ?_ | refine ws_if.mpr ?_ | refine ws_ret.mpr ?_ | refine ws_asgN.mpr ?_ | refine ws_asg.mpr ?_ | refine ws_ix.mpr ?_ | refine ws_nx.mpr ?_ | refine ws_par.mpr ?_ | refine ws_for.mpr ?_ | refine ws_shr.mpr ?_ | refine ws_aug.mpr ?_ | refine ws_upd.mpr ?_ | refine ws_own.mpr ?_ | refine ws_frz.mpr ?_ | refine ws_fl.mpr ?_ | refine ws_expr.mpr ?_ | refine ws_raise.mpr ?_
    | refine we_ev2.mpr ?_ | refine we_ev2S.mpr ?_ | refine we_ev3S.mpr ?_ | refine we_ev1S.mpr ?_ | refine we_ev1.mpr ?_ | refine we_con.mpr ?_ | refine we_testV.mpr ?_
    | refine we_callP.mpr ?_ | refine we_cons.mpr ?_ | refine we_nil.mpr ?_ | refine we_evN.mpr ?_ | refine we_andB.mpr ?_ | refine we_orB.mpr ?_ | refine we_notT.mpr ?_ | refine we_andV.mpr ?_ | refine we_notV.mpr ?_ | refine we_orV.mpr ?_ | refine we_ite.mpr ?_ | refine we_chain.mpr ?_
    | refine we_bind.mpr ?_ | refine we_pure.mpr ?_ | refine we_part.mpr ?_ | refine we_itRng1.mpr ?_ | refine we_itRng2.mpr ?_ | refine we_itSeq.mpr ?_ | refine we_comp1.mpr ?_ | refine we_itEnum.mpr ?_ | refine we_peek.mpr ?_ | refine we_ownV.mpr ?_ | refine we_var.mpr ?_
    | refine ⟨_, len_tup, ?_⟩ | refine ⟨_, len_lst, ?_⟩ | refine ⟨_, neN, ?_⟩ | refine ⟨_, eqI, ?_⟩ | refine ⟨_, eqB, ?_⟩ | refine ⟨_, eq_int, ?_⟩ | refine ⟨_, ne_int, ?_⟩ | refine ⟨_, eq_tup, ?_⟩ | refine ⟨_, eq_lst, ?_⟩ | refine ⟨_, ne_tup, ?_⟩ | refine ⟨_, ne_lst, ?_⟩)
  | refine ⟨fun (_ : Fl.nx = Fl.nx) => ?_, fun (z : Fl.nx ≠ Fl.nx) => absurd rfl z⟩ | refine ⟨fun (z : Fl.ret _ = Fl.nx) => Fl.noConfusion z, fun _ => ?_⟩ | refine fun (_ : Fl.ret _ ≠ Fl.nx) => ?_
  | refine ⟨fun (_ : true = true) => ?_, fun (z : true = false) => Bool.noConfusion z⟩ | refine ⟨fun (z : false = true) => Bool.noConfusion z, fun (_ : false = false) => ?_⟩
  | (fail_if_success (with_reducible refine isCut ?_)
     fail_if_success (with_reducible refine isMul ?_)
     fail_if_success (with_reducible refine isDiv ?_)
     first | refine ⟨.bl true, rfl, ?_⟩ | refine ⟨.bl false, rfl, ?_⟩ | refine ⟨true, rfl, ?_⟩ | refine ⟨false, rfl, ?_⟩ | refine ⟨_, rfl, ?_⟩))

theorem il_at : ∀ {cols : List Int} {done rest : List T} {x : T}, done ++ x :: rest = il cols → ∃ c, cols[done.length]? = some c ∧ x = .int c
  | [], done, rest, x, h => by cases done <;> cases h
  | c :: cols, [], rest, x, h => by cases h; exact ⟨c, rfl, rfl⟩
  | c :: cols, y :: done, rest, x, h => by
    have h : y :: (done ++ x :: rest) = .int c :: il cols := h
    injection h with h1 h2
    obtain ⟨d, e1, e2⟩ := il_at h2
    exact ⟨d, by simpa using e1, e2⟩
abbrev encR (r : List Int × List Int) : T := lRow r.1 r.2
structure RowOk (most : Int) (c : Int) (r : List Int × List Int) : Prop where
  a : (r.1.length : Int) ≤ most
  b : r.2.length ≤ 4
  x : ∀ x ∈ r.1, 0 ≤ x ∧ x < c
  y : ∀ x ∈ r.2, 0 ≤ x ∧ x < c
def RowsOk (most : Int) (cols : List Int) (rs : List (List Int × List Int)) : Prop := ∀ (i : Nat) c r, cols[i]? = some c → rs[i]? = some r → RowOk most c r
theorem RowsOk.snoc {most : Int} {cols : List Int} {rs : List (List Int × List Int)} {c : Int} {r : List Int × List Int} (h : RowsOk most cols rs) (hc : cols[rs.length]? = some c) (hr : RowOk most c r) : RowsOk most cols (rs ++ [r]) := by
  intro i c' r' h1 h2
  by_cases hi : i < rs.length
  · rw [List.getElem?_append_left hi] at h2
    exact h i c' r' h1 h2
  · rw [List.getElem?_append_right (by omega)] at h2
    have : i = rs.length := by
      have := (List.getElem?_eq_some_iff.mp h2).1
      simp at this
      omega
    subst this
    rw [hc] at h1
    cases h1
    simp at h2
    subst h2
    exact hr
/-- [pull(size) for _ in ..], the size a name -/
theorem wc_draw {n N : Nat} {size : Int} {env : En} {s0 st : Store} {i i2 j : Nat} {Q : List T → Store → Prop} (h : Bg n N s0 st) (h0 : 0 < size) (h1 : size < 2 ^ 200) (hi : env[i]? = some (.fr (.obj n))) (hi2 : env[i2]? = some (.fr (.int size))) (hij : i ≠ j) (hij2 : i2 ≠ j)
    (xs : List T) (hN : N + xs.length < 2 ^ 60) (q : ∀ (ys : List Int) st', ys.length = xs.length → (∀ y ∈ ys, 0 ≤ y ∧ y < size) → Bg n (N + xs.length) s0 st' → Q (il ys) st') :
    WC (.name j) tYes (callP F_pull [var i, var i2]) env xs st Q := by
  induction xs generalizing N st Q with
  | nil => exact wc_nil.mpr (q [] st rfl (fun y hy => by cases hy) h)
  | cons x xs ih =>
    refine wc_cons.mpr ⟨_, rfl, we_pure.mpr ⟨fun _ => ?_, fun z => Bool.noConfusion z⟩⟩
    have v : (env.set j (.fr x))[i]? = some (.fr (.obj n)) := by rw [List.getElem?_set_ne (Ne.symm hij), hi]
    have v2 : (env.set j (.fr x))[i2]? = some (.fr (.int size)) := by rw [List.getElem?_set_ne (Ne.symm hij2), hi2]
    have hl : (x :: xs).length = xs.length + 1 := rfl
    refine we_callP.mpr (we_cons.mpr (we_var.mpr ⟨_, v, we_cons.mpr (we_var.mpr ⟨_, v2, we_nil.mpr ?_⟩)⟩))
    refine pull1 h h0 h1 (by omega) fun r st' r0 r1 hb' => ih hb' (by omega) fun ys st2 hy hr hb2 => ?_
    refine q (r :: ys) st2 (by rw [List.length_cons, hy, hl]) (fun y hy => ?_) (hb2.up (by omega))
    rcases List.mem_cons.mp hy with rfl | hy
    · exact ⟨r0, r1⟩
    · exact hr y hy
section
variable {s0 st : Store} {Q : T → Store → Prop} {E : Str → List T → Store → Prop}
theorem far1 {n N : Nat} (h : Bg n N s0 st) (hN : N < 2 ^ 60) (q : ∀ (r : Int) st', 0 ≤ r → Bg n (N + 1) s0 st' → Q (.int r) st') : WNX F_far [.obj n] st Q E := by
  refine wn_go rfl ?_
  show WSX S_far [.fr (.obj n)] st _ _
  unfold S_far
  repeat fold_depth
  exact pull1 h (by decide) (by decide) hN fun r st' r0 _ h' => q r st' r0 h'
theorem rows1 {n N : Nat} {cols : List Int} {most ever : Int} (h : Bg n N s0 st) (hc : ∀ c ∈ cols, 0 < c ∧ c < 2 ^ 60) (hm : 0 ≤ most ∧ most ≤ 1000) (he : ever < 2 ^ 60) (hl : cols.length ≤ 1000) (hN : N + 1010 * cols.length < 2 ^ 60)
    (q : ∀ rs st', rs.length = cols.length → RowsOk most cols rs → Bg n (N + 1010 * cols.length) s0 st' → Q (.lst (rs.map encR)) st') : WNX F_rows [.obj n, .lst (il cols), .int most, .int ever] st Q E := by
  refine wn_go rfl ?_
  show WSX S_rows [.fr (.obj n), .fr (.lst (il cols)), .fr (.int most), .fr (.int ever), .no, .no, .no, .no, .no] st _ _
  unfold S_rows
  refine ws_seq.mpr (ws_own.mpr (we_evN.mpr (we_nil.mpr ⟨_, rfl, _, rfl, fun _ => ?_, fun z => absurd rfl z⟩)))
  show WSX _ [.fr (.obj n), .fr (.lst (il cols)), .fr (.int most), .fr (.int ever), .own (.lst []), .no, .no, .no, .no] st _ _
  refine ws_seq.mpr (ws_for.mpr (we_itSeq.mpr (we_var.mpr ⟨_, rfl, .inl ⟨_, .inl rfl, ?_⟩⟩)))
  have step := ws_forRet (E := E) (g := .name 5) (all := il cols) (body := sSeq (sAsg (.name 6) (comp1 [8] (itRng1 (callP F_pull [var 0, ev2 opAdd (var 2) (con (.int 1))])) (.name 8) tYes (callP F_pull [var 0, var 5]))) (sSeq (sAsg (.name 7) (evN mkLst [])) (sSeq (sIf (andB (testV (ev2 opGt (var 3) (con (.int 0)))) (testV (ev2 opEq (callP F_pull [var 0, var 3]) (con (.int 0))))) (sAsg (.name 7) (comp1 [8] (itRng1 (ev2 opAdd (con (.int 1)) (callP F_pull [var 0, con (.int 4)]))) (.name 8) tYes (callP F_pull [var 0, var 5]))) (sNx)) (sUpd 4 (evL [evN mkTup [var 6, var 7]]) opApp))))
    (fun done e s => ∃ rs : List (List Int × List Int), rs.length = done.length ∧ RowsOk most cols rs ∧ (∃ a b c, e = [.fr (.obj n), .fr (.lst (il cols)), .fr (.int most), .fr (.int ever), .own (.lst (rs.map encR)), a, b, c, .no]) ∧ Bg n (N + 1010 * done.length) s0 s) (fun _ _ => False) ?_ (il cols) [] [.fr (.obj n), .fr (.lst (il cols)), .fr (.int most), .fr (.int ever), .own (.lst []), .no, .no, .no, .no] st rfl ⟨[], rfl, fun i c r _ h => (by cases h), ⟨_, _, _, rfl⟩, h⟩
  · refine step.impE ?_
    rintro fl e s (⟨rfl, rs, h1, h2, ⟨a, b, c, rfl⟩, h3⟩ | ⟨t, rfl, h⟩)
    · rw [il_len] at h1 h3
      refine ⟨fun _ => ?_, fun z => absurd rfl z⟩
      repeat fold_depth
      exact q rs s h1 h2 h3
    · exact h.elim
  · rintro x done rest en s hd ⟨rs, h1, h2, ⟨a, b, c, rfl⟩, hb⟩
    obtain ⟨col, hcol, rfl⟩ := il_at hd
    have hdl : done.length < cols.length := (List.getElem?_eq_some_iff.mp hcol).1
    obtain ⟨c0, c1⟩ := hc col (List.mem_of_getElem? hcol)
    refine ⟨_, rfl, ?_⟩
    show WSX _ [.fr (.obj n), .fr (.lst (il cols)), .fr (.int most), .fr (.int ever), .own (.lst (rs.map encR)), .fr (.int col), b, c, .no] s _ _
    have hN' : N + 1010 * done.length + 1010 < 2 ^ 60 := by omega
    generalize hM : N + 1010 * done.length = M at hb hN'
    repeat fold_depth
    refine pull1 hb (by omega) (Int.lt_trans (b := 2 ^ 60) (by omega) (by decide +kernel)) (by omega) fun r s1 r0 r1 hb1 => ?_
    refine ⟨r, rfl, ⟨by omega, by omega⟩, by rw [len_rangeL]; omega, ?_⟩
    show WC _ _ (callP F_pull [var 0, var 5]) [.fr (.obj n), .fr (.lst (il cols)), .fr (.int most), .fr (.int ever), .own (.lst (rs.map encR)), .fr (.int col), b, c, .no] _ _ _
    refine wc_draw (n := n) (i := 0) (i2 := 5) (size := col) hb1 c0 (Int.lt_trans c1 (by decide +kernel)) rfl rfl (by decide) (by decide) _ (by rw [len_rangeL]; omega) fun lead s2 l1 l2 hb2 => ?_
    rw [len_rangeL] at l1 hb2
    refine ⟨fun _ => ?_, fun z => absurd rfl z⟩
    show WSX _ [.fr (.obj n), .fr (.lst (il cols)), .fr (.int most), .fr (.int ever), .own (.lst (rs.map encR)), .fr (.int col), .fr (.lst (il lead)), c, .no] s2 _ _
    refine ws_seq.mpr (ws_asgN.mpr (we_evN.mpr (we_nil.mpr ⟨_, rfl, fun _ => ?_, fun z => absurd rfl z⟩)))
    show WSX _ [.fr (.obj n), .fr (.lst (il cols)), .fr (.int most), .fr (.int ever), .own (.lst (rs.map encR)), .fr (.int col), .fr (.lst (il lead)), .fr (.lst (il [])), .no] s2 _ _
    have fin : ∀ turn s3, turn.length ≤ 4 → (∀ x ∈ turn, 0 ≤ x ∧ x < col) → Bg n (M + 1010) s0 s3 → WSX (sUpd 4 (evL [evN mkTup [var 6, var 7]]) opApp) [.fr (.obj n), .fr (.lst (il cols)), .fr (.int most), .fr (.int ever), .own (.lst (rs.map encR)), .fr (.int col), .fr (.lst (il lead)), .fr (.lst (il turn)), .no] s3
        (fun fl e s => (fl = .nx ∧ ∃ rs : List (List Int × List Int), rs.length = (done ++ [T.int col]).length ∧ RowsOk most cols rs ∧ (∃ a b c, e = [.fr (.obj n), .fr (.lst (il cols)), .fr (.int most), .fr (.int ever), .own (.lst (rs.map encR)), a, b, c, .no]) ∧ Bg n (N + 1010 * (done ++ [T.int col]).length) s0 s) ∨ ∃ t, fl = .ret t ∧ False) E := fun turn s3 t1 t2 hb3 => by
      refine ws_upd.mpr ⟨rfl, we_cons.mpr (we_evN.mpr (we_cons.mpr (we_var.mpr ⟨_, rfl, we_cons.mpr (we_var.mpr ⟨_, rfl, we_nil.mpr ⟨_, rfl, we_nil.mpr ?_⟩⟩)⟩)))⟩
      have hrl : (rs.map encR).length < 100000 := by rw [List.length_map]; omega
      refine ⟨[.fr (.obj n), .fr (.lst (il cols)), .fr (.int most), .fr (.int ever), .own (.lst ((rs ++ [(lead, turn)]).map encR)), .fr (.int col), .fr (.lst (il lead)), .fr (.lst (il turn)), .no], ?_, .inl ⟨rfl, rs ++ [(lead, turn)], by simp [h1], h2.snoc (by rw [h1]; exact hcol) ⟨?_, t1, l2, t2⟩, ⟨_, _, _, rfl⟩, ?_⟩⟩
      · have e : opApp (.lst (rs.map encR)) [lRow lead turn] = some (.lst (rs.map encR ++ [lRow lead turn])) := if_pos hrl
        show (opApp (.lst (rs.map encR)) [lRow lead turn]).map (fun t' => List.set [Slot.fr (.obj n), .fr (.lst (il cols)), .fr (.int most), .fr (.int ever), .own (.lst (rs.map encR)), .fr (.int col), .fr (.lst (il lead)), .fr (.lst (il turn)), .no] 4 (Slot.own t')) = _
        rw [e]
        simp
      · show (lead.length : Int) ≤ most
        omega
      · have : N + 1010 * (done ++ [T.int col]).length = M + 1010 := by simp; omega
        rw [this]; exact hb3
    refine ws_seq.mpr (ws_if.mpr (we_andB.mpr (we_testV.mpr (we_ev2.mpr (we_var.mpr ⟨_, rfl, we_con.mpr ⟨_, rfl, _, rfl, dec_split (fun he0 => ?_) (fun _ => ?_)⟩⟩)))))
    · have he0 : 0 < ever := by simpa using he0
      repeat fold_depth
      refine pull1 hb2 he0 (Int.lt_trans he (by decide +kernel)) (by omega) fun r2 s3 _ _ hb3 => ?_
      repeat fold_depth
      refine dec_split (fun _ => ?_) (fun _ => ?_)
      · repeat fold_depth
        refine pull1 hb3 (by decide) (by decide) (by omega) fun r3 s4 r30 r31 hb4 => ?_
        refine ⟨_, rfl, _, rfl, ⟨by omega, by omega⟩, by rw [len_rangeL]; omega, ?_⟩
        show WC _ _ (callP F_pull [var 0, var 5]) [.fr (.obj n), .fr (.lst (il cols)), .fr (.int most), .fr (.int ever), .own (.lst (rs.map encR)), .fr (.int col), .fr (.lst (il lead)), .fr (.lst (il [])), .no] _ _ _
        refine wc_draw (n := n) (i := 0) (i2 := 5) (size := col) hb4 c0 (Int.lt_trans c1 (by decide +kernel)) rfl rfl (by decide) (by decide) _ (by rw [len_rangeL]; omega) fun turn s5 l3 l4 hb5 => ?_
        rw [len_rangeL] at l3 hb5
        refine ⟨fun _ => ?_, fun z => absurd rfl z⟩
        exact fin turn s5 (by omega) l4 (hb5.up (by omega))
      · refine ws_nx.mpr ⟨fun _ => ?_, fun z => absurd rfl z⟩
        exact fin [] s3 (by decide) (fun x hx => by cases hx) (hb3.up (by omega))
    · refine ⟨fun z => Bool.noConfusion z, fun _ => ws_nx.mpr ⟨fun _ => ?_, fun z => absurd rfl z⟩⟩
      exact fin [] s2 (by decide) (fun x hx => by cases hx) (hb2.up (by omega))
end
end Mp


set_option Elab.async false
set_option linter.all false
/-! Xn: the package's refusals, what the laws' own try tells of them. -/
namespace Mp
open PySem
def EXC : List (Str × List Str) := [("BadColours", ["at", "word"]), ("BadFigure", ["at", "word"]), ("Meeting", ["other", "one", "word"]), ("TooMany", ["most", "word"]), ("TooFar", ["most", "word"]), ("BadOrder", ["word"]), ("OtherColours", ["word"]), ("OtherBook", ["word"]), ("BadRow", ["at", "word"]), ("BadNote", ["note", "word"]), ("BadBeneath", ["word"]), ("Full", ["pad", "word"]), ("NoEnd", ["pad", "word"]), ("NotStanding", ["figure", "word"]), ("NeverClear", ["pad", "word"]), ("BadDeed", ["word"]), ("BadNumber", ["number", "word"]), ("NoBeginning", ["word"]), ("Barred", ["pad", "word"]), ("BadHeights", ["at", "word"]), ("BadWeights", ["at", "word"]), ("NoMean", ["word"]), ("BadText", ["at", "word"]), ("NoPad", ["pad", "word"]), ("NoFigure", ["figure", "word"]), ("NoNote", ["depth", "word"]), ("NothingBack", ["word"]), ("NothingAgain", ["word"])]
def XN : Str → Option (List Str) := fun x => EXC.lookup x
def HS : List HdD := [⟨["BadColours", "BadFigure", "BadRow", "BadHeights", "BadWeights", "BadText"], ["word", "at"]⟩, ⟨["Meeting"], ["word", "one", "other"]⟩, ⟨["TooMany", "TooFar"], ["word", "most"]⟩, ⟨["BadNote"], ["word", "note"]⟩, ⟨["Full", "NoEnd", "NeverClear", "Barred", "NoPad"], ["word", "pad"]⟩, ⟨["NotStanding", "NoFigure"], ["word", "figure"]⟩, ⟨["BadNumber"], ["word", "number"]⟩, ⟨["NoNote"], ["word", "depth"]⟩, ⟨["BadOrder", "OtherColours", "OtherBook", "BadBeneath", "BadDeed", "NoBeginning", "NoMean"], ["word"]⟩, ⟨["NothingBack", "NothingAgain"], ["word"]⟩]
theorem he_BadColours {x0 : T} {R : List T → Prop} (q : R [.str "BadColours", x0]) : ∃ fs ns ts, pickH HS "BadColours" = some fs ∧ XN "BadColours" = some ns ∧ fldsT ns [x0, .str "BadColours"] fs = some ts ∧ R ts := ⟨["word", "at"], ["at", "word"], _, by kernel_rfl, by kernel_rfl, by kernel_rfl, q⟩
theorem he_BadFigure {x0 : T} {R : List T → Prop} (q : R [.str "BadFigure", x0]) : ∃ fs ns ts, pickH HS "BadFigure" = some fs ∧ XN "BadFigure" = some ns ∧ fldsT ns [x0, .str "BadFigure"] fs = some ts ∧ R ts := ⟨["word", "at"], ["at", "word"], _, by kernel_rfl, by kernel_rfl, by kernel_rfl, q⟩
theorem he_Meeting {x0 : T} {x1 : T} {R : List T → Prop} (q : R [.str "Meeting", x1, x0]) : ∃ fs ns ts, pickH HS "Meeting" = some fs ∧ XN "Meeting" = some ns ∧ fldsT ns [x0, x1, .str "Meeting"] fs = some ts ∧ R ts := ⟨["word", "one", "other"], ["other", "one", "word"], _, by kernel_rfl, by kernel_rfl, by kernel_rfl, q⟩
theorem he_TooMany {x0 : T} {R : List T → Prop} (q : R [.str "TooMany", x0]) : ∃ fs ns ts, pickH HS "TooMany" = some fs ∧ XN "TooMany" = some ns ∧ fldsT ns [x0, .str "TooMany"] fs = some ts ∧ R ts := ⟨["word", "most"], ["most", "word"], _, by kernel_rfl, by kernel_rfl, by kernel_rfl, q⟩
theorem he_TooFar {x0 : T} {R : List T → Prop} (q : R [.str "TooFar", x0]) : ∃ fs ns ts, pickH HS "TooFar" = some fs ∧ XN "TooFar" = some ns ∧ fldsT ns [x0, .str "TooFar"] fs = some ts ∧ R ts := ⟨["word", "most"], ["most", "word"], _, by kernel_rfl, by kernel_rfl, by kernel_rfl, q⟩
theorem he_BadOrder {R : List T → Prop} (q : R [.str "BadOrder"]) : ∃ fs ns ts, pickH HS "BadOrder" = some fs ∧ XN "BadOrder" = some ns ∧ fldsT ns [.str "BadOrder"] fs = some ts ∧ R ts := ⟨["word"], ["word"], _, by kernel_rfl, by kernel_rfl, by kernel_rfl, q⟩
theorem he_OtherColours {R : List T → Prop} (q : R [.str "OtherColours"]) : ∃ fs ns ts, pickH HS "OtherColours" = some fs ∧ XN "OtherColours" = some ns ∧ fldsT ns [.str "OtherColours"] fs = some ts ∧ R ts := ⟨["word"], ["word"], _, by kernel_rfl, by kernel_rfl, by kernel_rfl, q⟩
theorem he_OtherBook {R : List T → Prop} (q : R [.str "OtherBook"]) : ∃ fs ns ts, pickH HS "OtherBook" = some fs ∧ XN "OtherBook" = some ns ∧ fldsT ns [.str "OtherBook"] fs = some ts ∧ R ts := ⟨["word"], ["word"], _, by kernel_rfl, by kernel_rfl, by kernel_rfl, q⟩
theorem he_BadRow {x0 : T} {R : List T → Prop} (q : R [.str "BadRow", x0]) : ∃ fs ns ts, pickH HS "BadRow" = some fs ∧ XN "BadRow" = some ns ∧ fldsT ns [x0, .str "BadRow"] fs = some ts ∧ R ts := ⟨["word", "at"], ["at", "word"], _, by kernel_rfl, by kernel_rfl, by kernel_rfl, q⟩
theorem he_BadNote {x0 : T} {R : List T → Prop} (q : R [.str "BadNote", x0]) : ∃ fs ns ts, pickH HS "BadNote" = some fs ∧ XN "BadNote" = some ns ∧ fldsT ns [x0, .str "BadNote"] fs = some ts ∧ R ts := ⟨["word", "note"], ["note", "word"], _, by kernel_rfl, by kernel_rfl, by kernel_rfl, q⟩
theorem he_BadBeneath {R : List T → Prop} (q : R [.str "BadBeneath"]) : ∃ fs ns ts, pickH HS "BadBeneath" = some fs ∧ XN "BadBeneath" = some ns ∧ fldsT ns [.str "BadBeneath"] fs = some ts ∧ R ts := ⟨["word"], ["word"], _, by kernel_rfl, by kernel_rfl, by kernel_rfl, q⟩
theorem he_Full {x0 : T} {R : List T → Prop} (q : R [.str "Full", x0]) : ∃ fs ns ts, pickH HS "Full" = some fs ∧ XN "Full" = some ns ∧ fldsT ns [x0, .str "Full"] fs = some ts ∧ R ts := ⟨["word", "pad"], ["pad", "word"], _, by kernel_rfl, by kernel_rfl, by kernel_rfl, q⟩
theorem he_NoEnd {x0 : T} {R : List T → Prop} (q : R [.str "NoEnd", x0]) : ∃ fs ns ts, pickH HS "NoEnd" = some fs ∧ XN "NoEnd" = some ns ∧ fldsT ns [x0, .str "NoEnd"] fs = some ts ∧ R ts := ⟨["word", "pad"], ["pad", "word"], _, by kernel_rfl, by kernel_rfl, by kernel_rfl, q⟩
theorem he_NotStanding {x0 : T} {R : List T → Prop} (q : R [.str "NotStanding", x0]) : ∃ fs ns ts, pickH HS "NotStanding" = some fs ∧ XN "NotStanding" = some ns ∧ fldsT ns [x0, .str "NotStanding"] fs = some ts ∧ R ts := ⟨["word", "figure"], ["figure", "word"], _, by kernel_rfl, by kernel_rfl, by kernel_rfl, q⟩
theorem he_NeverClear {x0 : T} {R : List T → Prop} (q : R [.str "NeverClear", x0]) : ∃ fs ns ts, pickH HS "NeverClear" = some fs ∧ XN "NeverClear" = some ns ∧ fldsT ns [x0, .str "NeverClear"] fs = some ts ∧ R ts := ⟨["word", "pad"], ["pad", "word"], _, by kernel_rfl, by kernel_rfl, by kernel_rfl, q⟩
theorem he_BadDeed {R : List T → Prop} (q : R [.str "BadDeed"]) : ∃ fs ns ts, pickH HS "BadDeed" = some fs ∧ XN "BadDeed" = some ns ∧ fldsT ns [.str "BadDeed"] fs = some ts ∧ R ts := ⟨["word"], ["word"], _, by kernel_rfl, by kernel_rfl, by kernel_rfl, q⟩
theorem he_BadNumber {x0 : T} {R : List T → Prop} (q : R [.str "BadNumber", x0]) : ∃ fs ns ts, pickH HS "BadNumber" = some fs ∧ XN "BadNumber" = some ns ∧ fldsT ns [x0, .str "BadNumber"] fs = some ts ∧ R ts := ⟨["word", "number"], ["number", "word"], _, by kernel_rfl, by kernel_rfl, by kernel_rfl, q⟩
theorem he_NoBeginning {R : List T → Prop} (q : R [.str "NoBeginning"]) : ∃ fs ns ts, pickH HS "NoBeginning" = some fs ∧ XN "NoBeginning" = some ns ∧ fldsT ns [.str "NoBeginning"] fs = some ts ∧ R ts := ⟨["word"], ["word"], _, by kernel_rfl, by kernel_rfl, by kernel_rfl, q⟩
theorem he_Barred {x0 : T} {R : List T → Prop} (q : R [.str "Barred", x0]) : ∃ fs ns ts, pickH HS "Barred" = some fs ∧ XN "Barred" = some ns ∧ fldsT ns [x0, .str "Barred"] fs = some ts ∧ R ts := ⟨["word", "pad"], ["pad", "word"], _, by kernel_rfl, by kernel_rfl, by kernel_rfl, q⟩
theorem he_BadHeights {x0 : T} {R : List T → Prop} (q : R [.str "BadHeights", x0]) : ∃ fs ns ts, pickH HS "BadHeights" = some fs ∧ XN "BadHeights" = some ns ∧ fldsT ns [x0, .str "BadHeights"] fs = some ts ∧ R ts := ⟨["word", "at"], ["at", "word"], _, by kernel_rfl, by kernel_rfl, by kernel_rfl, q⟩
theorem he_BadWeights {x0 : T} {R : List T → Prop} (q : R [.str "BadWeights", x0]) : ∃ fs ns ts, pickH HS "BadWeights" = some fs ∧ XN "BadWeights" = some ns ∧ fldsT ns [x0, .str "BadWeights"] fs = some ts ∧ R ts := ⟨["word", "at"], ["at", "word"], _, by kernel_rfl, by kernel_rfl, by kernel_rfl, q⟩
theorem he_NoMean {R : List T → Prop} (q : R [.str "NoMean"]) : ∃ fs ns ts, pickH HS "NoMean" = some fs ∧ XN "NoMean" = some ns ∧ fldsT ns [.str "NoMean"] fs = some ts ∧ R ts := ⟨["word"], ["word"], _, by kernel_rfl, by kernel_rfl, by kernel_rfl, q⟩
theorem he_BadText {x0 : T} {R : List T → Prop} (q : R [.str "BadText", x0]) : ∃ fs ns ts, pickH HS "BadText" = some fs ∧ XN "BadText" = some ns ∧ fldsT ns [x0, .str "BadText"] fs = some ts ∧ R ts := ⟨["word", "at"], ["at", "word"], _, by kernel_rfl, by kernel_rfl, by kernel_rfl, q⟩
theorem he_NoPad {x0 : T} {R : List T → Prop} (q : R [.str "NoPad", x0]) : ∃ fs ns ts, pickH HS "NoPad" = some fs ∧ XN "NoPad" = some ns ∧ fldsT ns [x0, .str "NoPad"] fs = some ts ∧ R ts := ⟨["word", "pad"], ["pad", "word"], _, by kernel_rfl, by kernel_rfl, by kernel_rfl, q⟩
theorem he_NoFigure {x0 : T} {R : List T → Prop} (q : R [.str "NoFigure", x0]) : ∃ fs ns ts, pickH HS "NoFigure" = some fs ∧ XN "NoFigure" = some ns ∧ fldsT ns [x0, .str "NoFigure"] fs = some ts ∧ R ts := ⟨["word", "figure"], ["figure", "word"], _, by kernel_rfl, by kernel_rfl, by kernel_rfl, q⟩
theorem he_NoNote {x0 : T} {R : List T → Prop} (q : R [.str "NoNote", x0]) : ∃ fs ns ts, pickH HS "NoNote" = some fs ∧ XN "NoNote" = some ns ∧ fldsT ns [x0, .str "NoNote"] fs = some ts ∧ R ts := ⟨["word", "depth"], ["depth", "word"], _, by kernel_rfl, by kernel_rfl, by kernel_rfl, q⟩
theorem he_NothingBack {R : List T → Prop} (q : R [.str "NothingBack"]) : ∃ fs ns ts, pickH HS "NothingBack" = some fs ∧ XN "NothingBack" = some ns ∧ fldsT ns [.str "NothingBack"] fs = some ts ∧ R ts := ⟨["word"], ["word"], _, by kernel_rfl, by kernel_rfl, by kernel_rfl, q⟩
theorem he_NothingAgain {R : List T → Prop} (q : R [.str "NothingAgain"]) : ∃ fs ns ts, pickH HS "NothingAgain" = some fs ∧ XN "NothingAgain" = some ns ∧ fldsT ns [.str "NothingAgain"] fs = some ts ∧ R ts := ⟨["word"], ["word"], _, by kernel_rfl, by kernel_rfl, by kernel_rfl, q⟩
/-! ### alike, of told pairs -/
theorem lk_one {w : Str} {x : T} (hw : T.lk 1 (.str w) = true) (h : T.lk 12 x = true) : T.lk 13 (.tup [.str w, x]) = true := by
  have h1 : T.lk 12 (.str w) = true := hw
  show (T.lk 12 (.str w) && (T.lk 12 x && true)) = true
  rw [h1, h]; rfl
theorem lk_row {n : Nat} {A B : List Int} (ha : A.length ≤ 1000) (hb : B.length ≤ 1000) : T.lk (n + 3) (tRow A B) = true := by
  have h1 : T.lk (n + 2) (.tup (il A)) = true := lk_tup (by omega)
  have h2 : T.lk (n + 2) (.tup (il B)) = true := lk_tup (by omega)
  show (T.lk (n + 2) (.tup (il A)) && (T.lk (n + 2) (.tup (il B)) && true)) = true
  rw [h1, h2]; rfl
theorem tab_at {st : Store} {i : Nat} {q : Str} (h : st[i]? = some (.tab q)) : tabAt st i q = true := by
  unfold tabAt
  rw [h]
  exact eqRefl q
/-- if not is(lambda: act, due): return False -/
theorem we_isL {ti : Nat} {q : Str} {act due : EvT} {env : En} {st : Store} {Q : T → Store → Prop} {E : Str → List T → Store → Prop} (ht : tabAt st ti q = true)
    (hd : WEX due env st (fun d s => T.lk 13 d = true ∧ WEX act env s (fun t s' => .tup [.str "told", t] = d ∧ Q (.bl true) s') fun c vs s' => ∃ fs ns ts, pickH HS c = some fs ∧ XN c = some ns ∧ fldsT ns vs fs = some ts ∧ .tup ts = d ∧ Q (.bl true) s') E) :
    WEX (isE XN "told" HS ti q act (F_like 13) due) env st Q E := by
  refine we_is ht (hd.impE fun d s h => h.2.mono (fun t s' h2 => ?_) fun c vs s' h2 => ?_)
  · obtain ⟨e, q⟩ := h2
    rw [e]
    exact like1 h.1 q
  · obtain ⟨fs, ns, ts, h1, h3, h4, e, q⟩ := h2
    refine ⟨fs, ns, ts, h1, h3, h4, ?_⟩
    rw [e]
    exact like1 h.1 q
theorem ws_isL {ti : Nat} {q : Str} {act due : EvT} {env : En} {st : Store} {Q : Fl → En → Store → Prop} {E : Str → List T → Store → Prop} (ht : tabAt st ti q = true)
    (hd : WEX due env st (fun d s => T.lk 13 d = true ∧ WEX act env s (fun t s' => .tup [.str "told", t] = d ∧ Q .nx env s') fun c vs s' => ∃ fs ns ts, pickH HS c = some fs ∧ XN c = some ns ∧ fldsT ns vs fs = some ts ∧ .tup ts = d ∧ Q .nx env s') E) :
    WSX (sIf (Mp.notT (testV (isE XN "told" HS ti q act (F_like 13) due))) (sRet (con (.bl false))) sNx) env st Q E := by
  refine ws_if.mpr (we_notT.mpr (we_testV.mpr (we_isL ht (hd.impE fun d s h => ⟨h.1, h.2.mono (fun t s' h2 => ?_) fun c vs s' h2 => ?_⟩))))
  · exact ⟨h2.1, true, rfl, fun z => Bool.noConfusion z, fun _ => ws_nx.mpr h2.2⟩
  · obtain ⟨fs, ns, ts, h1, h3, h4, e, q⟩ := h2
    exact ⟨fs, ns, ts, h1, h3, h4, e, true, rfl, fun z => Bool.noConfusion z, fun _ => ws_nx.mpr q⟩
end Mp


set_option Elab.async false
set_option linter.all false
set_option maxRecDepth 100000
set_option maxHeartbeats 1000000
/-! Bk: books, by the program. -/
namespace Mp
open PySem
/-- one step of a text, forwards -/
local macro_rules | `(tactic| fold_depth) => `(tactic| first
  | (with_reducible first
    | refine ws_seq.mpr ?_ | refine ws_if.mpr ?_ | refine ws_ret.mpr ?_ | refine ws_asgN.mpr ?_ | refine ws_asg.mpr ?_ | refine ws_ix.mpr ?_ | refine ws_nx.mpr ?_ | refine ws_par.mpr ?_ | refine ws_for.mpr ?_ | refine ws_shr.mpr ?_ | refine ws_aug.mpr ?_ | refine ws_upd.mpr ?_ | refine ws_own.mpr ?_ | refine ws_frz.mpr ?_ | refine ws_fl.mpr ?_ | refine ws_expr.mpr ?_ | refine ws_raise.mpr ?_
    | refine we_ev2.mpr ?_ | refine we_ev2S.mpr ?_ | refine we_ev3S.mpr ?_ | refine we_ev1S.mpr ?_ | refine we_ev1.mpr ?_ | refine we_con.mpr ?_ | refine we_testV.mpr ?_
    | refine we_callP.mpr ?_ | refine we_cons.mpr ?_ | refine we_nil.mpr ?_ | refine we_evN.mpr ?_ | refine we_andB.mpr ?_ | refine we_orB.mpr ?_ | refine we_notT.mpr ?_ | refine we_andV.mpr ?_ | refine we_notV.mpr ?_ | refine we_orV.mpr ?_ | refine we_ite.mpr ?_ | refine we_chain.mpr ?_
    | refine we_bind.mpr ?_ | refine we_pure.mpr ?_ | refine we_part.mpr ?_ | refine we_itRng1.mpr ?_ | refine we_itRng2.mpr ?_ | refine we_itSeq.mpr ?_ | refine we_comp1.mpr ?_ | refine we_itEnum.mpr ?_ | refine we_peek.mpr ?_ | refine we_ownV.mpr ?_ | refine we_var.mpr ?_
    | refine ⟨_, len_tup, ?_⟩ | refine ⟨_, len_lst, ?_⟩ | refine ⟨_, neN, ?_⟩ | refine ⟨_, eqI, ?_⟩ | refine ⟨_, eqB, ?_⟩ | refine ⟨_, eq_int, ?_⟩ | refine ⟨_, ne_int, ?_⟩ | refine ⟨_, eq_tup, ?_⟩ | refine ⟨_, eq_lst, ?_⟩ | refine ⟨_, ne_tup, ?_⟩ | refine ⟨_, ne_lst, ?_⟩)
  | refine ⟨fun (_ : Fl.nx = Fl.nx) => ?_, fun (z : Fl.nx ≠ Fl.nx) => absurd rfl z⟩ | refine ⟨fun (z : Fl.ret _ = Fl.nx) => Fl.noConfusion z, fun _ => ?_⟩ | refine fun (_ : Fl.ret _ ≠ Fl.nx) => ?_
  | refine ⟨fun (_ : true = true) => ?_, fun (z : true = false) => Bool.noConfusion z⟩ | refine ⟨fun (z : false = true) => Bool.noConfusion z, fun (_ : false = false) => ?_⟩
  | (fail_if_success (with_reducible refine isCut ?_)
     fail_if_success (with_reducible refine isMul ?_)
     fail_if_success (with_reducible refine isDiv ?_)
     first | refine ⟨.bl true, rfl, ?_⟩ | refine ⟨.bl false, rfl, ?_⟩ | refine ⟨true, rfl, ?_⟩ | refine ⟨false, rfl, ?_⟩ | refine ⟨_, rfl, ?_⟩))

def S_need_colours : EvS := sSeq (sIf (Mp.notT (testV (chain opLe opLe (con (.int 1)) (ev1S lenT (var 0)) (con (.int 6))))) (sRaise "BadColours" ["at", "word"] (evL [ev1 opNeg (con (.int 1))])) (sNx)) (sFor (itEnum (var 0)) (.tup [(.name 1), (.name 2)]) (sIf (Mp.notT (testV (chain opLe opLe (con (.int 1)) (var 2) (con (.int 4))))) (sRaise "BadColours" ["at", "word"] (evL [var 1])) (sNx)))
def F_need_colours : FnD := runFn 1 3 S_need_colours
def S_is_triple : EvS := sSeq (sIf (testV (ev2 opNe (ev1S lenT (var 1)) (con (.int 3)))) (sRet (con (.bl false))) (sNx)) (sSeq (sAsg (.tup [(.name 3), (.name 4), (.name 5)]) (var 1)) (sSeq (sIf (Mp.notT (testV (chain opLe opLt (var 2) (var 3) (ev1S lenT (var 0))))) (sRet (con (.bl false))) (sNx)) (sRet (andV (chain opLe opLt (con (.int 0)) (var 4) (ev2S opIx (var 0) (var 3))) (chain opLe opLe (con (.int 1)) (var 5) (con (.int 3)))))))
def F_is_triple : FnD := runFn 3 6 S_is_triple
def S_is_figure : EvS := sSeq (sAsg (.name 2) (con (.int 0))) (sSeq (sFor (itSeq (var 1)) (.name 3) (sSeq (sIf (Mp.notT (testV (callP F_is_triple [var 0, var 3, var 2]))) (sRet (con (.bl false))) (sNx)) (sAsg (.name 2) (ev2 opAdd (ev2S opIx (var 3) (con (.int 0))) (con (.int 1)))))) (sRet (ev2 opGt (ev1S lenT (var 1)) (con (.int 0)))))
def F_is_figure : FnD := runFn 2 4 S_is_figure
def S_need_figures : EvS := sSeq (sIf (testV (ev2 opGt (ev1S lenT (var 1)) (con (.int 12)))) (sRaise "TooMany" ["most", "word"] (evL [con (.int 12)])) (sNx)) (sFor (itEnum (var 1)) (.tup [(.name 2), (.name 3)]) (sIf (Mp.notT (testV (callP F_is_figure [var 0, var 3]))) (sRaise "BadFigure" ["at", "word"] (evL [var 2])) (sNx)))
def F_need_figures : FnD := runFn 2 4 S_need_figures
def S_pads_of : EvS := sRet (comp1 [1, 2, 3] (itSeq (var 0)) (.tup [(.name 1), (.name 2), (.name 3)]) tYes (var 1))
def F_pads_of : FnD := runFn 1 4 S_pads_of
def S_share : EvS := sSeq (sAsg (.name 2) (callP F_pads_of [var 0])) (sRet (ev1 anyT (comp1 [3] (itSeq (callP F_pads_of [var 1])) (.name 3) tYes (ev2 opIn (var 3) (var 2)))))
def F_share : FnD := runFn 2 4 S_share
def S_bar : EvS := sSeq (sAsg (.name 2) (dcomp [3, 4, 5] (itSeq (var 0)) (.tup [(.name 3), (.name 4), (.name 5)]) tYes (var 3) (var 4))) (sRet (ev1 anyT (comp1 [3, 4, 5] (itSeq (var 1)) (.tup [(.name 3), (.name 4), (.name 5)]) tYes (andV (ev2 opIn (var 3) (var 2)) (ev2 opNe (ev2S opIx (var 2) (var 3)) (var 4))))))
def F_bar : FnD := runFn 2 6 S_bar
def S_need_barred : EvS := sFor (itRng1 (ev1S lenT (var 0))) (.name 1) (sFor (itRng2 (ev2 opAdd (var 1) (con (.int 1))) (ev1S lenT (var 0))) (.name 2) (sIf (andB (testV (callP F_share [ev2S opIx (var 0) (var 1), ev2S opIx (var 0) (var 2)])) (Mp.notT (testV (callP F_bar [ev2S opIx (var 0) (var 1), ev2S opIx (var 0) (var 2)])))) (sRaise "Meeting" ["other", "one", "word"] (evL [var 1, var 2])) (sNx)))
def F_need_barred : FnD := runFn 1 3 S_need_barred
def S_Book_init (G : Genv) : EvS := sSeq (sExpr (callP F_need_colours [var 1])) (sSeq (sExpr (callP F_need_figures [var 1, var 2])) (sSeq (sFldS G "hues" (ev1S tupleT (var 1)) (var 0)) (sSeq (sFldS G "shapes" (ev1S tupleT (comp1 [3] (itSeq (var 2)) (.name 3) tYes (ev1S tupleT (comp1 [4] (itSeq (var 3)) (.name 4) tYes (ev1S tupleT (var 4)))))) (var 0)) (sExpr (callP F_need_barred [ev1S (fldG G "shapes") (var 0)])))))
def F_Book_init (G : Genv) : FnD := runFn 3 5 (S_Book_init G)
abbrev Fig := List (List Int)
abbrev tRw (r : List Int) : T := .tup (il r)
abbrev tRs (f : Fig) : List T := f.map tRw
abbrev tFig (f : Fig) : T := .tup (tRs f)
def SeqOf (t : T) (xs : List T) : Prop := t = .lst xs ∨ t = .tup xs
def FigOf (t : T) (f : Fig) : Prop := SeqOf t (tRs f)
structure FigsOf (ts : List T) (fs : List Fig) : Prop where
  len : ts.length = fs.length
  at_ : ∀ (i : Nat) t f, ts[i]? = some t → fs[i]? = some f → FigOf t f
theorem len_rs {f : Fig} {st : Store} : lenT st (.lst (tRs f)) = some (.int f.length) ∧ lenT st (.tup (tRs f)) = some (.int f.length) := by
  refine ⟨?_, ?_⟩
  · show some (T.int (tRs f).length) = _
    rw [List.length_map]
  · show some (T.int (tRs f).length) = _
    rw [List.length_map]
theorem seqLen {t : T} {xs : List T} {st : Store} (h : SeqOf t xs) : lenT st t = some (.int xs.length) := by rcases h with rfl | rfl <;> rfl
theorem seqIx {t x : T} {xs : List T} {st : Store} {i : Int} (h : SeqOf t xs) (h0 : 0 ≤ i) (hx : xs[i.toNat]? = some x) : opIx st t (.int i) = some x := by
  rcases h with rfl | rfl
  · exact ixL_ok h0 hx
  · exact ixT_ok h0 hx
theorem il_get {xs : List Int} {i : Nat} {t : T} (h : (il xs)[i]? = some t) : ∃ x, xs[i]? = some x ∧ t = .int x := by
  rw [List.getElem?_map] at h
  cases e : xs[i]? with
  | none => rw [e] at h; cases h
  | some x => rw [e] at h; cases h; exact ⟨x, rfl, rfl⟩
theorem il_getD {xs : List Int} {i : Nat} (h : i < xs.length) : (il xs)[i]? = some (.int (xs.getD i 0)) := by
  rw [List.getElem?_map, List.getElem?_eq_getElem h, List.getD_eq_getElem?_getD, List.getElem?_eq_getElem h]
  rfl
theorem dec_splitA {p : Prop} [Decidable p] {A B : Prop} (h : if p then A else B) : (decide p = true → A) ∧ (decide p = false → B) := by
  by_cases hp : p
  · rw [if_pos hp] at h; exact ⟨fun _ => h, fun z => absurd hp (of_decide_eq_false z)⟩
  · rw [if_neg hp] at h; exact ⟨fun z => absurd (of_decide_eq_true z) hp, fun _ => h⟩
/-! ### what is due -/
def colDue (cs : List Int) : Option Int := if 0 < cs.length ∧ cs.length < 7 then firstS (fun i c => if 0 < c ∧ c < 5 then none else some (i : Int)) 0 cs else some (-1)
def tripB (cs : List Int) (least : Int) : List Int → Bool
  | [p, n, d] => decide (least ≤ p ∧ p < cs.length) && (decide (0 ≤ n ∧ n < cs.getD p.toNat 0) && decide (1 ≤ d ∧ d ≤ 3))
  | _ => false
def leastAt (f : Fig) : Nat → Int
  | 0 => 0
  | j + 1 => (f.getD j []).headD 0 + 1
def figBad (cs : List Int) (f : Fig) : Option Unit := firstS (fun j r => if tripB cs (leastAt f j) r = true then none else some ()) 0 f
def figB (cs : List Int) (f : Fig) : Bool := (figBad cs f).isNone && decide (0 < f.length)
def figsDue (cs : List Int) (fs : List Fig) : Option (Str × Int) := if 12 < fs.length then some ("TooMany", 12) else firstS (fun i f => if figB cs f = true then none else some ("BadFigure", (i : Int))) 0 fs
section
variable {st : Store} {Q : T → Store → Prop} {E : Str → List T → Store → Prop}
theorem need_colours1 {t : T} {cs : List Int} (hc : SeqOf t (il cs)) (q : colDue cs = none → Q .non st) (x : ∀ i, colDue cs = some i → E "BadColours" [.int i, .str "BadColours"] st) : WNX F_need_colours [t] st Q E := by
  refine wn_go rfl ?_
  show WSX S_need_colours [.fr t, .no, .no] st _ _
  unfold S_need_colours
  have bad : ¬ (0 < cs.length ∧ cs.length < 7) → WSX (sRaise "BadColours" ["at", "word"] (evL [ev1 opNeg (con (.int 1))])) [.fr t, .no, .no] st (fun fl e s => (fl = .nx → WSX (sFor (itEnum (var 0)) (.tup [(.name 1), (.name 2)]) (sIf (Mp.notT (testV (chain opLe opLe (con (.int 1)) (var 2) (con (.int 4))))) (sRaise "BadColours" ["at", "word"] (evL [var 1])) (sNx))) e s (endQ Q) E) ∧ (fl ≠ .nx → endQ Q fl e s)) E := fun h => by
    repeat fold_depth
    exact ⟨rfl, x _ (by unfold colDue; rw [if_neg h])⟩
  refine ws_seq.mpr (ws_if.mpr (we_notT.mpr (we_testV.mpr ?_)))
  refine we_chain.mpr (we_con.mpr (we_ev1S.mpr (we_var.mpr ⟨t, rfl, _, seqLen hc, ?_⟩)))
  rw [il_len]
  refine ⟨_, rfl, _, rfl, dec_split (fun h1 => ?_) (fun h1 => ?_)⟩
  · repeat fold_depth
    refine dec_splitN (fun h2 => bad (by omega)) (fun h2 => ?_)
    refine ws_nx.mpr ⟨fun _ => ?_, fun z => absurd rfl z⟩
    refine ws_for.mpr (we_itEnum.mpr (we_var.mpr ⟨t, rfl, il cs, hc, ?_⟩))
    refine (ws_forFirst (f := fun i c => if 0 < c ∧ c < 5 then none else some (i : Int)) (fun _ e => ∃ a b, e = [.fr t, a, b]) (fun _ _ _ => False) (fun i c vs s => c = "BadColours" ∧ vs = [.int i, .str "BadColours"] ∧ s = st) (enumL 0 (il cs)) cs 0 _ ⟨_, _, rfl⟩ (by rw [enumL_len, il_len]) ?_).mono ?_ ?_
    · rintro j c u env hj hu ⟨a, b, rfl⟩
      obtain ⟨y, hy, rfl⟩ := enumL_at hu
      obtain ⟨c', hc', rfl⟩ := il_get hy
      rw [hj] at hc'
      cases hc'
      refine ⟨[.fr t, .fr (.int (0 + j)), .fr (.int c)], rfl, ?_⟩
      refine ws_if.mpr (we_notT.mpr (we_testV.mpr ?_))
      have badc : ¬ (0 < c ∧ c < 5) → WSX (sRaise "BadColours" ["at", "word"] (evL [var 1])) [.fr t, .fr (.int (0 + j)), .fr (.int c)] st (fun fl e s => (fl = .nx ∧ (if 0 < c ∧ c < 5 then none else some ((0 + j : Nat) : Int)) = none ∧ (∃ a b, e = [.fr t, a, b]) ∧ s = st) ∨ ∃ t b, fl = .ret t ∧ (if 0 < c ∧ c < 5 then none else some ((0 + j : Nat) : Int)) = some b ∧ False) (fun c' vs s => ∃ b, (if 0 < c ∧ c < 5 then none else some ((0 + j : Nat) : Int)) = some b ∧ c' = "BadColours" ∧ vs = [.int b, .str "BadColours"] ∧ s = st) := fun h => by
        repeat fold_depth
        exact ⟨rfl, _, if_neg h, rfl, by simp, rfl⟩
      refine we_chain.mpr (we_con.mpr (we_var.mpr ⟨_, rfl, _, rfl, _, rfl, dec_split (fun h3 => ?_) (fun h3 => ?_)⟩))
      · repeat fold_depth
        refine dec_splitN (fun h4 => badc (by omega)) (fun h4 => ?_)
        exact ws_nx.mpr (.inl ⟨rfl, if_pos (by omega), ⟨_, _, rfl⟩, rfl⟩)
      · exact ⟨_, rfl, fun _ => badc (by omega), fun z => Bool.noConfusion z⟩
    · rintro fl e s (⟨rfl, h3, _, rfl⟩ | ⟨_, _, _, _, z⟩)
      · exact q (by unfold colDue; rw [if_pos (by omega)]; exact h3)
      · exact z.elim
    · rintro c vs s ⟨b, h3, rfl, rfl, rfl⟩
      exact x b (by unfold colDue; rw [if_pos (by omega)]; exact h3)
  · exact ⟨_, rfl, fun _ => bad (by omega), fun z => Bool.noConfusion z⟩
theorem len3 {r : List Int} (h : r.length = 3) : ∃ p n d, r = [p, n, d] := by
  match r, h with
  | [p, n, d], _ => exact ⟨p, n, d, rfl⟩
theorem tripB_ne {cs r : List Int} {least : Int} (h : r.length ≠ 3) : tripB cs least r = false := by
  match r, h with
  | [], _ => rfl
  | [_], _ => rfl
  | [_, _], _ => rfl
  | [p, n, d], h => exact absurd rfl h
  | _ :: _ :: _ :: _ :: _, _ => rfl
theorem tripB_len {cs r : List Int} {least : Int} (h : tripB cs least r = true) : r.length = 3 := by
  by_cases e : r.length = 3
  · exact e
  · rw [tripB_ne e] at h; cases h
theorem is_triple1 {tc : T} {cs r : List Int} {least : Int} (hc : SeqOf tc (il cs)) (h0 : 0 ≤ least) (q : Q (.bl (tripB cs least r)) st) : WNX F_is_triple [tc, tRw r, .int least] st Q E := by
  refine wn_go rfl ?_
  show WSX S_is_triple [.fr tc, .fr (tRw r), .fr (.int least), .no, .no, .no] st _ _
  unfold S_is_triple
  refine ws_seq.mpr (ws_if.mpr (we_testV.mpr (we_ev2.mpr (we_ev1S.mpr (we_var.mpr ⟨_, rfl, _, len_tup (xs := r), we_con.mpr ⟨_, ne_int, _, rfl, dec_splitN (fun h => ?_) (fun h => ?_)⟩⟩)))))
  · have h' : r.length ≠ 3 := fun z => h (by omega)
    rw [tripB_ne h'] at q
    repeat fold_depth
    exact q
  · obtain ⟨p, n, d, rfl⟩ := len3 (r := r) (by omega)
    refine ws_nx.mpr ⟨fun _ => ?_, fun z => absurd rfl z⟩
    refine ws_seq.mpr (ws_asg.mpr (we_var.mpr ⟨_, rfl, _, rfl, fun _ => ?_, fun z => absurd rfl z⟩))
    show WSX _ [.fr tc, .fr (tRw [p, n, d]), .fr (.int least), .fr (.int p), .fr (.int n), .fr (.int d)] st _ _
    refine ws_seq.mpr (ws_if.mpr ?_)
    have q : Q (.bl (decide (least ≤ p ∧ p < cs.length) && (decide (0 ≤ n ∧ n < cs.getD p.toNat 0) && decide (1 ≤ d ∧ d ≤ 3)))) st := q
    by_cases h1 : least ≤ p ∧ p < cs.length
    · rw [decide_eq_true h1, Bool.true_and] at q
      refine we_notT.mpr (we_testV.mpr (we_chain.mpr (we_var.mpr ⟨_, rfl, we_var.mpr ⟨_, rfl, _, rfl, _, rfl, fun _ => ?_, fun z => absurd h1.1 (of_decide_eq_false z)⟩⟩)))
      refine we_ev1S.mpr (we_var.mpr ⟨_, rfl, _, seqLen hc, ?_⟩)
      rw [il_len]
      refine ⟨_, rfl, _, rfl, dec_splitN (fun z => absurd h1.2 z) (fun _ => ?_)⟩
      refine ws_nx.mpr ⟨fun _ => ?_, fun z => absurd rfl z⟩
      have hp : (il cs)[p.toNat]? = some (.int (cs.getD p.toNat 0)) := il_getD (by omega)
      refine ws_ret.mpr (we_andV.mpr (we_chain.mpr (we_con.mpr (we_var.mpr ⟨_, rfl, _, rfl, _, rfl, dec_split (fun h2 => ?_) (fun h2 => ?_)⟩))))
      · refine we_ev2S.mpr (we_var.mpr ⟨_, rfl, we_var.mpr ⟨_, rfl, _, seqIx hc (by omega) hp, _, rfl, _, rfl, dec_split (fun h3 => ?_) (fun h3 => ?_)⟩⟩)
        · rw [decide_eq_true ⟨h2, h3⟩, Bool.true_and] at q
          refine we_chain.mpr (we_con.mpr (we_var.mpr ⟨_, rfl, _, rfl, _, rfl, dec_split (fun h4 => ?_) (fun h4 => ?_)⟩))
          · refine we_con.mpr ⟨_, rfl, ?_⟩
            have e : decide (1 ≤ d ∧ d ≤ 3) = decide (d ≤ 3) := by simp [h4]
            rw [e] at q; exact q
          · have e : decide (1 ≤ d ∧ d ≤ 3) = false := decide_eq_false fun z => h4 z.1
            rw [e] at q; exact q
        · have e : decide (0 ≤ n ∧ n < cs.getD p.toNat 0) = false := decide_eq_false fun z => h3 z.2
          rw [e, Bool.false_and] at q; exact q
      · have e : decide (0 ≤ n ∧ n < cs.getD p.toNat 0) = false := decide_eq_false fun z => h2 z.1
        rw [e, Bool.false_and] at q; exact ⟨_, rfl, fun z => Bool.noConfusion z, fun _ => q⟩
    · rw [decide_eq_false h1, Bool.false_and] at q
      have bad : WSX (sRet (con (.bl false))) [.fr tc, .fr (tRw [p, n, d]), .fr (.int least), .fr (.int p), .fr (.int n), .fr (.int d)] st (fun fl e s => (fl = .nx → WSX (sRet (andV (chain opLe opLt (con (.int 0)) (var 4) (ev2S opIx (var 0) (var 3))) (chain opLe opLe (con (.int 1)) (var 5) (con (.int 3))))) e s (endQ Q) E) ∧ (fl ≠ .nx → endQ Q fl e s)) E := by
        repeat fold_depth
        exact q
      refine we_notT.mpr (we_testV.mpr (we_chain.mpr (we_var.mpr ⟨_, rfl, we_var.mpr ⟨_, rfl, _, rfl, _, rfl, dec_split (fun h2 => ?_) (fun h2 => ?_)⟩⟩)))
      · refine we_ev1S.mpr (we_var.mpr ⟨_, rfl, _, seqLen hc, ?_⟩)
        rw [il_len]
        exact ⟨_, rfl, _, rfl, dec_splitN (fun _ => bad) (fun z => absurd ⟨h2, z⟩ h1)⟩
      · exact ⟨_, rfl, fun _ => bad, fun z => Bool.noConfusion z⟩
theorem rs_get {f : Fig} {i : Nat} {t : T} (h : (tRs f)[i]? = some t) : ∃ r, f[i]? = some r ∧ t = tRw r := by
  rw [List.getElem?_map] at h
  cases e : f[i]? with
  | none => rw [e] at h; cases h
  | some x => rw [e] at h; cases h; exact ⟨x, rfl, rfl⟩
theorem leastAt_nn {cs : List Int} {f : Fig} {j : Nat} (h : ∀ i r, i < j → f[i]? = some r → tripB cs (leastAt f i) r = true) (hj : j ≤ f.length) : 0 ≤ leastAt f j := by
  induction j with
  | zero => exact Int.le_refl 0
  | succ j ih =>
    have l := ih (fun i r hi => h i r (by omega)) (by omega)
    have e : f[j]? = some (f.getD j []) := by rw [List.getElem?_eq_getElem (by omega), List.getD_eq_getElem?_getD, List.getElem?_eq_getElem (by omega)]; rfl
    have t := h j _ (Nat.lt_succ_self j) e
    obtain ⟨p, n, d, e2⟩ := len3 (tripB_len t)
    rw [e2] at t
    have t : (decide (leastAt f j ≤ p ∧ p < cs.length) && (decide (0 ≤ n ∧ n < cs.getD p.toNat 0) && decide (1 ≤ d ∧ d ≤ 3))) = true := t
    rw [Bool.and_eq_true, decide_eq_true_iff] at t
    show 0 ≤ (f.getD j []).headD 0 + 1
    rw [e2]
    show 0 ≤ p + 1
    omega
theorem is_figure1 {tc tf : T} {cs : List Int} {f : Fig} (hc : SeqOf tc (il cs)) (hf : FigOf tf f) (q : Q (.bl (figB cs f)) st) : WNX F_is_figure [tc, tf] st Q E := by
  refine wn_go rfl ?_
  show WSX S_is_figure [.fr tc, .fr tf, .no, .no] st _ _
  unfold S_is_figure
  refine ws_seq.mpr (ws_asgN.mpr (we_con.mpr ⟨fun _ => ?_, fun z => absurd rfl z⟩))
  show WSX _ [.fr tc, .fr tf, .fr (.int 0), .no] st _ _
  refine ws_seq.mpr (ws_for.mpr (we_itSeq.mpr (we_var.mpr ⟨tf, rfl, .inl ⟨tRs f, hf, ?_⟩⟩)))
  have hlen : (tRs f).length = f.length := List.length_map ..
  refine (ws_forFirst (f := fun j r => if tripB cs (leastAt f j) r = true then none else some ()) (fun j e => (∀ i r, i < j → f[i]? = some r → tripB cs (leastAt f i) r = true) ∧ ∃ a, e = [.fr tc, .fr tf, .fr (.int (leastAt f j)), a]) (fun _ t s => t = .bl false ∧ s = st) (fun _ _ _ _ => False) (tRs f) f 0 _ ⟨fun i r h => absurd h (Nat.not_lt_zero i), _, rfl⟩ hlen ?_).mono ?_ ?_
  · rintro j r u env hj hu ⟨hall, a, rfl⟩
    obtain ⟨r', hr', rfl⟩ := rs_get hu
    rw [hj] at hr'
    cases hr'
    rw [Nat.zero_add] at *
    have hjl : j < f.length := (List.getElem?_eq_some_iff.mp hj).1
    refine ⟨[.fr tc, .fr tf, .fr (.int (leastAt f j)), .fr (tRw r)], rfl, ?_⟩
    refine ws_seq.mpr (ws_if.mpr (we_notT.mpr (we_testV.mpr (we_callP.mpr (we_cons.mpr (we_var.mpr ⟨_, rfl, we_cons.mpr (we_var.mpr ⟨_, rfl, we_cons.mpr (we_var.mpr ⟨_, rfl, we_nil.mpr ?_⟩)⟩)⟩))))))
    refine is_triple1 hc (leastAt_nn hall (by omega)) ⟨_, rfl, ?_⟩
    cases ht : tripB cs (leastAt f j) r with
    | false =>
      refine ⟨fun _ => ?_, fun z => Bool.noConfusion z⟩
      refine ws_ret.mpr (we_con.mpr ⟨fun z => Fl.noConfusion z, fun _ => .inr ⟨_, (), rfl, ?_, rfl, rfl⟩⟩)
      simp
    | true =>
      refine ⟨fun z => Bool.noConfusion z, fun _ => ws_nx.mpr ⟨fun _ => ?_, fun z => absurd rfl z⟩⟩
      obtain ⟨p, n, d, rfl⟩ := len3 (tripB_len ht)
      refine ws_asgN.mpr (we_ev2.mpr (we_ev2S.mpr (we_var.mpr ⟨_, rfl, we_con.mpr ⟨.int p, ixT_ok (by decide) rfl, we_con.mpr ⟨_, rfl, .inl ⟨rfl, ?_, ⟨fun i r hi hr => ?_, .fr (tRw [p, n, d]), ?_⟩, rfl⟩⟩⟩⟩)))
      · simp
      · rcases Nat.lt_succ_iff_lt_or_eq.mp hi with h | rfl
        · exact hall i r h hr
        · rw [hj] at hr; cases hr; exact ht
      · have e : leastAt f (j + 1) = p + 1 := by
          show (f.getD j []).headD 0 + 1 = _
          rw [List.getD_eq_getElem?_getD, hj]; rfl
        rw [e]
        rfl
  · rintro fl e s (⟨rfl, h1, ⟨_, a, rfl⟩, rfl⟩ | ⟨t, b, rfl, h1, rfl, rfl⟩)
    · refine ⟨fun _ => ?_, fun z => absurd rfl z⟩
      refine ws_ret.mpr (we_ev2.mpr (we_ev1S.mpr (we_var.mpr ⟨_, rfl, _, seqLen hf, we_con.mpr ⟨_, rfl, ?_⟩⟩)))
      rw [hlen]
      have e : figB cs f = decide (0 < f.length) := by unfold figB figBad; rw [h1]; rfl
      rw [e] at q
      have e2 : decide ((0 : Int) < (f.length : Int)) = decide (0 < f.length) := by
        rw [decide_eq_decide]; omega
      rw [e2]; exact q
    · refine ⟨fun z => Fl.noConfusion z, fun _ => ?_⟩
      have e : figB cs f = false := by unfold figB figBad; rw [h1]; rfl
      rw [e] at q; exact q
  · rintro c vs s ⟨_, _, z⟩
    exact z.elim
theorem FigsOf.get {ts : List T} {fs : List Fig} (h : FigsOf ts fs) {i : Nat} {f : Fig} (e : fs[i]? = some f) : ∃ t, ts[i]? = some t ∧ FigOf t f := by
  have hi : i < ts.length := by rw [h.len]; exact (List.getElem?_eq_some_iff.mp e).1
  exact ⟨ts[i], List.getElem?_eq_getElem hi, h.at_ i _ f (List.getElem?_eq_getElem hi) e⟩
theorem need_figures1 {tc tg : T} {cs : List Int} {ts : List T} {fs : List Fig} (hc : SeqOf tc (il cs)) (hg : SeqOf tg ts) (hf : FigsOf ts fs) (q : figsDue cs fs = none → Q .non st) (x : ∀ w i, figsDue cs fs = some (w, i) → E w [.int i, .str w] st) : WNX F_need_figures [tc, tg] st Q E := by
  refine wn_go rfl ?_
  show WSX S_need_figures [.fr tc, .fr tg, .no, .no] st _ _
  unfold S_need_figures
  refine ws_seq.mpr (ws_if.mpr (we_testV.mpr (we_ev2.mpr (we_ev1S.mpr (we_var.mpr ⟨tg, rfl, _, seqLen hg, ?_⟩)))))
  rw [hf.len]
  refine we_con.mpr ⟨_, rfl, _, rfl, dec_split (fun h1 => ?_) (fun h1 => ?_)⟩
  · repeat fold_depth
    exact ⟨rfl, x "TooMany" 12 (by unfold figsDue; rw [if_pos (by omega)])⟩
  · refine ws_nx.mpr ⟨fun _ => ?_, fun z => absurd rfl z⟩
    refine ws_for.mpr (we_itEnum.mpr (we_var.mpr ⟨tg, rfl, ts, hg, ?_⟩))
    refine (ws_forFirst (f := fun i f => if figB cs f = true then none else some (("BadFigure" : Str), (i : Int))) (fun _ e => ∃ a b, e = [.fr tc, .fr tg, a, b]) (fun _ _ _ => False) (fun b c vs s => c = b.1 ∧ vs = [.int b.2, .str b.1] ∧ s = st) (enumL 0 ts) fs 0 _ ⟨_, _, rfl⟩ (by rw [enumL_len, hf.len]) ?_).mono ?_ ?_
    · rintro j f u env hj hu ⟨a, b, rfl⟩
      obtain ⟨y, hy, rfl⟩ := enumL_at hu
      have hfy := hf.at_ j y f hy hj
      refine ⟨[.fr tc, .fr tg, .fr (.int (0 + j)), .fr y], rfl, ?_⟩
      refine ws_if.mpr (we_notT.mpr (we_testV.mpr (we_callP.mpr (we_cons.mpr (we_var.mpr ⟨_, rfl, we_cons.mpr (we_var.mpr ⟨_, rfl, we_nil.mpr ?_⟩)⟩)))))
      refine is_figure1 hc hfy ⟨_, rfl, ?_⟩
      cases hb : figB cs f with
      | false =>
        refine ⟨fun _ => ?_, fun z => Bool.noConfusion z⟩
        repeat fold_depth
        exact ⟨rfl, ("BadFigure", ((0 + j : Nat) : Int)), by simp, rfl, by simp, rfl⟩
      | true => exact ⟨fun z => Bool.noConfusion z, fun _ => ws_nx.mpr (.inl ⟨rfl, by simp, ⟨_, _, rfl⟩, rfl⟩)⟩
    · rintro fl e s (⟨rfl, h3, _, rfl⟩ | ⟨_, _, _, _, z⟩)
      · exact q (by unfold figsDue; rw [if_neg (by omega)]; exact h3)
      · exact z.elim
    · rintro c vs s ⟨b, h3, rfl, rfl, rfl⟩
      exact x b.1 b.2 (by unfold figsDue; rw [if_neg (by omega)]; exact h3)
/-! ### pads, notes in common -/
def pads (f : Fig) : List Int := f.map (·.headD 0)
def Rows3 (f : Fig) : Prop := ∀ r ∈ f, r.length = 3
def shareB (a b : Fig) : Bool := (pads b).any fun p => decide (p ∈ pads a)
def wants (a : Fig) : List (Int × Int) := a.foldl (fun l r => putI (r.headD 0) (r.getD 1 0) l) []
def barB (a b : Fig) : Bool := b.any fun r => match (wants a).lookup (r.headD 0) with
  | some n => !decide (n = r.getD 1 0)
  | none => false
theorem wants_keys {p : Int} {a : Fig} : p ∈ (wants a).map (·.1) ↔ p ∈ pads a := by
  have gen : ∀ (a : Fig) (l : List (Int × Int)), p ∈ (a.foldl (fun l r => putI (r.headD 0) (r.getD 1 0) l) l).map (·.1) ↔ p ∈ pads a ∨ p ∈ l.map (·.1) := by
    intro a
    induction a with
    | nil => intro l; simp [pads]
    | cons r a ih =>
      intro l
      rw [List.foldl_cons, ih, putI_keys]
      have e : pads (r :: a) = r.headD 0 :: pads a := rfl
      rw [e, List.mem_cons]
      constructor
      · rintro (h | h | h)
        · exact .inl (.inr h)
        · exact .inl (.inl h)
        · exact .inr h
      · rintro ((h | h) | h)
        · exact .inr (.inl h)
        · exact .inl h
        · exact .inr (.inr h)
  have := gen a []
  rw [show wants a = a.foldl (fun l r => putI (r.headD 0) (r.getD 1 0) l) [] from rfl, this]
  simp
theorem pads_of1 {t : T} {f : Fig} (hf : FigOf t f) (h3 : Rows3 f) (hl : f.length ≤ 100000) (q : Q (.lst (il (pads f))) st) : WNX F_pads_of [t] st Q E := by
  refine wn_go rfl ?_
  show WSX S_pads_of [.fr t, .no, .no, .no] st _ _
  unfold S_pads_of
  refine ws_ret.mpr (we_comp1.mpr (we_itSeq.mpr (we_var.mpr ⟨t, rfl, .inl ⟨tRs f, hf, by rw [List.length_map]; exact hl, ?_⟩⟩)))
  show WC _ _ _ [.fr t, .no, .no, .no] _ _ _
  refine wc_mapE (enc := tRw) (fm := fun r => .int (r.headD 0)) f (fun r hr => ?_) ?_
  · obtain ⟨p, n, d, rfl⟩ := len3 (h3 r hr)
    exact ⟨[.fr t, .fr (.int p), .fr (.int n), .fr (.int d)], rfl, we_var.mpr ⟨_, rfl, rfl, rfl⟩⟩
  · have e : f.map (fun r => T.int (r.headD 0)) = il (pads f) := by simp [pads, il]
    show Q (.lst _) st
    rw [e]; exact q
theorem share1 {ta tb : T} {a b : Fig} (ha : FigOf ta a) (hb : FigOf tb b) (h3 : Rows3 a) (h4 : Rows3 b) (hl : a.length ≤ 100000) (hm : b.length ≤ 100000) (q : Q (.bl (shareB a b)) st) : WNX F_share [ta, tb] st Q E := by
  refine wn_go rfl ?_
  show WSX S_share [.fr ta, .fr tb, .no, .no] st _ _
  unfold S_share
  refine ws_seq.mpr (ws_asgN.mpr (we_callP.mpr (we_cons.mpr (we_var.mpr ⟨_, rfl, we_nil.mpr ?_⟩))))
  refine pads_of1 ha h3 hl ⟨fun _ => ?_, fun z => absurd rfl z⟩
  show WSX _ [.fr ta, .fr tb, .fr (.lst (il (pads a))), .no] st _ _
  refine ws_ret.mpr (we_ev1.mpr (we_comp1.mpr (we_itSeq.mpr (we_callP.mpr (we_cons.mpr (we_var.mpr ⟨_, rfl, we_nil.mpr ?_⟩))))))
  refine pads_of1 hb h4 hm (.inl ⟨_, .inl rfl, by simpa [il, pads] using hm, ?_⟩)
  show WC _ _ _ [.fr ta, .fr tb, .fr (.lst (il (pads a))), .no] _ _ _
  refine wc_mapE (enc := T.int) (fm := fun p => .bl (decide (p ∈ pads a))) (pads b) (fun p _ => ?_) ?_
  · exact ⟨[.fr ta, .fr tb, .fr (.lst (il (pads a))), .fr (.int p)], rfl, we_ev2.mpr (we_var.mpr ⟨_, rfl, we_var.mpr ⟨_, rfl, _, in_lst, rfl, rfl⟩⟩)⟩
  · exact ⟨_, any_map, q⟩
theorem in_dct {p : Int} {l : List (Int × Int)} : opIn (.int p) (.dct (dctI l)) = some (.bl (decide (p ∈ l.map (·.1)))) := by
  show (if keyT (.int p) = true then some (T.bl (memT (.int p) (keysOf (dctI l)))) else none) = _
  rw [keys_dctI, mem_il]; rfl
theorem ix_dctI {st : Store} {p : Int} {l : List (Int × Int)} {n : Int} (h : l.lookup p = some n) : opIx st (.dct (dctI l)) (.int p) = some (.int n) := by
  show (if keyT (.int p) = true then dget (.int p) (dctI l) else none) = _
  rw [dget_dctI, h]; rfl
theorem wants_fold {fk fv : T → T} {f : Fig} (hk : ∀ r ∈ f, fk (tRw r) = .int (r.headD 0)) (hv : ∀ r ∈ f, fv (tRw r) = .int (r.getD 1 0)) : (tRs f).foldl (fun a x => dput (fk x) (fv x) a) [] = dctI (wants f) := by
  have gen : ∀ (f : Fig) (l : List (Int × Int)), (∀ r ∈ f, fk (tRw r) = .int (r.headD 0)) → (∀ r ∈ f, fv (tRw r) = .int (r.getD 1 0)) → (tRs f).foldl (fun a x => dput (fk x) (fv x) a) (dctI l) = dctI (f.foldl (fun l r => putI (r.headD 0) (r.getD 1 0) l) l) := by
    intro f
    induction f with
    | nil => intro l _ _; rfl
    | cons r f ih =>
      intro l h1 h2
      show (tRs f).foldl (fun a x => dput (fk x) (fv x) a) (dput (fk (tRw r)) (fv (tRw r)) (dctI l)) = _
      rw [h1 r List.mem_cons_self, h2 r List.mem_cons_self, dput_dctI, ih _ (fun x hx => h1 x (List.mem_cons_of_mem _ hx)) fun x hx => h2 x (List.mem_cons_of_mem _ hx)]
      rfl
  exact gen f [] hk hv
def at0 : T → T
  | .tup (x :: _) => x
  | _ => .non
def at1 : T → T
  | .tup (_ :: x :: _) => x
  | _ => .non
theorem bar1 {ta tb : T} {a b : Fig} (ha : FigOf ta a) (hb : FigOf tb b) (h3 : Rows3 a) (h4 : Rows3 b) (hl : a.length ≤ 100000) (hm : b.length ≤ 100000) (q : Q (.bl (barB a b)) st) : WNX F_bar [ta, tb] st Q E := by
  refine wn_go rfl ?_
  show WSX S_bar [.fr ta, .fr tb, .no, .no, .no, .no] st _ _
  unfold S_bar
  refine ws_seq.mpr (ws_asgN.mpr (we_dcomp (we_itSeq.mpr (we_var.mpr ⟨ta, rfl, .inl ⟨tRs a, ha, by rw [List.length_map]; exact hl, dctI (wants a), st, ?_, fun _ => ?_, fun z => absurd rfl z⟩⟩))))
  · rw [← wants_fold (fk := at0) (fv := at1) (f := a)]
    · refine compD_all (fk := at0) (fv := at1) (tRs a) [] fun x hx => ?_
      obtain ⟨r, hr, rfl⟩ := List.mem_map.mp hx
      obtain ⟨p, n, d, rfl⟩ := len3 (h3 r hr)
      exact ⟨[.fr ta, .fr tb, .no, .fr (.int p), .fr (.int n), .fr (.int d)], rfl, rfl, rfl, rfl⟩
    · intro r hr; obtain ⟨p, n, d, rfl⟩ := len3 (h3 r hr); rfl
    · intro r hr; obtain ⟨p, n, d, rfl⟩ := len3 (h3 r hr); rfl
  show WSX _ [.fr ta, .fr tb, .fr (.dct (dctI (wants a))), .no, .no, .no] st _ _
  refine ws_ret.mpr (we_ev1.mpr (we_comp1.mpr (we_itSeq.mpr (we_var.mpr ⟨tb, rfl, .inl ⟨tRs b, hb, by rw [List.length_map]; exact hm, ?_⟩⟩))))
  show WC _ _ _ [.fr ta, .fr tb, .fr (.dct (dctI (wants a))), .no, .no, .no] _ _ _
  refine wc_mapE (enc := tRw) (fm := fun r => .bl (match (wants a).lookup (r.headD 0) with | some n => !decide (n = r.getD 1 0) | none => false)) b (fun r hr => ?_) ⟨_, any_map, q⟩
  obtain ⟨p, n, d, rfl⟩ := len3 (h4 r hr)
  refine ⟨[.fr ta, .fr tb, .fr (.dct (dctI (wants a))), .fr (.int p), .fr (.int n), .fr (.int d)], rfl, ?_⟩
  refine we_andV.mpr (we_ev2.mpr (we_var.mpr ⟨_, rfl, we_var.mpr ⟨_, rfl, _, in_dct, _, rfl, ?_⟩⟩))
  show (_ → WEX _ _ _ (fun t s => t = T.bl (match (wants a).lookup p with | some m => !decide (m = n) | none => false) ∧ s = st) _) ∧ (_ → (T.bl false = T.bl (match (wants a).lookup p with | some m => !decide (m = n) | none => false) ∧ st = st))
  have hs := lookup_mem1 (p := p) (l := wants a)
  cases hlk : (wants a).lookup p with
  | none =>
    rw [hlk] at hs
    rw [← hs]
    exact ⟨fun z => Bool.noConfusion z, fun _ => ⟨rfl, rfl⟩⟩
  | some m =>
    rw [hlk] at hs
    rw [← hs]
    refine ⟨fun _ => ?_, fun z => Bool.noConfusion z⟩
    exact we_ev2.mpr (we_ev2S.mpr (we_var.mpr ⟨_, rfl, we_var.mpr ⟨_, rfl, _, ix_dctI hlk, we_var.mpr ⟨_, rfl, _, ne_int, rfl, rfl⟩⟩⟩))
/-! ### no two that meet; the book -/
def meetsB (a b : Fig) : Bool := shareB a b && !barB a b
def meetDue (fs : List Fig) : Option (Int × Int) := firstS (fun i a => firstS (fun j b => if meetsB a b = true then some ((i : Int), (j : Int)) else none) (i + 1) (fs.drop (i + 1))) 0 fs
structure Small (fs : List Fig) : Prop where
  n : fs.length ≤ 100000
  m : ∀ f ∈ fs, f.length ≤ 100000
theorem need_barred1 {tg : T} {ts : List T} {fs : List Fig} (hg : SeqOf tg ts) (hf : FigsOf ts fs) (h3 : ∀ f ∈ fs, Rows3 f) (hs : Small fs) (q : meetDue fs = none → Q .non st) (x : ∀ i j, meetDue fs = some (i, j) → E "Meeting" [.int j, .int i, .str "Meeting"] st) : WNX F_need_barred [tg] st Q E := by
  refine wn_go rfl ?_
  show WSX S_need_barred [.fr tg, .no, .no] st _ _
  unfold S_need_barred
  have hn := hs.n
  refine ws_for.mpr (we_itRng1.mpr (we_ev1S.mpr (we_var.mpr ⟨_, rfl, _, seqLen hg, _, rfl, ⟨by rw [hf.len]; omega, by omega⟩, ?_⟩)))
  rw [hf.len, Int.toNat_natCast]
  refine (ws_forFirst (f := fun i a => firstS (fun j b => if meetsB a b = true then some ((i : Int), (j : Int)) else none) (i + 1) (fs.drop (i + 1))) (fun _ e => ∃ a b, e = [.fr tg, a, b]) (fun _ _ _ => False) (fun b c vs s => c = "Meeting" ∧ vs = [.int b.2, .int b.1, .str "Meeting"] ∧ s = st) (rangeL 0 fs.length) fs 0 _ ⟨_, _, rfl⟩ len_rangeL ?_).mono ?_ ?_
  · rintro i a u env hi hu ⟨v, w, rfl⟩
    have hu := rangeL_getI hu
    subst hu
    have hil : i < fs.length := (List.getElem?_eq_some_iff.mp hi).1
    refine ⟨[.fr tg, .fr (.int (0 + i)), w], rfl, ?_⟩
    simp only [Nat.zero_add, Int.zero_add]
    refine ws_for.mpr (we_itRng2.mpr (we_ev2.mpr (we_var.mpr ⟨_, rfl, we_con.mpr ⟨_, rfl, we_ev1S.mpr (we_var.mpr ⟨_, rfl, _, seqLen hg, _, _, rfl, rfl, ⟨⟨by rw [hf.len]; omega, by omega⟩, by omega, by omega⟩, ?_⟩)⟩⟩)))
    rw [hf.len]
    have e1 : ((fs.length : Int) - ((i : Int) + 1)).toNat = fs.length - (i + 1) := by omega
    rw [e1]
    refine (ws_forFirst (f := fun j b => if meetsB a b = true then some ((i : Int), (j : Int)) else none) (fun _ e => ∃ b, e = [.fr tg, .fr (.int i), b]) (fun _ _ _ => False) (fun b c vs s => c = "Meeting" ∧ vs = [.int b.2, .int b.1, .str "Meeting"] ∧ s = st) (rangeL ((i : Int) + 1) (fs.length - (i + 1))) (fs.drop (i + 1)) (i + 1) _ ⟨_, rfl⟩ (by rw [len_rangeL, List.length_drop]) ?_).mono ?_ ?_
    · rintro j b u env hj hu ⟨w, rfl⟩
      have hu := rangeL_getI hu
      subst hu
      rw [List.getElem?_drop] at hj
      have hjl : i + 1 + j < fs.length := (List.getElem?_eq_some_iff.mp hj).1
      obtain ⟨ta, hta, ha⟩ := hf.get hi
      obtain ⟨tb, htb, hb⟩ := hf.get hj
      have ma : a ∈ fs := List.mem_of_getElem? hi
      have mb : b ∈ fs := List.mem_of_getElem? hj
      have ej : ((i + 1 + j : Nat) : Int) = (i : Int) + 1 + j := by omega
      refine ⟨[.fr tg, .fr (.int i), .fr (.int ((i : Int) + 1 + j))], rfl, ?_⟩
      have xa : opIx st tg (.int i) = some ta := seqIx hg (by omega) (by rw [Int.toNat_natCast]; exact hta)
      have xb : opIx st tg (.int ((i : Int) + 1 + j)) = some tb := seqIx hg (by omega) (by rw [← ej, Int.toNat_natCast]; exact htb)
      refine ws_if.mpr (we_andB.mpr (we_testV.mpr (we_callP.mpr (we_cons.mpr (we_ev2S.mpr (we_var.mpr ⟨_, rfl, we_var.mpr ⟨_, rfl, _, xa, we_cons.mpr (we_ev2S.mpr (we_var.mpr ⟨_, rfl, we_var.mpr ⟨_, rfl, _, xb, we_nil.mpr ?_⟩⟩))⟩⟩))))))
      refine share1 ha hb (h3 a ma) (h3 b mb) (hs.m a ma) (hs.m b mb) ⟨_, rfl, fun h => ?_, fun h => ?_⟩
      · refine we_notT.mpr (we_testV.mpr (we_callP.mpr (we_cons.mpr (we_ev2S.mpr (we_var.mpr ⟨_, rfl, we_var.mpr ⟨_, rfl, _, xa, we_cons.mpr (we_ev2S.mpr (we_var.mpr ⟨_, rfl, we_var.mpr ⟨_, rfl, _, xb, we_nil.mpr ?_⟩⟩))⟩⟩)))))
        refine bar1 ha hb (h3 a ma) (h3 b mb) (hs.m a ma) (hs.m b mb) ⟨_, rfl, fun h2 => ?_, fun h2 => ?_⟩
        · have hm : meetsB a b = true := by unfold meetsB; rw [h, h2]; rfl
          repeat fold_depth
          refine ⟨rfl, ((i : Int), ((i + 1 + j : Nat) : Int)), if_pos hm, rfl, ?_, rfl⟩
          rw [ej]; rfl
        · have hm : ¬ meetsB a b = true := by unfold meetsB; rw [h, h2]; decide
          exact ws_nx.mpr (.inl ⟨rfl, if_neg hm, ⟨_, rfl⟩, rfl⟩)
      · have hm : ¬ meetsB a b = true := by unfold meetsB; simp [h]
        refine ⟨fun z => Bool.noConfusion z, fun _ => ws_nx.mpr (.inl ⟨rfl, if_neg hm, ⟨_, rfl⟩, rfl⟩)⟩
    · rintro fl e s (⟨rfl, h1, ⟨b, rfl⟩, rfl⟩ | ⟨_, _, _, _, z⟩)
      · exact .inl ⟨rfl, h1, ⟨_, _, rfl⟩, rfl⟩
      · exact z.elim
    · rintro c vs s ⟨b, h1, h2⟩
      exact ⟨b, h1, h2⟩
  · rintro fl e s (⟨rfl, h1, _, rfl⟩ | ⟨_, _, _, _, z⟩)
    · exact q h1
    · exact z.elim
  · rintro c vs s ⟨b, h1, rfl, rfl, rfl⟩
    exact x b.1 b.2 h1
/-- what is refused of a book: the word, its values -/
def bookDue (cs : List Int) (fs : List Fig) : Option (Str × List Int) := match colDue cs with
  | some i => some ("BadColours", [i])
  | none => match figsDue cs fs with
    | some (w, i) => some (w, [i])
    | none => (meetDue fs).map fun p => ("Meeting", [p.1, p.2])
theorem figB_rows {cs : List Int} {f : Fig} (h : figB cs f = true) : Rows3 f := by
  intro r hr
  unfold figB at h
  rw [Bool.and_eq_true] at h
  have h1 : figBad cs f = none := by simpa using h.1
  obtain ⟨j, hj⟩ := List.mem_iff_getElem?.mp hr
  have := firstS_none h1 j r hj
  by_cases ht : tripB cs (leastAt f (0 + j)) r = true
  · exact tripB_len ht
  · rw [if_neg ht] at this; cases this
theorem figsDue_none {cs : List Int} {fs : List Fig} (h : figsDue cs fs = none) : fs.length ≤ 12 ∧ ∀ f ∈ fs, figB cs f = true := by
  unfold figsDue at h
  by_cases hl : 12 < fs.length
  · rw [if_pos hl] at h; cases h
  · rw [if_neg hl] at h
    refine ⟨by omega, fun f hf => ?_⟩
    obtain ⟨j, hj⟩ := List.mem_iff_getElem?.mp hf
    have := firstS_none h j f hj
    by_cases ht : figB cs f = true
    · exact ht
    · rw [if_neg ht] at this; cases this
/-- a book's value -/
def tBook (cs : List Int) (fs : List Fig) : T := .ins "Book" ["hues", "shapes"] [.tup (il cs), .tup (fs.map tFig)]
theorem figsOf_tFig (fs : List Fig) : FigsOf (fs.map tFig) fs := by
  refine ⟨List.length_map .., fun i t f h1 h2 => ?_⟩
  rw [List.getElem?_map, h2] at h1
  cases h1
  exact .inr rfl
theorem tup_of {t : T} {xs : List T} {st : Store} (h : SeqOf t xs) : tupleT st t = some (.tup xs) := by rcases h with rfl | rfl <;> rfl
theorem wc_mapI {g : Tg} {e : EvT} {fm : Nat → T} {env : En} {st : Store} : ∀ (xs : List T) (i : Nat) {Q : List T → Store → Prop},
    (∀ j x, xs[j]? = some x → ∃ e', Tg.put g x env = some e' ∧ WE e e' st fun t s => t = fm (i + j) ∧ s = st) → Q ((List.range' i xs.length).map fm) st → WC g tYes e env xs st Q
  | [], _, Q, _, q => wc_nil.mpr q
  | x :: xs, i, Q, h, q => by
    obtain ⟨e', h1, h2⟩ := h 0 x rfl
    refine wc_cons.mpr ⟨e', h1, we_pure.mpr ⟨fun _ => ?_, fun z => Bool.noConfusion z⟩⟩
    refine h2.imp ?_
    rintro t s ⟨rfl, rfl⟩
    refine wc_mapI (fm := fm) xs (i + 1) (fun j y hy => ?_) ?_
    · have e3 : i + 1 + j = i + (j + 1) := by omega
      rw [e3]
      exact h (j + 1) y (by simpa using hy)
    · exact q
theorem range_figs (fs : List Fig) : (List.range' 0 fs.length).map (fun i => tFig (fs.getD i [])) = fs.map tFig := by
  apply List.ext_getElem?
  intro i
  rw [List.getElem?_map, List.getElem?_map]
  by_cases h : i < fs.length
  · rw [List.getElem?_range' (by omega), List.getElem?_eq_getElem h]
    simp [List.getD_eq_getElem?_getD, h]
  · rw [List.getElem?_eq_none (by simp; omega), List.getElem?_eq_none (by omega)]
    rfl
theorem book_init1 {G : Genv} {tc tg : T} {cs : List Int} {ts : List T} {fs : List Fig} {n : Nat} (hG : G.fld.lookup ("Book" : Str) = some [("hues" : Str), ("shapes" : Str)]) (hc : SeqOf tc (il cs)) (hg : SeqOf tg ts) (hf : FigsOf ts fs) (hm : ∀ f ∈ fs, f.length ≤ 100000) (hn : st[n]? = some (.ins "Book" [] []))
    (q : bookDue cs fs = none → Q .non (st.set n (.ins "Book" ["hues", "shapes"] [⟨false, .tup (il cs)⟩, ⟨false, .tup (fs.map tFig)⟩])))
    (x : ∀ w is s, bookDue cs fs = some (w, is) → (∃ c, s = st.set n c) → E w (il is.reverse ++ [.str w]) s) : WNX (F_Book_init G) [.obj n, tc, tg] st Q E := by
  have hnl : n < st.length := (List.getElem?_eq_some_iff.mp hn).1
  have hself : st.set n (.ins "Book" [] []) = st := by
    apply List.ext_getElem?
    intro i
    by_cases h : n = i
    · subst h; rw [List.getElem?_set_self hnl, hn]
    · rw [List.getElem?_set_ne h]
  refine wn_go rfl ?_
  show WSX (S_Book_init G) [.fr (.obj n), .fr tc, .fr tg, .no, .no] st _ _
  unfold S_Book_init
  refine ws_seq.mpr (ws_expr.mpr (we_callP.mpr (we_cons.mpr (we_var.mpr ⟨_, rfl, we_nil.mpr ?_⟩))))
  refine need_colours1 hc (fun h1 => ⟨fun _ => ?_, fun z => absurd rfl z⟩) (fun i h1 => x "BadColours" [i] st (by unfold bookDue; rw [h1]) ⟨_, hself.symm⟩)
  refine ws_seq.mpr (ws_expr.mpr (we_callP.mpr (we_cons.mpr (we_var.mpr ⟨_, rfl, we_cons.mpr (we_var.mpr ⟨_, rfl, we_nil.mpr ?_⟩)⟩))))
  refine need_figures1 hc hg hf (fun h2 => ⟨fun _ => ?_, fun z => absurd rfl z⟩) (fun w i h2 => x w [i] st (by unfold bookDue; rw [h1, h2]) ⟨_, hself.symm⟩)
  obtain ⟨hl, hall⟩ := figsDue_none h2
  have set1 : setFldG G "hues" st (.tup (il cs)) (.obj n) = some (st.set n (.ins "Book" ["hues"] [⟨false, .tup (il cs)⟩])) := by
    unfold setFldG clsOf setFld
    simp only [hn, hG]
    rfl
  have hn2 : (st.set n (.ins "Book" ["hues"] [⟨false, .tup (il cs)⟩]))[n]? = some (.ins "Book" ["hues"] [⟨false, .tup (il cs)⟩]) := List.getElem?_set_self hnl
  have set2 : setFldG G "shapes" (st.set n (.ins "Book" ["hues"] [⟨false, .tup (il cs)⟩])) (.tup (fs.map tFig)) (.obj n) = some (st.set n (.ins "Book" ["hues", "shapes"] [⟨false, .tup (il cs)⟩, ⟨false, .tup (fs.map tFig)⟩])) := by
    unfold setFldG clsOf setFld
    simp only [hn2, hG]
    show some ((st.set n _).set n _) = _
    rw [List.set_set]
    rfl
  refine ws_seq.mpr (ws_fldS.mpr (we_ev1S.mpr (we_var.mpr ⟨_, rfl, _, tup_of hc, we_var.mpr ⟨_, rfl, _, set1, fun _ => ?_, fun z => absurd rfl z⟩⟩)))
  have hn3 : (st.set n (.ins "Book" ["hues", "shapes"] [⟨false, .tup (il cs)⟩, ⟨false, .tup (fs.map tFig)⟩]))[n]? = some (.ins "Book" ["hues", "shapes"] [⟨false, .tup (il cs)⟩, ⟨false, .tup (fs.map tFig)⟩]) := List.getElem?_set_self hnl
  refine ws_seq.mpr (ws_fldS.mpr (we_ev1S.mpr (we_comp1.mpr (we_itSeq.mpr (we_var.mpr ⟨_, rfl, .inl ⟨ts, hg, by rw [hf.len]; omega, ?_⟩⟩)))))
  show WC _ _ _ [.fr (.obj n), .fr tc, .fr tg, .no, .no] _ _ _
  refine wc_mapI (fm := fun i => tFig (fs.getD i [])) ts 0 (fun j t ht => ?_) ?_
  · have hj : j < fs.length := by rw [← hf.len]; exact (List.getElem?_eq_some_iff.mp ht).1
    have hff := hf.at_ j t _ ht (List.getElem?_eq_getElem hj)
    have hmf : fs[j] ∈ fs := List.getElem_mem hj
    refine ⟨[.fr (.obj n), .fr tc, .fr tg, .fr t, .no], rfl, we_ev1S.mpr (we_comp1.mpr (we_itSeq.mpr (we_var.mpr ⟨_, rfl, .inl ⟨_, hff, by rw [List.length_map]; exact hm _ hmf, ?_⟩⟩)))⟩
    show WC _ _ _ [.fr (.obj n), .fr tc, .fr tg, .fr t, .no] _ _ _
    refine wc_mapE (enc := tRw) (fm := tRw) fs[j] (fun r hr => ?_) ⟨_, rfl, ?_, rfl⟩
    · exact ⟨[.fr (.obj n), .fr tc, .fr tg, .fr t, .fr (tRw r)], rfl, we_ev1S.mpr (we_var.mpr ⟨_, rfl, _, rfl, rfl, rfl⟩)⟩
    · show T.tup (fs[j].map tRw) = tFig (fs.getD (0 + j) [])
      rw [Nat.zero_add, List.getD_eq_getElem?_getD, List.getElem?_eq_getElem hj]
      rfl
  · rw [hf.len, range_figs]
    refine ⟨_, rfl, we_var.mpr ⟨_, rfl, _, set2, fun _ => ?_, fun z => absurd rfl z⟩⟩
    have fld : fldG G "shapes" (st.set n (.ins "Book" ["hues", "shapes"] [⟨false, .tup (il cs)⟩, ⟨false, .tup (fs.map tFig)⟩])) (.obj n) = some (.tup (fs.map tFig)) := by
      unfold fldG clsOf
      simp only [hn3, hG]
      rw [if_pos (by decide +kernel)]
      unfold fldT
      simp only [hn3]
      rfl
    refine ws_expr.mpr (we_callP.mpr (we_cons.mpr (we_ev1S.mpr (we_var.mpr ⟨_, rfl, _, fld, we_nil.mpr ?_⟩))))
    refine need_barred1 (.inr rfl) (figsOf_tFig fs) (fun f hf => figB_rows (hall f hf)) ⟨by omega, hm⟩ (fun h4 => ?_) fun i j h4 => ?_
    · exact q (by unfold bookDue; rw [h1, h2, h4]; rfl)
    · exact x "Meeting" [i, j] _ (by unfold bookDue; rw [h1, h2, h4]; rfl) ⟨_, rfl⟩
theorem new_book1 {G : Genv} {tc tg : T} {cs : List Int} {ts : List T} {fs : List Fig} (hG : G.fld.lookup ("Book" : Str) = some [("hues" : Str), ("shapes" : Str)]) (hc : SeqOf tc (il cs)) (hg : SeqOf tg ts) (hf : FigsOf ts fs) (hm : ∀ f ∈ fs, f.length ≤ 100000)
    (q : bookDue cs fs = none → Q (tBook cs fs) (st ++ [.no])) (x : ∀ w is c, bookDue cs fs = some (w, is) → E w (il is.reverse ++ [.str w]) (st ++ [c])) : WNX (newI "Book" (F_Book_init G)) [tc, tg] st Q E := by
  have hn : (st ++ [Cell.ins "Book" [] []])[st.length]? = some (.ins "Book" [] []) := by simp
  have hset : ∀ c d : Cell, (st ++ [c]).set st.length d = st ++ [d] := fun c d => by
    rw [List.set_append_right _ _ (Nat.le_refl _)]; simp
  refine wn_newI (book_init1 hG hc hg hf hm hn (fun h => ⟨rfl, ["hues", "shapes"], [⟨false, .tup (il cs)⟩, ⟨false, .tup (fs.map tFig)⟩], ?_, rfl, ?_⟩) fun w is s h hs => ?_)
  · rw [hset]; simp
  · rw [hset, hset]; exact q h
  · obtain ⟨c, rfl⟩ := hs
    rw [hset]; exact x w is c h
end
end Mp


set_option Elab.async false
set_option linter.all false
set_option maxRecDepth 100000
set_option maxHeartbeats 1000000
/-! Bl: books, by the laws. -/
namespace Mp
open PySem
/-- one step of a text, forwards -/
local macro_rules | `(tactic| fold_depth) => `(tactic| first
  | (with_reducible first
    | refine ws_seq.mpr ?_ | refine ws_if.mpr ?_ | refine ws_ret.mpr ?_ | refine ws_asgN.mpr ?_ | refine ws_asg.mpr ?_ | refine ws_ix.mpr ?_ | refine ws_nx.mpr ?_ | refine ws_par.mpr ?_ | refine ws_for.mpr ?_ | refine ws_shr.mpr ?_ | refine ws_aug.mpr ?_ | refine ws_upd.mpr ?_ | refine ws_own.mpr ?_ | refine ws_frz.mpr ?_ | refine ws_fl.mpr ?_ | refine ws_expr.mpr ?_ | refine ws_raise.mpr ?_
    | refine we_ev2.mpr ?_ | refine we_ev2S.mpr ?_ | refine we_ev3S.mpr ?_ | refine we_ev1S.mpr ?_ | refine we_ev1.mpr ?_ | refine we_con.mpr ?_ | refine we_testV.mpr ?_
    | refine we_callP.mpr ?_ | refine we_cons.mpr ?_ | refine we_nil.mpr ?_ | refine we_evN.mpr ?_ | refine we_andB.mpr ?_ | refine we_orB.mpr ?_ | refine we_notT.mpr ?_ | refine we_andV.mpr ?_ | refine we_notV.mpr ?_ | refine we_orV.mpr ?_ | refine we_ite.mpr ?_ | refine we_chain.mpr ?_
    | refine we_bind.mpr ?_ | refine we_pure.mpr ?_ | refine we_part.mpr ?_ | refine we_itRng1.mpr ?_ | refine we_itRng2.mpr ?_ | refine we_itSeq.mpr ?_ | refine we_comp1.mpr ?_ | refine we_itEnum.mpr ?_ | refine we_peek.mpr ?_ | refine we_ownV.mpr ?_ | refine we_var.mpr ?_
    | refine ⟨_, len_tup, ?_⟩ | refine ⟨_, len_lst, ?_⟩ | refine ⟨_, neN, ?_⟩ | refine ⟨_, eqI, ?_⟩ | refine ⟨_, eqB, ?_⟩ | refine ⟨_, eq_int, ?_⟩ | refine ⟨_, ne_int, ?_⟩ | refine ⟨_, eq_tup, ?_⟩ | refine ⟨_, eq_lst, ?_⟩ | refine ⟨_, ne_tup, ?_⟩ | refine ⟨_, ne_lst, ?_⟩)
  | refine ⟨fun (_ : Fl.nx = Fl.nx) => ?_, fun (z : Fl.nx ≠ Fl.nx) => absurd rfl z⟩ | refine ⟨fun (z : Fl.ret _ = Fl.nx) => Fl.noConfusion z, fun _ => ?_⟩ | refine fun (_ : Fl.ret _ ≠ Fl.nx) => ?_
  | refine ⟨fun (_ : true = true) => ?_, fun (z : true = false) => Bool.noConfusion z⟩ | refine ⟨fun (z : false = true) => Bool.noConfusion z, fun (_ : false = false) => ?_⟩
  | (fail_if_success (with_reducible refine isCut ?_)
     fail_if_success (with_reducible refine isMul ?_)
     fail_if_success (with_reducible refine isDiv ?_)
     first | refine ⟨.bl true, rfl, ?_⟩ | refine ⟨.bl false, rfl, ?_⟩ | refine ⟨true, rfl, ?_⟩ | refine ⟨false, rfl, ?_⟩ | refine ⟨_, rfl, ?_⟩))

def S_hues : EvS := sRet (comp1 [2] (itRng1 (ev2 opAdd (con (.int 1)) (callP F_pull [var 0, var 1]))) (.name 2) tYes (callP F_of [var 0, evN mkLst [con (.int 2), con (.int 3), con (.int 2), con (.int 4), con (.int 1)]]))
def F_hues : FnD := runFn 2 3 S_hues
def S_shape : EvS := sSeq (sOwn 2 (evN mkLst [])) (sSeq (sFor (itRng1 (ev1S lenT (var 1))) (.name 3) (sIf (testV (ev2 opLt (callP F_pull [var 0, con (.int 5)]) (con (.int 2)))) (sUpd 2 (evL [evN mkTup [var 3, callP F_pull [var 0, ev2S opIx (var 1) (var 3)], callP F_of [var 0, evN mkLst [con (.int 1), con (.int 1), con (.int 2), con (.int 1), con (.int 3)]]]]) opApp) (sNx))) (sSeq (sIf (testV (ev2 opEq (peek 2) (evN mkLst []))) (sSeq (sAsg (.name 3) (callP F_pull [var 0, ev1S lenT (var 1)])) (sUpd 2 (evL [evN mkTup [var 3, callP F_pull [var 0, ev2S opIx (var 1) (var 3)], ev2 opAdd (con (.int 1)) (callP F_pull [var 0, con (.int 3)])]]) opApp)) (sNx)) (sRet (ev1S tupleT (peek 2)))))
def F_shape : FnD := runFn 2 4 S_shape
def S_bars : EvS := sSeq (sAsg (.name 2) (ev1 dictT (comp1 [4, 5, 6] (itSeq (var 0)) (.tup [(.name 4), (.name 5), (.name 6)]) tYes (evN mkTup [var 4, var 5])))) (sSeq (sAsg (.name 3) (comp1 [4, 5, 6] (itSeq (var 1)) (.tup [(.name 4), (.name 5), (.name 6)]) (testV (ev2 opIn (var 4) (var 2))) (evN mkTup [var 4, var 5]))) (sRet (orV (ev2 opEq (var 3) (evN mkLst [])) (ev1 anyT (comp1 [4, 5] (itSeq (var 3)) (.tup [(.name 4), (.name 5)]) tYes (ev2 opNe (ev2S opIx (var 2) (var 4)) (var 5)))))))
def F_bars : FnD := runFn 2 7 S_bars
def S_shapes : EvS := sSeq (sOwn 3 (evN mkLst [])) (sSeq (sFor (itRng1 (var 2)) (.name 4) (sSeq (sAsg (.name 5) (callP F_shape [var 0, var 1])) (sIf (testV (ev1 allT (comp1 [6] (itSeq (peek 3)) (.name 6) tYes (callP F_bars [var 5, var 6])))) (sUpd 3 (evL [var 5]) opApp) (sNx)))) (sRet (ownV 3)))
def F_shapes : FnD := runFn 3 7 S_shapes
def S_shape_well : EvS := sSeq (sAsg (.name 2) (ev1 opNeg (con (.int 1)))) (sSeq (sFor (itSeq (var 1)) (.name 3) (sSeq (sIf (orB (testV (ev2 opNe (ev1S lenT (var 3)) (con (.int 3)))) (Mp.notT (testV (chain opLt opLt (var 2) (ev2S opIx (var 3) (con (.int 0))) (ev1S lenT (var 0)))))) (sRet (con (.bl false))) (sNx)) (sSeq (sAsg (.name 2) (ev2S opIx (var 3) (con (.int 0)))) (sIf (orB (Mp.notT (testV (chain opLe opLt (con (.int 0)) (ev2S opIx (var 3) (con (.int 1))) (ev2S opIx (var 0) (var 2))))) (Mp.notT (testV (chain opLt opLt (con (.int 0)) (ev2S opIx (var 3) (con (.int 2))) (con (.int 4)))))) (sRet (con (.bl false))) (sNx))))) (sRet (ev2 opGt (ev1S lenT (var 1)) (con (.int 0)))))
def F_shape_well : FnD := runFn 2 4 S_shape_well
def S_book_due : EvS := sSeq (sIf (Mp.notT (testV (chain opLt opLt (con (.int 0)) (ev1S lenT (var 0)) (con (.int 7))))) (sRet (evN mkTup [con (.str "BadColours"), ev1 opNeg (con (.int 1))])) (sNx)) (sSeq (sFor (itRng1 (ev1S lenT (var 0))) (.name 2) (sIf (Mp.notT (testV (chain opLt opLt (con (.int 0)) (ev2S opIx (var 0) (var 2)) (con (.int 5))))) (sRet (evN mkTup [con (.str "BadColours"), var 2])) (sNx))) (sSeq (sIf (testV (ev2 opGt (ev1S lenT (var 1)) (con (.int 12)))) (sRet (evN mkTup [con (.str "TooMany"), con (.int 12)])) (sNx)) (sSeq (sFor (itRng1 (ev1S lenT (var 1))) (.name 2) (sIf (Mp.notT (testV (callP F_shape_well [var 0, ev2S opIx (var 1) (var 2)]))) (sRet (evN mkTup [con (.str "BadFigure"), var 2])) (sNx))) (sSeq (sFor (itRng1 (ev1S lenT (var 1))) (.name 3) (sFor (itRng2 (ev2 opAdd (var 3) (con (.int 1))) (ev1S lenT (var 1))) (.name 4) (sIf (Mp.notT (testV (callP F_bars [ev2S opIx (var 1) (var 3), ev2S opIx (var 1) (var 4)]))) (sRet (evN mkTup [con (.str "Meeting"), var 3, var 4])) (sNx)))) (sRet (con .non))))))
def F_book_due : FnD := runFn 2 5 S_book_due
def S_strange : EvS := sRet (callP F_of [var 0, evN mkLst [ev1 opNeg (con (.int 1)), var 1, ev2 opAdd (ev2 opAdd (var 1) (con (.int 1))) (callP F_far [var 0]), ev2 opSub (ev1 opNeg (con (.int 2))) (callP F_far [var 0])]])
def F_strange : FnD := runFn 2 2 S_strange
def S_bent_shape : EvS := sSeq (sAsg (.name 3) (callP F_pull [var 0, ev1S lenT (var 2)])) (sSeq (sAsg (.tup [(.name 4), (.name 5), (.name 6)]) (ev2S opIx (var 2) (var 3))) (sSeq (sAsg (.name 7) (evN mkLst [evN mkTup [callP F_strange [var 0, ev1S lenT (var 1)], var 5, var 6], evN mkTup [var 4, callP F_strange [var 0, ev2S opIx (var 1) (var 4)], var 6]])) (sSeq (sAsg (.name 7) (ev2 opAdd (var 7) (evN mkLst [evN mkTup [var 4, var 5, callP F_of [var 0, evN mkLst [con (.int 0), con (.int 4), ev1 opNeg (con (.int 1)), con (.int 3)]]], evN mkTup [var 4, var 5], evN mkTup [var 4, var 5, var 6, con (.int 1)], evN mkTup [], ev2S opIx (var 2) (con (.int 0))]))) (sSeq (sAsg (.name 8) (comp1 [9] (itSeq (var 7)) (.name 9) tYes (ev2 opAdd (ev2 opAdd (ev3S opCut (var 2) (con .non) (Ev.bind (var 3) asPart)) (evN mkTup [var 9])) (ev3S opCut (var 2) (Ev.bind (ev2 opAdd (var 3) (con (.int 1))) asPart) (con .non))))) (sRet (callP F_of [var 0, ev2 opAdd (var 8) (evN mkLst [ev1S opRev (var 2), ev2 opAdd (var 2) (ev3S opCut (var 2) (Ev.bind (ev1 opNeg (con (.int 1))) asPart) (con .non)), evN mkTup []])]))))))
def F_bent_shape : FnD := runFn 3 10 S_bent_shape
section
variable {st : Store} {Q : T → Store → Prop} {E : Str → List T → Store → Prop}
theorem trip_law {cs : List Int} {l p n d : Int} (h0 : 0 ≤ l) : tripB cs l [p, n, d] = (decide (l - 1 < p ∧ p < cs.length) && (decide (0 ≤ n ∧ n < cs.getD p.toNat 0) && decide (0 < d ∧ d < 4))) := by
  show (decide (l ≤ p ∧ p < cs.length) && (decide (0 ≤ n ∧ n < cs.getD p.toNat 0) && decide (1 ≤ d ∧ d ≤ 3))) = _
  have e1 : decide (l ≤ p ∧ p < cs.length) = decide (l - 1 < p ∧ p < cs.length) := by rw [decide_eq_decide]; omega
  have e2 : decide (1 ≤ d ∧ d ≤ 3) = decide (0 < d ∧ d < 4) := by rw [decide_eq_decide]; omega
  rw [e1, e2]
theorem we_chainD {env : En} {op op' : T → T → Option T} {f g h : EvT} {x y w : T} {a b : Prop} [Decidable a] [Decidable b] {Q : T → Store → Prop} (hf : WE f env st fun t s => t = x ∧ s = st) (hg : WE g env st fun t s => t = y ∧ s = st) (h1 : op x y = some (.bl (decide a))) (hh : a → WE h env st fun t s => t = w ∧ s = st) (h2 : a → op' y w = some (.bl (decide b))) (q : Q (.bl (decide (a ∧ b))) st) :
    WEX (chain op op' f g h) env st Q E := by
  refine we_chain.mpr (hf.imp fun t s ⟨e1, e2⟩ => ?_)
  subst e1 e2
  refine hg.imp fun t s ⟨e1, e2⟩ => ?_
  subst e1 e2
  refine ⟨_, h1, _, rfl, fun ha => ?_, fun ha => ?_⟩
  · have ha := of_decide_eq_true ha
    refine (hh ha).imp fun t s ⟨e1, e2⟩ => ?_
    subst e1 e2
    have e : decide (a ∧ b) = decide b := by simp [ha]
    rw [e] at q
    exact ⟨_, h2 ha, q⟩
  · have ha := of_decide_eq_false ha
    have e : decide (a ∧ b) = false := decide_eq_false fun z => ha z.1
    rw [e] at q
    exact q
theorem e_v {env : En} {i : Nat} {t : T} (h : env[i]? = some (.fr t)) : WE (var i) env st fun u s => u = t ∧ s = st := we_var.mpr ⟨t, h, rfl, rfl⟩
theorem e_c {env : En} {t : T} : WE (con t) env st fun u s => u = t ∧ s = st := we_con.mpr ⟨rfl, rfl⟩
theorem e_ix {env : En} {f g : EvT} {x y z : T} (hf : WE f env st fun u s => u = x ∧ s = st) (hg : WE g env st fun u s => u = y ∧ s = st) (e : opIx st x y = some z) : WE (ev2S opIx f g) env st fun u s => u = z ∧ s = st := by
  refine we_ev2S.mpr (hf.imp fun t s ⟨e1, e2⟩ => ?_)
  subst e1 e2
  refine hg.imp fun t s ⟨e1, e2⟩ => ?_
  subst e1 e2
  exact ⟨z, e, rfl, rfl⟩
theorem e_len {env : En} {f : EvT} {x : T} {n : Int} (hf : WE f env st fun u s => u = x ∧ s = st) (e : lenT st x = some (.int n)) : WE (ev1S lenT f) env st fun u s => u = .int n ∧ s = st := by
  refine we_ev1S.mpr (hf.imp fun t s ⟨e1, e2⟩ => ?_)
  subst e1 e2
  exact ⟨_, e, rfl, rfl⟩
theorem shape_well1 {tc tf : T} {cs : List Int} {f : Fig} (hc : SeqOf tc (il cs)) (hf : FigOf tf f) (q : Q (.bl (figB cs f)) st) : WNX F_shape_well [tc, tf] st Q E := by
  refine wn_go rfl ?_
  show WSX S_shape_well [.fr tc, .fr tf, .no, .no] st _ _
  unfold S_shape_well
  refine ws_seq.mpr (ws_asgN.mpr (we_ev1.mpr (we_con.mpr ⟨_, rfl, fun _ => ?_, fun z => absurd rfl z⟩)))
  show WSX _ [.fr tc, .fr tf, .fr (.int (-1)), .no] st _ _
  have hlen : (tRs f).length = f.length := List.length_map ..
  have hcl : lenT st tc = some (.int cs.length) := by rw [seqLen hc, il_len]
  refine ws_seq.mpr (ws_for.mpr (we_itSeq.mpr (we_var.mpr ⟨tf, rfl, .inl ⟨tRs f, hf, ?_⟩⟩)))
  refine (ws_forFirst (f := fun j r => if tripB cs (leastAt f j) r = true then none else some ()) (fun j e => (∀ i r, i < j → f[i]? = some r → tripB cs (leastAt f i) r = true) ∧ ∃ a, e = [.fr tc, .fr tf, .fr (.int (leastAt f j - 1)), a]) (fun _ t s => t = .bl false ∧ s = st) (fun _ _ _ _ => False) (tRs f) f 0 _ ⟨fun i r h => absurd h (Nat.not_lt_zero i), _, rfl⟩ hlen ?_).mono ?_ ?_
  · rintro j r u env hj hu ⟨hall, a, rfl⟩
    obtain ⟨r', hr', rfl⟩ := rs_get hu
    rw [hj] at hr'
    cases hr'
    rw [Nat.zero_add] at *
    have hjl : j < f.length := (List.getElem?_eq_some_iff.mp hj).1
    have h0 := leastAt_nn hall (by omega)
    refine ⟨[.fr tc, .fr tf, .fr (.int (leastAt f j - 1)), .fr (tRw r)], rfl, ?_⟩
    refine ws_seq.mpr (ws_if.mpr (we_orB.mpr (we_testV.mpr (we_ev2.mpr (we_ev1S.mpr (we_var.mpr ⟨_, rfl, _, len_tup (xs := r), we_con.mpr ⟨_, ne_int, _, rfl, dec_splitN (fun h => ?_) (fun h => ?_)⟩⟩))))))
    · have h' : r.length ≠ 3 := fun z => h (by omega)
      have ht := tripB_ne (cs := cs) (least := leastAt f j) h'
      repeat fold_depth
      exact .inr ⟨_, (), rfl, by rw [ht]; rfl, rfl, rfl⟩
    · obtain ⟨p, n, d, rfl⟩ := len3 (r := r) (by omega)
      have e3 := trip_law (cs := cs) (l := leastAt f j) (p := p) (n := n) (d := d) h0
      refine we_notT.mpr (we_testV.mpr (we_chainD (x := .int (leastAt f j - 1)) (y := .int p) (w := .int cs.length) (a := leastAt f j - 1 < p) (b := p < cs.length) (e_v rfl) (e_ix (e_v rfl) e_c (ixT_ok (by decide) rfl)) rfl (fun _ => e_len (e_v rfl) hcl) (fun _ => rfl) ⟨_, rfl, ?_⟩))
      by_cases h1 : leastAt f j - 1 < p ∧ p < cs.length
      · rw [decide_eq_true h1]
        rw [decide_eq_true h1, Bool.true_and] at e3
        refine ⟨fun z => Bool.noConfusion z, fun _ => ws_nx.mpr ⟨fun _ => ?_, fun z => absurd rfl z⟩⟩
        refine ws_seq.mpr (ws_asgN.mpr (we_ev2S.mpr (we_var.mpr ⟨_, rfl, we_con.mpr ⟨.int p, ixT_ok (by decide) rfl, fun _ => ?_, fun z => absurd rfl z⟩⟩)))
        show WSX _ [.fr tc, .fr tf, .fr (.int p), .fr (tRw [p, n, d])] st _ _
        have hp : (il cs)[p.toNat]? = some (.int (cs.getD p.toNat 0)) := il_getD (by omega)
        have bad : tripB cs (leastAt f j) [p, n, d] = false → WSX (sRet (con (.bl false))) [.fr tc, .fr tf, .fr (.int p), .fr (tRw [p, n, d])] st (fun fl e s => (fl = .nx ∧ (if tripB cs (leastAt f j) [p, n, d] = true then none else some ()) = none ∧ ((∀ i r, i < j + 1 → f[i]? = some r → tripB cs (leastAt f i) r = true) ∧ ∃ a, e = [.fr tc, .fr tf, .fr (.int (leastAt f (j + 1) - 1)), a]) ∧ s = st) ∨ ∃ t b, fl = .ret t ∧ (if tripB cs (leastAt f j) [p, n, d] = true then none else some ()) = some b ∧ t = .bl false ∧ s = st) (fun c vs s => ∃ b, (if tripB cs (leastAt f j) [p, n, d] = true then none else some ()) = some b ∧ False) := fun z => by
          repeat fold_depth
          exact .inr ⟨_, (), rfl, by rw [z]; rfl, rfl, rfl⟩
        refine ws_if.mpr (we_orB.mpr (we_notT.mpr (we_testV.mpr (we_chainD (x := .int 0) (y := .int n) (w := .int (cs.getD p.toNat 0)) (a := 0 ≤ n) (b := n < cs.getD p.toNat 0) e_c (e_ix (e_v rfl) e_c (ixT_ok (by decide) rfl)) rfl (fun _ => e_ix (e_v rfl) (e_v rfl) (seqIx hc (by omega) hp)) (fun _ => rfl) ⟨_, rfl, ?_⟩))))
        by_cases h2 : 0 ≤ n ∧ n < cs.getD p.toNat 0
        · rw [decide_eq_true h2]
          rw [decide_eq_true h2, Bool.true_and] at e3
          refine ⟨fun z => Bool.noConfusion z, fun _ => ?_⟩
          refine we_notT.mpr (we_testV.mpr (we_chainD (x := .int 0) (y := .int d) (w := .int 4) (a := 0 < d) (b := d < 4) e_c (e_ix (e_v rfl) e_c (ixT_ok (by decide) rfl)) rfl (fun _ => e_c) (fun _ => rfl) ⟨_, rfl, ?_⟩))
          by_cases h3 : 0 < d ∧ d < 4
          · rw [decide_eq_true h3]
            rw [decide_eq_true h3] at e3
            refine ⟨fun z => Bool.noConfusion z, fun _ => ws_nx.mpr (.inl ⟨rfl, by rw [e3]; rfl, ⟨fun i r hi hr => ?_, .fr (tRw [p, n, d]), ?_⟩, rfl⟩)⟩
            · rcases Nat.lt_succ_iff_lt_or_eq.mp hi with h | rfl
              · exact hall i r h hr
              · rw [hj] at hr; cases hr; exact e3
            · have e : leastAt f (j + 1) - 1 = p := by
                show (f.getD j []).headD 0 + 1 - 1 = _
                rw [List.getD_eq_getElem?_getD, hj]
                show p + 1 - 1 = p
                omega
              rw [e]
          · rw [decide_eq_false h3]
            rw [decide_eq_false h3] at e3
            exact ⟨fun _ => bad e3, fun z => Bool.noConfusion z⟩
        · rw [decide_eq_false h2]
          rw [decide_eq_false h2, Bool.false_and] at e3
          exact ⟨fun _ => ⟨fun _ => bad e3, fun z => Bool.noConfusion z⟩, fun z => Bool.noConfusion z⟩
      · rw [decide_eq_false h1]
        rw [decide_eq_false h1, Bool.false_and] at e3
        refine ⟨fun _ => ?_, fun z => Bool.noConfusion z⟩
        repeat fold_depth
        exact .inr ⟨_, (), rfl, by rw [e3]; rfl, rfl, rfl⟩
  · rintro fl e s (⟨rfl, h1, ⟨_, a, rfl⟩, rfl⟩ | ⟨t, b, rfl, h1, rfl, rfl⟩)
    · refine ⟨fun _ => ?_, fun z => absurd rfl z⟩
      refine ws_ret.mpr (we_ev2.mpr (we_ev1S.mpr (we_var.mpr ⟨_, rfl, _, seqLen hf, we_con.mpr ⟨_, rfl, ?_⟩⟩)))
      rw [hlen]
      have e : figB cs f = decide (0 < f.length) := by unfold figB figBad; rw [h1]; rfl
      rw [e] at q
      have e2 : decide ((0 : Int) < (f.length : Int)) = decide (0 < f.length) := by
        rw [decide_eq_decide]; omega
      rw [e2]; exact q
    · refine ⟨fun z => Fl.noConfusion z, fun _ => ?_⟩
      have e : figB cs f = false := by unfold figB figBad; rw [h1]; rfl
      rw [e] at q; exact q
  · rintro c vs s ⟨_, _, z⟩
    exact z.elim
/-! ### bars, the first refusal due -/
def lawB (a b : Fig) : Bool := !meetsB a b
theorem okd_rs {f : Fig} {n : Nat} : ∀ x ∈ tRs f, T.okd (n + 2) x = true := fun x hx => by
  obtain ⟨r, _, rfl⟩ := List.mem_map.mp hx
  exact okd_tup fun y hy => okd_il hy
theorem eq_nil {xs : List T} (h : ∀ x ∈ xs, T.okd 11 x = true) : opEq (.lst xs) (.lst []) = some (.bl xs.isEmpty) := by
  unfold opEq T.eq?
  have h1 : T.okd 12 (.lst xs) = true := okd_lst h
  have h2 : T.okd 12 (.lst []) = true := rfl
  rw [h1, h2]
  cases xs <;> rfl
def pnT (r : List Int) : T := .tup [.int (r.headD 0), .int (r.getD 1 0)]
theorem pairs_pr : ∀ f : Fig, pairs? (f.map pnT) = some (f.map pnT)
  | [] => rfl
  | r :: f => by
    show (pairs? (f.map pnT)).map (pnT r :: ·) = _
    rw [pairs_pr f]; rfl
theorem keys_pr : ∀ f : Fig, keysOf (f.map pnT) = il (pads f)
  | [] => rfl
  | r :: f => by
    show T.int (r.headD 0) :: keysOf (f.map pnT) = _
    rw [keys_pr f]; rfl
theorem putAll_pr (f : Fig) : putAll [] (f.map pnT) = dctI (wants f) := by
  have gen : ∀ (f : Fig) (l : List (Int × Int)), putAll (dctI l) (f.map pnT) = dctI (f.foldl (fun l r => putI (r.headD 0) (r.getD 1 0) l) l) := by
    intro f
    induction f with
    | nil => intro l; rfl
    | cons r f ih =>
      intro l
      show putAll (dput (.int (r.headD 0)) (.int (r.getD 1 0)) (dctI l)) (f.map pnT) = _
      rw [dput_dctI, ih]; rfl
  exact gen f []
theorem dict_pr {f : Fig} (hl : f.length ≤ 100000) : dictT (.lst (f.map pnT)) = some (.dct (dctI (wants f))) := by
  unfold dictT
  simp only [pairs_pr]
  show (if ((keysOf (f.map pnT)).all keyT && decide ((f.map pnT).length ≤ 100000)) = true then some (T.dct (putAll [] (f.map pnT))) else none) = _
  have e1 : (keysOf (f.map pnT)).all keyT = true := by
    rw [keys_pr]
    refine List.all_eq_true.mpr fun x hx => ?_
    obtain ⟨i, _, rfl⟩ := List.mem_map.mp hx
    rfl
  rw [e1, putAll_pr, if_pos (by rw [List.length_map, decide_eq_true hl]; rfl)]
/-- another note is wanted -/
def offB (a : Fig) (r : List Int) : Bool := match (wants a).lookup (r.headD 0) with
  | some n => !decide (n = r.getD 1 0)
  | none => false
theorem any_filt {α : Type} {pr : α → Bool} : ∀ {b : List α}, b.any pr = !(b.filter pr).isEmpty
  | [] => rfl
  | r :: b => by
    rw [List.any_cons, List.filter_cons, any_filt (b := b)]
    cases pr r <;> simp
theorem lawB_eq (a b : Fig) : lawB a b = ((b.filter fun r => decide (r.headD 0 ∈ pads a)).isEmpty || (b.filter fun r => decide (r.headD 0 ∈ pads a)).any (offB a)) := by
  have h1 : ∀ r, decide (r.headD 0 ∈ pads a) = false → offB a r = false := fun r h => by
    have hs := lookup_mem1 (p := r.headD 0) (l := wants a)
    have : (wants a).lookup (r.headD 0) = none := by
      rw [decide_eq_false (fun z => of_decide_eq_false h (wants_keys.mp z))] at hs
      simpa using hs
    unfold offB
    rw [this]
  have e1 : shareB a b = !(b.filter fun r => decide (r.headD 0 ∈ pads a)).isEmpty := by
    rw [← any_filt]
    show (b.map (·.headD 0)).any _ = _
    rw [List.any_map]
    rfl
  have e2 : barB a b = (b.filter fun r => decide (r.headD 0 ∈ pads a)).any (offB a) := by
    show b.any (offB a) = _
    clear e1
    induction b with
    | nil => rfl
    | cons r b ih =>
      rw [List.any_cons, List.filter_cons, ih]
      cases h : decide (r.headD 0 ∈ pads a) with
      | true => rw [if_pos rfl, List.any_cons]
      | false => rw [h1 r h, if_neg (by decide)]; rfl
  unfold lawB meetsB
  rw [e1, e2]
  cases (b.filter fun r => decide (r.headD 0 ∈ pads a)).isEmpty <;> cases (b.filter fun r => decide (r.headD 0 ∈ pads a)).any (offB a) <;> rfl
theorem bars1 {ta tb : T} {a b : Fig} (ha : FigOf ta a) (hb : FigOf tb b) (h3 : Rows3 a) (h4 : Rows3 b) (hl : a.length ≤ 100000) (hm : b.length ≤ 100000) (q : Q (.bl (lawB a b)) st) : WNX F_bars [ta, tb] st Q E := by
  refine wn_go rfl ?_
  show WSX S_bars [.fr ta, .fr tb, .no, .no, .no, .no, .no] st _ _
  unfold S_bars
  refine ws_seq.mpr (ws_asgN.mpr (we_ev1.mpr (we_comp1.mpr (we_itSeq.mpr (we_var.mpr ⟨ta, rfl, .inl ⟨tRs a, ha, by rw [List.length_map]; exact hl, ?_⟩⟩)))))
  show WC _ _ _ [.fr ta, .fr tb, .no, .no, .no, .no, .no] _ _ _
  refine wc_mapE (enc := tRw) (fm := pnT) a (fun r hr => ?_) ⟨_, dict_pr hl, fun _ => ?_, fun z => absurd rfl z⟩
  · obtain ⟨p, n, d, rfl⟩ := len3 (h3 r hr)
    exact ⟨[.fr ta, .fr tb, .no, .no, .fr (.int p), .fr (.int n), .fr (.int d)], rfl, we_evN.mpr (we_cons.mpr (we_var.mpr ⟨_, rfl, we_cons.mpr (we_var.mpr ⟨_, rfl, we_nil.mpr ⟨_, rfl, rfl, rfl⟩⟩)⟩))⟩
  show WSX _ [.fr ta, .fr tb, .fr (.dct (dctI (wants a))), .no, .no, .no, .no] st _ _
  refine ws_seq.mpr (ws_asgN.mpr (we_comp1.mpr (we_itSeq.mpr (we_var.mpr ⟨tb, rfl, .inl ⟨tRs b, hb, by rw [List.length_map]; exact hm, ?_⟩⟩))))
  show WC _ _ _ [.fr ta, .fr tb, .fr (.dct (dctI (wants a))), .no, .no, .no, .no] _ _ _
  have hw : ∀ p : Int, decide (p ∈ (wants a).map (·.1)) = decide (p ∈ pads a) := fun p => by rw [decide_eq_decide]; exact wants_keys
  refine wc_filtE (enc := tRw) (fm := pnT) (pr := fun r => decide (r.headD 0 ∈ pads a)) b (fun r hr => ?_) ⟨fun _ => ?_, fun z => absurd rfl z⟩
  · obtain ⟨p, n, d, rfl⟩ := len3 (h4 r hr)
    refine ⟨[.fr ta, .fr tb, .fr (.dct (dctI (wants a))), .no, .fr (.int p), .fr (.int n), .fr (.int d)], rfl, we_testV.mpr (we_ev2.mpr (we_var.mpr ⟨_, rfl, we_var.mpr ⟨_, rfl, _, in_dct, _, rfl, hw p, rfl⟩⟩)), fun _ => ?_⟩
    exact we_evN.mpr (we_cons.mpr (we_var.mpr ⟨_, rfl, we_cons.mpr (we_var.mpr ⟨_, rfl, we_nil.mpr ⟨_, rfl, rfl, rfl⟩⟩)⟩))
  have hlen : (b.filter fun r => decide (r.headD 0 ∈ pads a)).length ≤ 100000 := Nat.le_trans (List.length_filter_le ..) hm
  have hmem : ∀ r ∈ b.filter (fun r => decide (r.headD 0 ∈ pads a)), r.length = 3 ∧ r.headD 0 ∈ pads a := fun r hr => by
    rw [List.mem_filter] at hr
    exact ⟨h4 r hr.1, of_decide_eq_true hr.2⟩
  have e := lawB_eq a b
  generalize b.filter (fun r => decide (r.headD 0 ∈ pads a)) = cm at hlen hmem e
  show WSX _ [.fr ta, .fr tb, .fr (.dct (dctI (wants a))), .fr (.lst (cm.map pnT)), .no, .no, .no] st _ _
  refine ws_ret.mpr (we_orV.mpr (we_ev2.mpr (we_var.mpr ⟨_, rfl, we_evN.mpr (we_nil.mpr ⟨_, rfl, _, eq_nil (fun x hx => ?_), _, rfl, fun h => ?_, fun h => ?_⟩)⟩)))
  · obtain ⟨r, _, rfl⟩ := List.mem_map.mp hx
    rfl
  · have h : cm.isEmpty = true := by simpa using h
    rw [e, h] at q
    exact q
  · have h : cm.isEmpty = false := by simpa using h
    rw [e, h, Bool.false_or] at q
    refine we_ev1.mpr (we_comp1.mpr (we_itSeq.mpr (we_var.mpr ⟨_, rfl, .inl ⟨_, .inl rfl, by rw [List.length_map]; exact hlen, ?_⟩⟩)))
    show WC _ _ _ [.fr ta, .fr tb, .fr (.dct (dctI (wants a))), .fr (.lst (cm.map pnT)), .no, .no, .no] _ _ _
    refine wc_mapE (enc := pnT) (fm := fun r => .bl (offB a r)) cm (fun r hr => ?_) ⟨_, any_map, q⟩
    obtain ⟨l3, hp⟩ := hmem r hr
    obtain ⟨p, n, d, rfl⟩ := len3 l3
    have hp : p ∈ pads a := hp
    refine ⟨[.fr ta, .fr tb, .fr (.dct (dctI (wants a))), .fr (.lst (cm.map pnT)), .fr (.int p), .fr (.int n), .no], rfl, ?_⟩
    have hs := lookup_mem1 (p := p) (l := wants a)
    rw [decide_eq_true (wants_keys.mpr hp)] at hs
    obtain ⟨m, hlk⟩ := Option.isSome_iff_exists.mp hs
    refine we_ev2.mpr (we_ev2S.mpr (we_var.mpr ⟨_, rfl, we_var.mpr ⟨_, rfl, _, ix_dctI hlk, we_var.mpr ⟨_, rfl, _, ne_int, ?_, rfl⟩⟩⟩))
    show T.bl _ = T.bl (match (wants a).lookup p with | some m => !decide (m = n) | none => false)
    rw [hlk]
def dueT : Option (Str × List Int) → T
  | none => .non
  | some (w, is) => .tup (.str w :: il is)
theorem book_due1 {tc tg : T} {cs : List Int} {ts : List T} {fs : List Fig} (hc : SeqOf tc (il cs)) (hg : SeqOf tg ts) (hf : FigsOf ts fs) (hm : ∀ f ∈ fs, f.length ≤ 100000) (hn : fs.length ≤ 100000) (q : Q (dueT (bookDue cs fs)) st) : WNX F_book_due [tc, tg] st Q E := by
  refine wn_go rfl ?_
  show WSX S_book_due [.fr tc, .fr tg, .no, .no, .no] st _ _
  unfold S_book_due
  have hcl : lenT st tc = some (.int cs.length) := by rw [seqLen hc, il_len]
  have hgl : lenT st tg = some (.int fs.length) := by rw [seqLen hg, hf.len]
  refine ws_seq.mpr (ws_if.mpr (we_notT.mpr (we_testV.mpr (we_chainD (x := .int 0) (y := .int cs.length) (w := .int 7) (a := (0 : Int) < cs.length) (b := (cs.length : Int) < 7) e_c (e_len (e_v rfl) hcl) rfl (fun _ => e_c) (fun _ => rfl) ⟨_, rfl, ?_⟩))))
  by_cases h0 : 0 < cs.length ∧ cs.length < 7
  rotate_left
  · rw [decide_eq_false (by omega)]
    refine ⟨fun _ => ?_, fun z => Bool.noConfusion z⟩
    have e : bookDue cs fs = some (("BadColours" : Str), [-1]) := by unfold bookDue colDue; rw [if_neg h0]
    rw [e] at q
    repeat fold_depth
    exact q
  rw [decide_eq_true (by omega)]
  refine ⟨fun z => Bool.noConfusion z, fun _ => ws_nx.mpr ⟨fun _ => ?_, fun z => absurd rfl z⟩⟩
  refine ws_seq.mpr (ws_for.mpr (we_itRng1.mpr (we_ev1S.mpr (we_var.mpr ⟨_, rfl, _, hcl, _, rfl, ⟨by omega, by omega⟩, ?_⟩))))
  rw [Int.toNat_natCast]
  refine (ws_forFirst (f := fun i c => if 0 < c ∧ c < 5 then none else some (i : Int)) (fun _ e => ∃ a, e = [.fr tc, .fr tg, a, .no, .no]) (fun b t s => t = .tup [.str "BadColours", .int b] ∧ s = st) (fun _ _ _ _ => False) (rangeL 0 cs.length) cs 0 _ ⟨_, rfl⟩ len_rangeL ?_).mono ?_ ?_
  · rintro j c u env hj hu ⟨a, rfl⟩
    have hu := rangeL_getI hu
    subst hu
    have hjl : j < cs.length := (List.getElem?_eq_some_iff.mp hj).1
    have hx : (il cs)[((0 : Int) + j).toNat]? = some (.int c) := by
      have : ((0 : Int) + j).toNat = j := by omega
      rw [this, List.getElem?_map, hj]; rfl
    refine ⟨[.fr tc, .fr tg, .fr (.int (0 + j)), .no, .no], rfl, ?_⟩
    refine ws_if.mpr (we_notT.mpr (we_testV.mpr (we_chainD (x := .int 0) (y := .int c) (w := .int 5) (a := 0 < c) (b := c < 5) e_c (e_ix (e_v rfl) (e_v rfl) (seqIx hc (by omega) hx)) rfl (fun _ => e_c) (fun _ => rfl) ⟨_, rfl, ?_⟩)))
    by_cases hcc : 0 < c ∧ c < 5
    · rw [decide_eq_true hcc]
      exact ⟨fun z => Bool.noConfusion z, fun _ => ws_nx.mpr (.inl ⟨rfl, if_pos hcc, ⟨_, rfl⟩, rfl⟩)⟩
    · rw [decide_eq_false hcc]
      refine ⟨fun _ => ?_, fun z => Bool.noConfusion z⟩
      repeat fold_depth
      exact .inr ⟨_, _, rfl, if_neg hcc, by simp, rfl⟩
  rotate_left
  · rintro c vs s ⟨_, _, z⟩
    exact z.elim
  rintro fl e s (⟨rfl, h1, ⟨a, rfl⟩, hs⟩ | ⟨t, b, rfl, h1, rfl, hs⟩) <;> subst s
  rotate_left
  · refine ⟨fun z => Fl.noConfusion z, fun _ => ?_⟩
    have e : bookDue cs fs = some (("BadColours" : Str), [b]) := by unfold bookDue colDue; rw [if_pos h0, h1]
    rw [e] at q
    exact q
  refine ⟨fun _ => ?_, fun z => absurd rfl z⟩
  have ec : colDue cs = none := by unfold colDue; rw [if_pos h0]; exact h1
  refine ws_seq.mpr (ws_if.mpr (we_testV.mpr (we_ev2.mpr (we_ev1S.mpr (we_var.mpr ⟨_, rfl, _, hgl, we_con.mpr ⟨_, rfl, _, rfl, dec_split (fun h2 => ?_) (fun h2 => ?_)⟩⟩)))))
  · have e : bookDue cs fs = some (("TooMany" : Str), [12]) := by unfold bookDue figsDue; rw [ec, if_pos (by omega)]
    rw [e] at q
    repeat fold_depth
    exact q
  refine ws_nx.mpr ⟨fun _ => ?_, fun z => absurd rfl z⟩
  refine ws_seq.mpr (ws_for.mpr (we_itRng1.mpr (we_ev1S.mpr (we_var.mpr ⟨_, rfl, _, hgl, _, rfl, ⟨by omega, by omega⟩, ?_⟩))))
  rw [Int.toNat_natCast]
  refine (ws_forFirst (f := fun i f => if figB cs f = true then none else some (("BadFigure" : Str), (i : Int))) (fun _ e => ∃ a, e = [.fr tc, .fr tg, a, .no, .no]) (fun b t s => t = .tup [.str b.1, .int b.2] ∧ s = st) (fun _ _ _ _ => False) (rangeL 0 fs.length) fs 0 _ ⟨_, rfl⟩ len_rangeL ?_).mono ?_ ?_
  · rintro j f u env hj hu ⟨a, rfl⟩
    have hu := rangeL_getI hu
    subst hu
    obtain ⟨t, ht, hft⟩ := hf.get hj
    have hx : ts[((0 : Int) + j).toNat]? = some t := by
      have : ((0 : Int) + j).toNat = j := by omega
      rw [this]; exact ht
    refine ⟨[.fr tc, .fr tg, .fr (.int (0 + j)), .no, .no], rfl, ?_⟩
    refine ws_if.mpr (we_notT.mpr (we_testV.mpr (we_callP.mpr (we_cons.mpr (we_var.mpr ⟨_, rfl, we_cons.mpr (we_ev2S.mpr (we_var.mpr ⟨_, rfl, we_var.mpr ⟨_, rfl, _, seqIx hg (by omega) hx, we_nil.mpr ?_⟩⟩))⟩)))))
    refine shape_well1 hc hft ⟨_, rfl, ?_⟩
    cases hb : figB cs f with
    | true => exact ⟨fun z => Bool.noConfusion z, fun _ => ws_nx.mpr (.inl ⟨rfl, rfl, ⟨_, rfl⟩, rfl⟩)⟩
    | false =>
      refine ⟨fun _ => ?_, fun z => Bool.noConfusion z⟩
      repeat fold_depth
      exact .inr ⟨_, ("BadFigure", ((0 + j : Nat) : Int)), rfl, by simp, by simp, rfl⟩
  rotate_left
  · rintro c vs s ⟨_, _, z⟩
    exact z.elim
  rintro fl e s (⟨rfl, h3, ⟨a2, rfl⟩, hs⟩ | ⟨t, b, rfl, h3, rfl, hs⟩) <;> subst s
  rotate_left
  · refine ⟨fun z => Fl.noConfusion z, fun _ => ?_⟩
    have e : bookDue cs fs = some (b.1, [b.2]) := by unfold bookDue figsDue; rw [ec, if_neg (by omega), h3]
    rw [e] at q
    exact q
  refine ⟨fun _ => ?_, fun z => absurd rfl z⟩
  have ef : figsDue cs fs = none := by unfold figsDue; rw [if_neg (by omega)]; exact h3
  have hall := (figsDue_none ef).2
  refine ws_seq.mpr (ws_for.mpr (we_itRng1.mpr (we_ev1S.mpr (we_var.mpr ⟨_, rfl, _, hgl, _, rfl, ⟨by omega, by omega⟩, ?_⟩))))
  rw [Int.toNat_natCast]
  refine (ws_forFirst (f := fun i a => firstS (fun j b => if meetsB a b = true then some ((i : Int), (j : Int)) else none) (i + 1) (fs.drop (i + 1))) (fun _ e => ∃ a b, e = [.fr tc, .fr tg, a2, a, b]) (fun b t s => t = .tup [.str "Meeting", .int b.1, .int b.2] ∧ s = st) (fun _ _ _ _ => False) (rangeL 0 fs.length) fs 0 _ ⟨_, _, rfl⟩ len_rangeL ?_).mono ?_ ?_
  · rintro i a u env hi hu ⟨v, w, rfl⟩
    have hu := rangeL_getI hu
    subst hu
    have hil : i < fs.length := (List.getElem?_eq_some_iff.mp hi).1
    refine ⟨[.fr tc, .fr tg, a2, .fr (.int (0 + i)), w], rfl, ?_⟩
    simp only [Nat.zero_add, Int.zero_add]
    refine ws_for.mpr (we_itRng2.mpr (we_ev2.mpr (we_var.mpr ⟨_, rfl, we_con.mpr ⟨_, rfl, we_ev1S.mpr (we_var.mpr ⟨_, rfl, _, hgl, _, _, rfl, rfl, ⟨⟨by omega, by omega⟩, by omega, by omega⟩, ?_⟩)⟩⟩)))
    have e1 : ((fs.length : Int) - ((i : Int) + 1)).toNat = fs.length - (i + 1) := by omega
    rw [e1]
    refine (ws_forFirst (f := fun j b => if meetsB a b = true then some ((i : Int), (j : Int)) else none) (fun _ e => ∃ b, e = [.fr tc, .fr tg, a2, .fr (.int i), b]) (fun b t s => t = .tup [.str "Meeting", .int b.1, .int b.2] ∧ s = st) (fun _ _ _ _ => False) (rangeL ((i : Int) + 1) (fs.length - (i + 1))) (fs.drop (i + 1)) (i + 1) _ ⟨_, rfl⟩ (by rw [len_rangeL, List.length_drop]) ?_).mono ?_ ?_
    · rintro j b u env hj hu ⟨w, rfl⟩
      have hu := rangeL_getI hu
      subst hu
      rw [List.getElem?_drop] at hj
      have hjl : i + 1 + j < fs.length := (List.getElem?_eq_some_iff.mp hj).1
      obtain ⟨ta, hta, ha⟩ := hf.get hi
      obtain ⟨tb, htb, hb⟩ := hf.get hj
      have ma : a ∈ fs := List.mem_of_getElem? hi
      have mb : b ∈ fs := List.mem_of_getElem? hj
      have ej : ((i + 1 + j : Nat) : Int) = (i : Int) + 1 + j := by omega
      refine ⟨[.fr tc, .fr tg, a2, .fr (.int i), .fr (.int ((i : Int) + 1 + j))], rfl, ?_⟩
      have xa : opIx st tg (.int i) = some ta := seqIx hg (by omega) (by rw [Int.toNat_natCast]; exact hta)
      have xb : opIx st tg (.int ((i : Int) + 1 + j)) = some tb := seqIx hg (by omega) (by rw [← ej, Int.toNat_natCast]; exact htb)
      refine ws_if.mpr (we_notT.mpr (we_testV.mpr (we_callP.mpr (we_cons.mpr (we_ev2S.mpr (we_var.mpr ⟨_, rfl, we_var.mpr ⟨_, rfl, _, xa, we_cons.mpr (we_ev2S.mpr (we_var.mpr ⟨_, rfl, we_var.mpr ⟨_, rfl, _, xb, we_nil.mpr ?_⟩⟩))⟩⟩))))))
      refine bars1 ha hb (figB_rows (hall a ma)) (figB_rows (hall b mb)) (hm a ma) (hm b mb) ⟨_, rfl, fun h => ?_, fun h => ?_⟩
      · have hmt : meetsB a b = true := by simpa [lawB] using h
        repeat fold_depth
        refine .inr ⟨_, ((i : Int), ((i + 1 + j : Nat) : Int)), rfl, if_pos hmt, ?_, rfl⟩
        rw [ej]
      · have hmt : meetsB a b = false := by simpa [lawB] using h
        exact ws_nx.mpr (.inl ⟨rfl, by rw [hmt]; rfl, ⟨_, rfl⟩, rfl⟩)
    · rintro fl e s (⟨rfl, h1, ⟨b, rfl⟩, rfl⟩ | ⟨t, b, rfl, h1, h2, rfl⟩)
      · exact .inl ⟨rfl, h1, ⟨_, _, rfl⟩, rfl⟩
      · exact .inr ⟨t, b, rfl, h1, h2, rfl⟩
    · rintro c vs s ⟨_, _, z⟩
      exact z.elim
  · rintro fl e s (⟨rfl, h4, ⟨a, b, rfl⟩, rfl⟩ | ⟨t, b, rfl, h4, rfl, rfl⟩)
    · refine ⟨fun _ => ?_, fun z => absurd rfl z⟩
      have e : bookDue cs fs = none := by unfold bookDue; rw [ec, ef]; show (meetDue fs).map _ = none; unfold meetDue; rw [h4]; rfl
      rw [e] at q
      repeat fold_depth
      exact q
    · refine ⟨fun z => Fl.noConfusion z, fun _ => ?_⟩
      have e : bookDue cs fs = some (("Meeting" : Str), [b.1, b.2]) := by unfold bookDue; rw [ec, ef]; show (meetDue fs).map _ = _; unfold meetDue; rw [h4]; rfl
      rw [e] at q
      exact q
  · rintro c vs s ⟨_, _, z⟩
    exact z.elim
/-! ### drawn books -/
/-- the rows rise -/
def Rise (cs : List Int) (f : Fig) : Prop := ∀ (j : Nat) r, f[j]? = some r → tripB cs (leastAt f j) r = true
theorem firstS_of {α β : Type} {f : Nat → α → Option β} : ∀ {xs : List α} {i : Nat}, (∀ (j : Nat) x, xs[j]? = some x → f (i + j) x = none) → firstS f i xs = none
  | [], _, _ => rfl
  | y :: xs, i, h => by
    have h0 := h 0 y rfl
    rw [Nat.add_zero] at h0
    rw [firstS, h0]
    refine firstS_of fun j x hx => ?_
    have := h (j + 1) x (by simpa using hx)
    have e2 : i + (j + 1) = i + 1 + j := by omega
    rw [e2] at this; exact this
theorem Rise.figB {cs : List Int} {f : Fig} (h : Rise cs f) (hn : f ≠ []) : Mp.figB cs f = true := by
  unfold Mp.figB figBad
  rw [firstS_of fun j x hx => ?_]
  · have : 0 < f.length := List.length_pos_iff.mpr hn
    simp [this]
  · rw [Nat.zero_add, h j x hx]; rfl
theorem rise_of {cs : List Int} {f : Fig} (h : Mp.figB cs f = true) : Rise cs f := by
  intro j r hr
  unfold Mp.figB at h
  rw [Bool.and_eq_true] at h
  have h1 : figBad cs f = none := by simpa using h.1
  have := firstS_none h1 j r hr
  rw [Nat.zero_add] at this
  by_cases ht : tripB cs (leastAt f j) r = true
  · exact ht
  · rw [if_neg ht] at this; cases this
theorem leastAt_app {f : Fig} {r : List Int} {j : Nat} (h : j ≤ f.length) : leastAt (f ++ [r]) j = leastAt f j := by
  cases j with
  | zero => rfl
  | succ j =>
    show ((f ++ [r]).getD j []).headD 0 + 1 = (f.getD j []).headD 0 + 1
    rw [List.getD_eq_getElem?_getD, List.getElem?_append_left (by omega), List.getD_eq_getElem?_getD]
theorem leastAt_snoc {f : Fig} {r : List Int} : leastAt (f ++ [r]) (f ++ [r]).length = r.headD 0 + 1 := by
  rw [List.length_append]
  show ((f ++ [r]).getD f.length []).headD 0 + 1 = _
  rw [List.getD_eq_getElem?_getD, List.getElem?_append_right (Nat.le_refl _)]
  simp
theorem Rise.snoc {cs : List Int} {f : Fig} {r : List Int} (h : Rise cs f) (ht : tripB cs (leastAt f f.length) r = true) : Rise cs (f ++ [r]) := by
  intro j r' hr
  by_cases hj : j < f.length
  · rw [List.getElem?_append_left hj] at hr
    rw [leastAt_app (by omega)]
    exact h j r' hr
  · rw [List.getElem?_append_right (by omega)] at hr
    have : j = f.length := by
      have := (List.getElem?_eq_some_iff.mp hr).1
      simp at this; omega
    subst this
    simp at hr
    subst hr
    rw [leastAt_app (Nat.le_refl _)]
    exact ht
theorem rise_nil {cs : List Int} : Rise cs [] := fun j r h => by cases h
theorem Rise.least {cs : List Int} {f : Fig} (h : Rise cs f) : 0 ≤ leastAt f f.length := leastAt_nn (fun i r _ hr => h i r hr) (Nat.le_refl _)
structure HuesOk (cs : List Int) : Prop where
  pos : 0 < cs.length
  len : cs.length ≤ 7
  col : ∀ c ∈ cs, 0 < c ∧ c < 5
theorem HuesOk.at {cs : List Int} (h : HuesOk cs) {i : Nat} (hi : i < cs.length) : cs[i]? = some (cs.getD i 0) ∧ 0 < cs.getD i 0 ∧ cs.getD i 0 < 5 := by
  have e : cs[i]? = some (cs.getD i 0) := by rw [List.getD_eq_getElem?_getD, List.getElem?_eq_getElem hi]; rfl
  exact ⟨e, h.col _ (List.mem_of_getElem? e)⟩
variable {s0 : Store}
theorem hues1 {n N : Nat} {most : Int} (h : Bg n N s0 st) (hm : 0 < most ∧ most ≤ 6) (hN : N + 20 < 2 ^ 60) (q : ∀ cs s, HuesOk cs → (cs.length : Int) ≤ most → Bg n (N + 10) s0 s → Q (.lst (il cs)) s) : WNX F_hues [.obj n, .int most] st Q E := by
  refine wn_go rfl ?_
  show WSX S_hues [.fr (.obj n), .fr (.int most), .no] st _ _
  unfold S_hues
  refine ws_ret.mpr (we_comp1.mpr (we_itRng1.mpr (we_ev2.mpr (we_con.mpr (we_callP.mpr (we_cons.mpr (we_var.mpr ⟨_, rfl, we_cons.mpr (we_var.mpr ⟨_, rfl, we_nil.mpr ?_⟩)⟩)))))))
  refine pull1 h hm.1 (Int.lt_of_le_of_lt hm.2 (by decide)) (by omega) fun r s1 r0 r1 hb1 => ?_
  refine ⟨_, rfl, _, rfl, ⟨by omega, by omega⟩, by rw [len_rangeL]; omega, ?_⟩
  show WC _ _ _ [.fr (.obj n), .fr (.int most), .no] _ _ _
  refine wc_bag (n := n) (K := 1) (P := fun c => 0 < c ∧ c < 5) hb1 _ (by rw [len_rangeL]; omega) (fun x M s hb hM => ?_) fun cs s2 hl hp hb2 => ?_
  · repeat fold_depth
    refine of1 hb (by decide) (by decide) (by omega) fun t s' ht hb' => ?_
    simp only [List.mem_cons, List.not_mem_nil, or_false] at ht
    rcases ht with rfl | rfl | rfl | rfl | rfl <;> exact ⟨_, rfl, by decide, hb'⟩
  · rw [len_rangeL] at hl hb2
    exact q cs s2 ⟨by omega, by omega, hp⟩ (by omega) (hb2.up (by omega))
theorem app_own {f : Fig} {r : List Int} (h : f.length ≤ 50) : opApp (.lst (tRs f)) [tRw r] = some (.lst (tRs (f ++ [r]))) := by
  have hl : (tRs f).length < 100000 := by rw [List.length_map]; omega
  have e : opApp (.lst (tRs f)) [tRw r] = some (.lst (tRs f ++ [tRw r])) := if_pos hl
  rw [e]
  simp [tRs]
theorem shape1 {n N : Nat} {cs : List Int} (h : Bg n N s0 st) (hc : HuesOk cs) (hN : N + 60 < 2 ^ 60) (q : ∀ f s, Mp.figB cs f = true → f.length ≤ 7 → Bg n (N + 30) s0 s → Q (tFig f) s) : WNX F_shape [.obj n, .lst (il cs)] st Q E := by
  have hpos := hc.pos
  have hlen := hc.len
  refine wn_go rfl ?_
  show WSX S_shape [.fr (.obj n), .fr (.lst (il cs)), .no, .no] st _ _
  unfold S_shape
  refine ws_seq.mpr (ws_own.mpr (we_evN.mpr (we_nil.mpr ⟨_, rfl, _, rfl, fun _ => ?_, fun z => absurd rfl z⟩)))
  show WSX _ [.fr (.obj n), .fr (.lst (il cs)), .own (.lst (tRs [])), .no] st _ _
  refine ws_seq.mpr (ws_for.mpr (we_itRng1.mpr (we_ev1S.mpr (we_var.mpr ⟨_, rfl, _, len_lst, _, rfl, ⟨by omega, by omega⟩, ?_⟩))))
  rw [Int.toNat_natCast]
  have step := ws_forRet (E := E) (g := .name 3) (all := rangeL 0 cs.length) (body := sIf (testV (ev2 opLt (callP F_pull [var 0, con (.int 5)]) (con (.int 2)))) (sUpd 2 (evL [evN mkTup [var 3, callP F_pull [var 0, ev2S opIx (var 1) (var 3)], callP F_of [var 0, evN mkLst [con (.int 1), con (.int 1), con (.int 2), con (.int 1), con (.int 3)]]]]) opApp) (sNx))
    (fun done e s => ∃ f a, e = [.fr (.obj n), .fr (.lst (il cs)), .own (.lst (tRs f)), a] ∧ Rise cs f ∧ leastAt f f.length ≤ done.length ∧ f.length ≤ done.length ∧ Bg n (N + 3 * done.length) s0 s) (fun _ _ => False) ?_ (rangeL 0 cs.length) [] [.fr (.obj n), .fr (.lst (il cs)), .own (.lst (tRs [])), .no] st rfl ⟨[], _, rfl, rise_nil, Int.le_refl 0, Nat.le_refl _, h⟩
  · refine step.impE ?_
    rintro fl e s (⟨rfl, f, a, rfl, h1, h2, h3, h4⟩ | ⟨t, rfl, z⟩)
    rotate_left
    · exact z.elim
    rw [len_rangeL] at h2 h3 h4
    refine ⟨fun _ => ?_, fun z => absurd rfl z⟩
    refine ws_seq.mpr (ws_if.mpr (we_testV.mpr (we_ev2.mpr (we_peek.mpr ⟨_, .inr rfl, we_evN.mpr (we_nil.mpr ⟨_, rfl, _, eq_nil (fun x hx => okd_rs (n := 9) x hx), _, rfl, fun h5 => ?_, fun h5 => ?_⟩)⟩))))
    · have hf : f = [] := by cases f with
        | nil => rfl
        | cons r f => cases h5
      subst hf
      refine ws_seq.mpr (ws_asgN.mpr (we_callP.mpr (we_cons.mpr (we_var.mpr ⟨_, rfl, we_cons.mpr (we_ev1S.mpr (we_var.mpr ⟨_, rfl, _, len_lst, we_nil.mpr ?_⟩))⟩))))
      refine pull1 h4 (by omega) (Int.lt_of_le_of_lt (b := 7) (by omega) (by decide)) (by omega) fun p s1 p0 p1 hb1 => ⟨fun _ => ?_, fun z => absurd rfl z⟩
      show WSX _ [.fr (.obj n), .fr (.lst (il cs)), .own (.lst (tRs [])), .fr (.int p)] s1 _ _
      obtain ⟨e1, c0, c1⟩ := hc.at (i := p.toNat) (by omega)
      refine ws_upd.mpr ⟨rfl, we_cons.mpr (we_evN.mpr (we_cons.mpr (we_var.mpr ⟨_, rfl, we_cons.mpr (we_callP.mpr (we_cons.mpr (we_var.mpr ⟨_, rfl, we_cons.mpr (we_ev2S.mpr (we_var.mpr ⟨_, rfl, we_var.mpr ⟨_, rfl, _, ixL_ok p0 (il_getD (by omega)), we_nil.mpr ?_⟩⟩))⟩)))⟩)))⟩
      refine pull1 hb1 c0 (Int.lt_trans c1 (by decide)) (by omega) fun m s2 m0 m1 hb2 => ?_
      refine we_cons.mpr (we_ev2.mpr (we_con.mpr (we_callP.mpr (we_cons.mpr (we_var.mpr ⟨_, rfl, we_cons.mpr (we_con.mpr (we_nil.mpr ?_))⟩)))))
      refine pull1 hb2 (by decide) (by decide) (by omega) fun d s3 d0 d1 hb3 => ?_
      refine ⟨_, rfl, we_nil.mpr ⟨_, rfl, we_nil.mpr ?_⟩⟩
      refine ⟨[.fr (.obj n), .fr (.lst (il cs)), .own (.lst (tRs [[p, m, 1 + d]])), .fr (.int p)], rfl, fun _ => ?_, fun z => absurd rfl z⟩
      refine ws_ret.mpr (we_ev1S.mpr (we_peek.mpr ⟨_, .inr rfl, _, rfl, ?_⟩))
      refine q [[p, m, 1 + d]] s3 ?_ (by show 1 ≤ 7; decide) (hb3.up (by omega))
      refine Rise.figB (f := [[p, m, 1 + d]]) ?_ (by simp)
      refine (rise_nil (cs := cs)).snoc (r := [p, m, 1 + d]) ?_
      show (decide ((0 : Int) ≤ p ∧ p < cs.length) && (decide (0 ≤ m ∧ m < cs.getD p.toNat 0) && decide (1 ≤ 1 + d ∧ 1 + d ≤ 3))) = true
      rw [decide_eq_true ⟨p0, by omega⟩, decide_eq_true ⟨m0, m1⟩, decide_eq_true ⟨by omega, by omega⟩]; rfl
    · refine ws_nx.mpr ⟨fun _ => ?_, fun z => absurd rfl z⟩
      refine ws_ret.mpr (we_ev1S.mpr (we_peek.mpr ⟨_, .inr rfl, _, rfl, ?_⟩))
      refine q f s (h1.figB ?_) (by omega) (h4.up (by omega))
      rintro rfl
      exact absurd h5 (by decide)
  · rintro x done rest en s hd ⟨f, a, rfl, h1, h2, h3, hb⟩
    obtain ⟨rfl, hdl⟩ := rangeL_at hd
    refine ⟨[.fr (.obj n), .fr (.lst (il cs)), .own (.lst (tRs f)), .fr (.int (0 + done.length))], rfl, ?_⟩
    have hN' : N + 3 * done.length + 3 < 2 ^ 60 := by omega
    have hdl2 : (done ++ [T.int (0 + done.length)]).length = done.length + 1 := by simp
    refine ws_if.mpr (we_testV.mpr (we_ev2.mpr (we_callP.mpr (we_cons.mpr (we_var.mpr ⟨_, rfl, we_cons.mpr (we_con.mpr (we_nil.mpr ?_))⟩)))))
    refine pull1 hb (by decide) (by decide) (by omega) fun r s1 _ _ hb1 => ?_
    refine we_con.mpr ⟨_, rfl, _, rfl, dec_split (fun _ => ?_) (fun _ => ?_)⟩
    · obtain ⟨e1, c0, c1⟩ := hc.at hdl
      have hx : (il cs)[((0 : Int) + done.length).toNat]? = some (.int (cs.getD done.length 0)) := by
        have : ((0 : Int) + done.length).toNat = done.length := by omega
        rw [this]; exact il_getD hdl
      refine ws_upd.mpr ⟨rfl, we_cons.mpr (we_evN.mpr (we_cons.mpr (we_var.mpr ⟨_, rfl, we_cons.mpr (we_callP.mpr (we_cons.mpr (we_var.mpr ⟨_, rfl, we_cons.mpr (we_ev2S.mpr (we_var.mpr ⟨_, rfl, we_var.mpr ⟨_, rfl, _, ixL_ok (by omega) hx, we_nil.mpr ?_⟩⟩))⟩)))⟩)))⟩
      refine pull1 hb1 c0 (Int.lt_trans c1 (by decide)) (by omega) fun m s2 m0 m1 hb2 => ?_
      repeat fold_depth
      refine of1 hb2 (by decide) (by decide) (by omega) fun t s3 ht hb3 => ?_
      have hd : ∃ d : Int, t = .int d ∧ 1 ≤ d ∧ d ≤ 3 := by
        simp only [List.mem_cons, List.not_mem_nil, or_false] at ht
        rcases ht with rfl | rfl | rfl | rfl | rfl <;> exact ⟨_, rfl, by decide, by decide⟩
      obtain ⟨d, rfl, d0, d1⟩ := hd
      refine we_nil.mpr ⟨_, rfl, we_nil.mpr ?_⟩
      have ht : tripB cs (leastAt f f.length) [(0 : Int) + done.length, m, d] = true := by
        show (decide (leastAt f f.length ≤ (0 : Int) + done.length ∧ (0 : Int) + done.length < cs.length) && (decide (0 ≤ m ∧ m < cs.getD ((0 : Int) + done.length).toNat 0) && decide (1 ≤ d ∧ d ≤ 3))) = true
        have : ((0 : Int) + done.length).toNat = done.length := by omega
        rw [this, decide_eq_true ⟨by omega, by omega⟩, decide_eq_true ⟨m0, m1⟩, decide_eq_true ⟨d0, d1⟩]; rfl
      refine ⟨[.fr (.obj n), .fr (.lst (il cs)), .own (.lst (tRs (f ++ [[(0 : Int) + done.length, m, d]]))), .fr (.int (0 + done.length))], ?_, .inl ⟨rfl, f ++ [[(0 : Int) + done.length, m, d]], _, rfl, h1.snoc ht, ?_, ?_, ?_⟩⟩
      · show (opApp (.lst (tRs f)) [tRw [(0 : Int) + done.length, m, d]]).map (fun t' => List.set [Slot.fr (.obj n), .fr (.lst (il cs)), .own (.lst (tRs f)), .fr (.int (0 + done.length))] 2 (Slot.own t')) = _
        rw [app_own (by omega)]
        rfl
      · rw [leastAt_snoc, hdl2]
        show (0 : Int) + done.length + 1 ≤ _
        omega
      · rw [hdl2, List.length_append]
        show f.length + 1 ≤ _
        omega
      · rw [hdl2]; exact hb3.up (by omega)
    · refine ws_nx.mpr (.inl ⟨rfl, f, _, rfl, h1, ?_, ?_, ?_⟩)
      · rw [hdl2]; omega
      · rw [hdl2]; omega
      · rw [hdl2]; exact hb1.up (by omega)
structure ShapesOk (cs : List Int) (fs : List Fig) : Prop where
  fig : ∀ f ∈ fs, Mp.figB cs f = true ∧ f.length ≤ 7
  bar : ∀ (i j : Nat) a b, i < j → fs[i]? = some a → fs[j]? = some b → lawB b a = true
theorem ShapesOk.nil {cs : List Int} : ShapesOk cs [] := ⟨fun f h => (by cases h), fun i j a b _ h => (by cases h)⟩
theorem ShapesOk.snoc {cs : List Int} {fs : List Fig} {f : Fig} (h : ShapesOk cs fs) (h1 : Mp.figB cs f = true ∧ f.length ≤ 7) (h2 : fs.all (fun g => lawB f g) = true) : ShapesOk cs (fs ++ [f]) := by
  refine ⟨fun g hg => ?_, fun i j a b hij ha hb => ?_⟩
  · rcases List.mem_append.mp hg with hg | hg
    · exact h.fig g hg
    · simp at hg; subst hg; exact h1
  · have hj : j < fs.length + 1 := by
      have := (List.getElem?_eq_some_iff.mp hb).1
      simpa using this
    have hi : i < fs.length := by omega
    rw [List.getElem?_append_left hi] at ha
    by_cases hjl : j < fs.length
    · rw [List.getElem?_append_left hjl] at hb
      exact h.bar i j a b hij ha hb
    · rw [List.getElem?_append_right (by omega)] at hb
      have : j = fs.length := by omega
      subst this
      simp at hb
      subst hb
      exact List.all_eq_true.mp h2 a (List.mem_of_getElem? ha)
theorem app_figs {fs : List Fig} {f : Fig} (h : fs.length ≤ 50) : opApp (.lst (fs.map tFig)) [tFig f] = some (.lst ((fs ++ [f]).map tFig)) := by
  have hl : (fs.map tFig).length < 100000 := by rw [List.length_map]; omega
  have e : opApp (.lst (fs.map tFig)) [tFig f] = some (.lst (fs.map tFig ++ [tFig f])) := if_pos hl
  rw [e]
  simp
theorem shapes1 {n N : Nat} {cs : List Int} {most : Int} (h : Bg n N s0 st) (hc : HuesOk cs) (hm : 0 < most ∧ most ≤ 20) (hN : N + 1000 < 2 ^ 60) (q : ∀ fs s, ShapesOk cs fs → fs ≠ [] → (fs.length : Int) ≤ most → Bg n (N + 600) s0 s → Q (.lst (fs.map tFig)) s) : WNX F_shapes [.obj n, .lst (il cs), .int most] st Q E := by
  refine wn_go rfl ?_
  show WSX S_shapes [.fr (.obj n), .fr (.lst (il cs)), .fr (.int most), .no, .no, .no, .no] st _ _
  unfold S_shapes
  refine ws_seq.mpr (ws_own.mpr (we_evN.mpr (we_nil.mpr ⟨_, rfl, _, rfl, fun _ => ?_, fun z => absurd rfl z⟩)))
  show WSX _ [.fr (.obj n), .fr (.lst (il cs)), .fr (.int most), .own (.lst (List.map tFig [])), .no, .no, .no] st _ _
  refine ws_seq.mpr (ws_for.mpr (we_itRng1.mpr (we_var.mpr ⟨_, rfl, _, rfl, ⟨by omega, by omega⟩, ?_⟩)))
  have step := ws_forRet (E := E) (g := .name 4) (all := rangeL 0 most.toNat) (body := sSeq (sAsg (.name 5) (callP F_shape [var 0, var 1])) (sIf (testV (ev1 allT (comp1 [6] (itSeq (peek 3)) (.name 6) tYes (callP F_bars [var 5, var 6])))) (sUpd 3 (evL [var 5]) opApp) (sNx)))
    (fun done e s => ∃ fs a b, e = [.fr (.obj n), .fr (.lst (il cs)), .fr (.int most), .own (.lst (fs.map tFig)), a, b, .no] ∧ ShapesOk cs fs ∧ fs.length ≤ done.length ∧ (done ≠ [] → fs ≠ []) ∧ Bg n (N + 30 * done.length) s0 s) (fun _ _ => False) ?_ (rangeL 0 most.toNat) [] [.fr (.obj n), .fr (.lst (il cs)), .fr (.int most), .own (.lst (List.map tFig [])), .no, .no, .no] st rfl ⟨[], _, _, rfl, ShapesOk.nil, Nat.le_refl _, fun z => absurd rfl z, h⟩
  · refine step.impE ?_
    rintro fl e s (⟨rfl, fs, a, b, rfl, h1, h2, h3, h4⟩ | ⟨t, rfl, z⟩)
    rotate_left
    · exact z.elim
    have hne : rangeL 0 most.toNat ≠ [] := fun z => by
      have := congrArg List.length z
      rw [len_rangeL] at this
      simp at this; omega
    rw [len_rangeL] at h2 h4
    refine ⟨fun _ => ?_, fun z => absurd rfl z⟩
    exact ws_ret.mpr (we_ownV.mpr ⟨_, rfl, q fs s h1 (h3 hne) (by omega) (h4.up (by omega))⟩)
  · rintro x done rest en s hd ⟨fs, a, b, rfl, h1, h2, h3, hb⟩
    obtain ⟨rfl, hdl⟩ := rangeL_at hd
    have hdl2 : (done ++ [T.int (0 + done.length)]).length = done.length + 1 := by simp
    refine ⟨[.fr (.obj n), .fr (.lst (il cs)), .fr (.int most), .own (.lst (fs.map tFig)), .fr (.int (0 + done.length)), b, .no], rfl, ?_⟩
    refine ws_seq.mpr (ws_asgN.mpr (we_callP.mpr (we_cons.mpr (we_var.mpr ⟨_, rfl, we_cons.mpr (we_var.mpr ⟨_, rfl, we_nil.mpr ?_⟩)⟩))))
    refine shape1 hb hc (by omega) fun f s1 f1 f2 hb1 => ⟨fun _ => ?_, fun z => absurd rfl z⟩
    show WSX _ [.fr (.obj n), .fr (.lst (il cs)), .fr (.int most), .own (.lst (fs.map tFig)), .fr (.int (0 + done.length)), .fr (tFig f), .no] s1 _ _
    refine ws_if.mpr (we_testV.mpr (we_ev1.mpr (we_comp1.mpr (we_itSeq.mpr (we_peek.mpr ⟨_, .inr rfl, .inl ⟨_, .inl rfl, by rw [List.length_map]; omega, ?_⟩⟩)))))
    show WC _ _ _ [.fr (.obj n), .fr (.lst (il cs)), .fr (.int most), .own (.lst (fs.map tFig)), .fr (.int (0 + done.length)), .fr (tFig f), .no] _ _ _
    refine wc_mapE (enc := tFig) (fm := fun g => .bl (lawB f g)) fs (fun g hg => ?_) ⟨_, all_map, _, rfl, fun h5 => ?_, fun h5 => ?_⟩
    · obtain ⟨g1, g2⟩ := h1.fig g hg
      refine ⟨[.fr (.obj n), .fr (.lst (il cs)), .fr (.int most), .own (.lst (fs.map tFig)), .fr (.int (0 + done.length)), .fr (tFig f), .fr (tFig g)], rfl, ?_⟩
      refine we_callP.mpr (we_cons.mpr (we_var.mpr ⟨_, rfl, we_cons.mpr (we_var.mpr ⟨_, rfl, we_nil.mpr ?_⟩)⟩))
      exact bars1 (.inr rfl) (.inr rfl) (figB_rows f1) (figB_rows g1) (by omega) (by omega) ⟨rfl, rfl⟩
    · refine ws_upd.mpr ⟨rfl, we_cons.mpr (we_var.mpr ⟨_, rfl, we_nil.mpr ?_⟩)⟩
      refine ⟨[.fr (.obj n), .fr (.lst (il cs)), .fr (.int most), .own (.lst ((fs ++ [f]).map tFig)), .fr (.int (0 + done.length)), .fr (tFig f), .no], ?_, .inl ⟨rfl, fs ++ [f], _, _, rfl, h1.snoc ⟨f1, f2⟩ h5, ?_, fun _ => by simp, ?_⟩⟩
      · show (opApp (.lst (fs.map tFig)) [tFig f]).map (fun t' => List.set [Slot.fr (.obj n), .fr (.lst (il cs)), .fr (.int most), .own (.lst (fs.map tFig)), .fr (.int (0 + done.length)), .fr (tFig f), .no] 3 (Slot.own t')) = _
        rw [app_figs (by omega)]
        rfl
      · rw [hdl2, List.length_append]
        show fs.length + 1 ≤ _
        omega
      · rw [hdl2]; exact hb1.up (by omega)
    · refine ws_nx.mpr (.inl ⟨rfl, fs, _, _, rfl, h1, ?_, ?_, ?_⟩)
      · rw [hdl2]; omega
      · rintro _ rfl
        simp at h5
      · rw [hdl2]; exact hb1.up (by omega)
theorem strange1 {n N : Nat} {m : Int} (h : Bg n N s0 st) (hN : N + 10 < 2 ^ 60) (q : ∀ (i : Int) s, Bg n (N + 3) s0 s → Q (.int i) s) : WNX F_strange [.obj n, .int m] st Q E := by
  refine wn_go rfl ?_
  show WSX S_strange [.fr (.obj n), .fr (.int m)] st _ _
  unfold S_strange
  repeat fold_depth
  refine far1 h (by omega) fun r s1 r0 hb1 => ?_
  repeat fold_depth
  refine far1 hb1 (by omega) fun r2 s2 r20 hb2 => ?_
  repeat fold_depth
  refine of1 hb2 (by simp) (by show (4 : Nat) < _; decide) (by omega) fun t s3 ht hb3 => ?_
  simp only [List.mem_cons, List.not_mem_nil, or_false] at ht
  rcases ht with rfl | rfl | rfl | rfl <;> exact q _ _ hb3
theorem cut_rs {st : Store} {f : Fig} {lo hi : T} {a b : Nat} (h1 : lim f.length lo (some 0) = some a) (h2 : lim f.length hi (some f.length) = some b) : opCut st (tFig f) lo hi = some (tFig ((f.drop a).take (b - a))) := by
  have hl : (tRs f).length = f.length := List.length_map ..
  show (match lim (tRs f).length lo (some 0), lim (tRs f).length hi (some (tRs f).length) with
    | some a, some b => some (T.tup (cutT a b (tRs f)))
    | _, _ => none) = _
  rw [hl, h1, h2]
  show some (T.tup (cutT a b (tRs f))) = _
  unfold cutT tFig
  rw [← List.map_drop, ← List.map_take]
theorem add_rs {f g : Fig} (h : f.length + g.length ≤ 100000) : opAdd (tFig f) (tFig g) = some (tFig (f ++ g)) := by
  have hl : (tRs f).length + (tRs g).length ≤ 100000 := by simpa [tRs] using h
  show (if (tRs f).length + (tRs g).length ≤ 100000 then some (T.tup (tRs f ++ tRs g)) else none) = _
  rw [if_pos hl]
  show some (T.tup _) = some (T.tup ((f ++ g).map tRw))
  rw [List.map_append]
theorem bent1 {n N : Nat} {cs : List Int} {f : Fig} (h : Bg n N s0 st) (hc : HuesOk cs) (hf : Mp.figB cs f = true) (hl : f.length ≤ 7) (hN : N + 100 < 2 ^ 60) (q : ∀ g s, g.length ≤ 20 → Bg n (N + 50) s0 s → Q (tFig g) s) : WNX F_bent_shape [.obj n, .lst (il cs), tFig f] st Q E := by
  have hr := rise_of hf
  have hpos : 0 < f.length := by
    unfold Mp.figB at hf
    rw [Bool.and_eq_true] at hf
    exact of_decide_eq_true hf.2
  have hfl : lenT st (tFig f) = some (.int f.length) := len_rs.2
  refine wn_go rfl ?_
  show WSX S_bent_shape [.fr (.obj n), .fr (.lst (il cs)), .fr (tFig f), .no, .no, .no, .no, .no, .no, .no] st _ _
  unfold S_bent_shape
  refine ws_seq.mpr (ws_asgN.mpr (we_callP.mpr (we_cons.mpr (we_var.mpr ⟨_, rfl, we_cons.mpr (we_ev1S.mpr (we_var.mpr ⟨_, rfl, _, hfl, we_nil.mpr ?_⟩))⟩))))
  refine pull1 h (by omega) (Int.lt_of_le_of_lt (b := 7) (by omega) (by decide)) (by omega) fun at_ s1 a0 a1 hb1 => ⟨fun _ => ?_, fun z => absurd rfl z⟩
  show WSX _ [.fr (.obj n), .fr (.lst (il cs)), .fr (tFig f), .fr (.int at_), .no, .no, .no, .no, .no, .no] s1 _ _
  have hat : at_.toNat < f.length := by omega
  have hrow := hr at_.toNat f[at_.toNat] (List.getElem?_eq_getElem hat)
  obtain ⟨p, m, d, hpmd⟩ := len3 (tripB_len hrow)
  have hx : (tRs f)[at_.toNat]? = some (tRw [p, m, d]) := by rw [List.getElem?_map, List.getElem?_eq_getElem hat, hpmd]; rfl
  have hp : 0 ≤ p ∧ p < cs.length := by
    have hl0 := leastAt_nn (cs := cs) (f := f) (j := at_.toNat) (fun i r _ h => hr i r h) (by omega)
    rw [hpmd] at hrow
    have hrow : (decide (leastAt f at_.toNat ≤ p ∧ p < cs.length) && (decide (0 ≤ m ∧ m < cs.getD p.toNat 0) && decide (1 ≤ d ∧ d ≤ 3))) = true := hrow
    rw [Bool.and_eq_true, decide_eq_true_iff] at hrow
    omega
  refine ws_seq.mpr (ws_asg.mpr (we_ev2S.mpr (we_var.mpr ⟨_, rfl, we_var.mpr ⟨_, rfl, _, ixT_ok a0 hx, _, rfl, fun _ => ?_, fun z => absurd rfl z⟩⟩)))
  show WSX _ [.fr (.obj n), .fr (.lst (il cs)), .fr (tFig f), .fr (.int at_), .fr (.int p), .fr (.int m), .fr (.int d), .no, .no, .no] s1 _ _
  refine ws_seq.mpr (ws_asgN.mpr (we_evN.mpr (we_cons.mpr (we_evN.mpr (we_cons.mpr (we_callP.mpr (we_cons.mpr (we_var.mpr ⟨_, rfl, we_cons.mpr (we_ev1S.mpr (we_var.mpr ⟨_, rfl, _, len_lst, we_nil.mpr ?_⟩))⟩))))))))
  refine strange1 hb1 (by omega) fun i s2 hb2 => ?_
  refine we_cons.mpr (we_var.mpr ⟨_, rfl, we_cons.mpr (we_var.mpr ⟨_, rfl, we_nil.mpr ⟨_, rfl, ?_⟩⟩)⟩)
  refine we_cons.mpr (we_evN.mpr (we_cons.mpr (we_var.mpr ⟨_, rfl, we_cons.mpr (we_callP.mpr (we_cons.mpr (we_var.mpr ⟨_, rfl, we_cons.mpr (we_ev2S.mpr (we_var.mpr ⟨_, rfl, we_var.mpr ⟨_, rfl, _, ixL_ok hp.1 (il_getD (by omega)), we_nil.mpr ?_⟩⟩))⟩)))⟩)))
  refine strange1 hb2 (by omega) fun i2 s3 hb3 => ?_
  refine we_cons.mpr (we_var.mpr ⟨_, rfl, we_nil.mpr ⟨_, rfl, we_nil.mpr ⟨_, rfl, fun _ => ?_, fun z => absurd rfl z⟩⟩⟩)
  show WSX _ [.fr (.obj n), .fr (.lst (il cs)), .fr (tFig f), .fr (.int at_), .fr (.int p), .fr (.int m), .fr (.int d), .fr (.lst (tRs [[i, m, d], [p, i2, d]])), .no, .no] s3 _ _
  refine ws_seq.mpr (ws_asgN.mpr (we_ev2.mpr (we_var.mpr ⟨_, rfl, ?_⟩)))
  repeat fold_depth
  refine of1 hb3 (by simp) (by show (4 : Nat) < _; decide) (by omega) fun t s4 ht hb4 => ?_
  have ht' : ∃ i3, t = .int i3 := by
    simp only [List.mem_cons, List.not_mem_nil, or_false] at ht
    rcases ht with rfl | rfl | rfl | rfl <;> exact ⟨_, rfl⟩
  obtain ⟨i3, rfl⟩ := ht'
  clear ht
  repeat fold_depth
  have h00 : (tRs f)[(0 : Int).toNat]? = some (tRw (f.getD 0 [])) := by
    rw [List.getElem?_map, List.getD_eq_getElem?_getD, show (0 : Int).toNat = 0 from rfl, List.getElem?_eq_getElem hpos]
    rfl
  refine ⟨_, ixT_ok (by decide) h00, ?_⟩
  refine we_nil.mpr ⟨_, rfl, _, rfl, fun _ => ?_, fun z => absurd rfl z⟩
  generalize hodd : ([[i, m, d], [p, i2, d], [p, m, i3], [p, m], [p, m, d, 1], [], f.getD 0 []] : Fig) = odd
  have hol : odd.length = 7 := by rw [← hodd]; rfl
  show WSX _ ([.fr (.obj n), .fr (.lst (il cs)), .fr (tFig f), .fr (.int at_), .fr (.int p), .fr (.int m), .fr (.int d), .fr (.lst (tRs ([[i, m, d], [p, i2, d], [p, m, i3], [p, m], [p, m, d, 1], [], f.getD 0 []] : Fig))), .no, .no]) s4 _ _
  rw [hodd]
  clear hodd
  have c1 : ∀ st : Store, opCut st (tFig f) .non (.int at_) = some (tFig ((f.drop 0).take (min at_.toNat f.length - 0))) := fun st => cut_rs rfl (lim_pos a0 (by omega))
  have c2 : ∀ st : Store, opCut st (tFig f) (.int (at_ + 1)) .non = some (tFig ((f.drop (min (at_ + 1).toNat f.length)).take (f.length - min (at_ + 1).toNat f.length))) := fun st => cut_rs (lim_pos (by omega) (by omega)) rfl
  have c3 : ∀ st : Store, opCut st (tFig f) (.int (-1)) .non = some (tFig ((f.drop ((f.length : Int) + -1).toNat).take (f.length - ((f.length : Int) + -1).toNat))) := fun st => cut_rs (lim_neg (by decide) (by decide)) rfl
  have l1 : ((f.drop 0).take (min at_.toNat f.length - 0)).length ≤ 7 := by rw [List.length_take, List.length_drop]; omega
  have l2 : ((f.drop (min (at_ + 1).toNat f.length)).take (f.length - min (at_ + 1).toNat f.length)).length ≤ 7 := by rw [List.length_take, List.length_drop]; omega
  have l3 : ((f.drop ((f.length : Int) + -1).toNat).take (f.length - ((f.length : Int) + -1).toNat)).length ≤ 7 := by rw [List.length_take, List.length_drop]; omega
  generalize (f.drop 0).take (min at_.toNat f.length - 0) = A at c1 l1
  generalize (f.drop (min (at_ + 1).toNat f.length)).take (f.length - min (at_ + 1).toNat f.length) = B at c2 l2
  generalize (f.drop ((f.length : Int) + -1).toNat).take (f.length - ((f.length : Int) + -1).toNat) = C at c3 l3
  refine ws_seq.mpr (ws_asgN.mpr (we_comp1.mpr (we_itSeq.mpr (we_var.mpr ⟨_, rfl, .inl ⟨_, .inl rfl, by rw [List.length_map]; omega, ?_⟩⟩))))
  show WC _ _ _ [.fr (.obj n), .fr (.lst (il cs)), .fr (tFig f), .fr (.int at_), .fr (.int p), .fr (.int m), .fr (.int d), .fr (.lst (tRs odd)), .no, .no] _ _ _
  refine wc_mapE (enc := tRw) (fm := fun r => tFig (A ++ [r] ++ B)) odd (fun r hr => ?_) ⟨fun _ => ?_, fun z => absurd rfl z⟩
  · refine ⟨[.fr (.obj n), .fr (.lst (il cs)), .fr (tFig f), .fr (.int at_), .fr (.int p), .fr (.int m), .fr (.int d), .fr (.lst (tRs odd)), .no, .fr (tRw r)], rfl, ?_⟩
    refine we_ev2.mpr (we_ev2.mpr (we_ev3S.mpr (we_var.mpr ⟨_, rfl, we_con.mpr (we_bind.mpr (we_var.mpr ⟨_, rfl, we_part.mpr ⟨_, rfl, _, c1 _, ?_⟩⟩))⟩)))
    refine we_evN.mpr (we_cons.mpr (we_var.mpr ⟨_, rfl, we_nil.mpr ⟨_, rfl, _, add_rs (f := A) (g := [r]) (by simp; omega), ?_⟩⟩))
    refine we_ev3S.mpr (we_var.mpr ⟨_, rfl, we_bind.mpr (we_ev2.mpr (we_var.mpr ⟨_, rfl, we_con.mpr ⟨_, rfl, we_part.mpr ⟨_, rfl, we_con.mpr ⟨_, c2 _, _, add_rs (by simp; omega), rfl, rfl⟩⟩⟩⟩))⟩)
  · show WSX _ [.fr (.obj n), .fr (.lst (il cs)), .fr (tFig f), .fr (.int at_), .fr (.int p), .fr (.int m), .fr (.int d), .fr (.lst (tRs odd)), .fr (.lst (odd.map fun r => tFig (A ++ [r] ++ B))), .no] s4 _ _
    refine ws_ret.mpr (we_callP.mpr (we_cons.mpr (we_var.mpr ⟨_, rfl, we_cons.mpr (we_ev2.mpr (we_var.mpr ⟨_, rfl, we_evN.mpr (we_cons.mpr (we_ev1S.mpr (we_var.mpr ⟨_, rfl, _, rfl, ?_⟩)))⟩))⟩)))
    refine we_cons.mpr (we_ev2.mpr (we_var.mpr ⟨_, rfl, we_ev3S.mpr (we_var.mpr ⟨_, rfl, we_bind.mpr (we_ev1.mpr (we_con.mpr ⟨_, rfl, we_part.mpr ⟨_, rfl, we_con.mpr ⟨_, c3 _, _, add_rs (by omega), ?_⟩⟩⟩))⟩)⟩))
    refine we_cons.mpr (we_evN.mpr (we_nil.mpr ⟨_, rfl, we_nil.mpr ⟨_, rfl, .lst (odd.map (fun r => tFig (A ++ [r] ++ B)) ++ [.tup (tRs f).reverse, tFig (f ++ C), .tup []]), ?_, we_nil.mpr ?_⟩⟩))
    · exact if_pos (by simp [hol])
    · refine of1 hb4 (by simp) (by simp [hol]) (by omega) fun t s5 ht hb5 => ?_
      rcases List.mem_append.mp ht with ht | ht
      · obtain ⟨r, _, rfl⟩ := List.mem_map.mp ht
        exact q _ s5 (by simp; omega) (hb5.up (by omega))
      · simp only [List.mem_cons, List.not_mem_nil, or_false] at ht
        rcases ht with rfl | rfl | rfl
        · have e : (T.tup (tRs f).reverse) = tFig f.reverse := by simp [tFig, tRs]
          rw [e]
          exact q _ s5 (by simp; omega) (hb5.up (by omega))
        · exact q _ s5 (by simp; omega) (hb5.up (by omega))
        · exact q [] s5 (by simp) (hb5.up (by omega))
end
end Mp


set_option Elab.async false
set_option linter.all false
set_option maxRecDepth 100000
set_option maxHeartbeats 0
namespace K02
open PySem Mp
def S_law : EvS := sSeq (sShr 1 (callP F_bag [var 0])) (sSeq (sFor (itRng1 (con (.int 6))) (.name 2) (sSeq (sAsg (.name 3) (callP F_hues [var 1, con (.int 6)])) (sSeq (sAsg (.name 4) (callP F_shapes [var 1, var 3, callP F_of [var 1, evN mkLst [con (.int 3), con (.int 6), con (.int 1)]]])) (sSeq (sAsg (.name 5) (callP F_pull [var 1, ev1S lenT (var 4)])) (sSeq (sIf (testV (ev2 opEq (callP F_pull [var 1, con (.int 3)]) (con (.int 0)))) (sAsg (.name 4) (ev2 opAdd (ev2 opAdd (ev3S opCut (var 4) (con .non) (Ev.bind (var 5) asPart)) (evN mkLst [callP F_bent_shape [var 1, var 3, ev2S opIx (var 4) (var 5)]])) (ev3S opCut (var 4) (Ev.bind (ev2 opAdd (var 5) (con (.int 1))) asPart) (con .non)))) (sNx)) (sSeq (sIf (testV (ev2 opEq (callP F_pull [var 1, con (.int 4)]) (con (.int 0)))) (sAsg (.name 4) (ev2 opAdd (var 4) (evN mkLst [callP F_shape [var 1, var 3]]))) (sNx)) (sSeq (sIf (testV (ev2 opEq (callP F_pull [var 1, con (.int 6)]) (con (.int 0)))) (sSeq (sAsg (.name 4) (ev2 opMul (var 4) (con (.int 7)))) (sAsg (.name 4) (ev3S opCut (var 4) (con .non) (Ev.bind (callP F_of [var 1, evN mkLst [con (.int 12), con (.int 13)]]) asPart)))) (sNx)) (sSeq (sIf (testV (ev2 opEq (callP F_pull [var 1, con (.int 5)]) (con (.int 0)))) (sSeq (sAsg (.name 6) (callP F_of [var 1, evN mkLst [con (.int 0), con (.int 5), ev1 opNeg (con (.int 1)), ev2 opAdd (con (.int 5)) (callP F_far [var 1])]])) (sAsg (.name 3) (callP F_of [var 1, evN mkLst [evN mkLst [], ev2 opMul (evN mkLst [con (.int 1)]) (con (.int 7)), ev2 opAdd (ev3S opCut (var 3) (con .non) (Ev.bind (ev1 opNeg (con (.int 1))) asPart)) (evN mkLst [var 6]), ev2 opAdd (evN mkLst [var 6]) (ev3S opCut (var 3) (Ev.bind (con (.int 1)) asPart) (con .non))]]))) (sNx)) (sSeq (sAsg (.name 7) (evN mkLst [ev1S listT (var 3), comp1 [10] (itSeq (var 4)) (.name 10) tYes (ev1S listT (var 10))])) (sSeq (sAsg (.name 8) (tryE XN "told" HS 1 "law.<locals>.<lambda>" (newC "Book" (F_Book_init c_Book_init.G) [.p 0, .k 0] [ev2S opIx (var 7) (con (.int 0))] [ev2S opIx (var 7) (con (.int 1))]))) (sSeq (sAsg (.name 9) (callP F_book_due [var 3, var 4])) (sSeq (sIf (Ev.bind (testV (ev2 opIsN (var 9) (con .non))) (pick (testV (ev2 opNe (ev2S opIx (var 8) (con (.int 0))) (con (.str "told")))) (Mp.notT (testV (callP (F_like 13) [var 8, var 9]))))) (sRet (con (.bl false))) (sNx)) (sIf (testV (ev2 opNe (var 7) (evN mkLst [var 3, comp1 [10] (itSeq (var 4)) (.name 10) tYes (ev1S listT (var 10))]))) (sRet (con (.bl false))) (sNx)))))))))))))) (sRet (callP (F_like 13) [evN mkLst [con (.int 6), con (.int 4), con (.int 12), con (.int 3)], evN mkLst [con (.int 6), con (.int 4), con (.int 12), con (.int 3)]])))
def F_law : FnD := runFn 1 11 S_law

theorem u_law : e_law.fn = F_law := by kernel_rfl
end K02


set_option Elab.async false
set_option linter.all false
set_option maxRecDepth 100000
set_option maxHeartbeats 1000000
/-! k02: the law answers yes -/
namespace K02
open PySem Mp
/-- one step of a text, forwards -/
local macro_rules | `(tactic| fold_depth) => `(tactic| first
  | (with_reducible first
    | refine ws_seq.mpr ?_ | refine ws_if.mpr ?_ | refine ws_ret.mpr ?_ | refine ws_asgN.mpr ?_ | refine ws_asg.mpr ?_ | refine ws_ix.mpr ?_ | refine ws_nx.mpr ?_ | refine ws_par.mpr ?_ | refine ws_for.mpr ?_ | refine ws_shr.mpr ?_ | refine ws_aug.mpr ?_ | refine ws_upd.mpr ?_ | refine ws_own.mpr ?_ | refine ws_frz.mpr ?_ | refine ws_fl.mpr ?_ | refine ws_expr.mpr ?_ | refine ws_raise.mpr ?_
    | refine we_ev2.mpr ?_ | refine we_ev2S.mpr ?_ | refine we_ev3S.mpr ?_ | refine we_ev1S.mpr ?_ | refine we_ev1.mpr ?_ | refine we_con.mpr ?_ | refine we_testV.mpr ?_
    | refine we_callP.mpr ?_ | refine we_cons.mpr ?_ | refine we_nil.mpr ?_ | refine we_evN.mpr ?_ | refine we_andB.mpr ?_ | refine we_orB.mpr ?_ | refine we_notT.mpr ?_ | refine we_andV.mpr ?_ | refine we_notV.mpr ?_ | refine we_orV.mpr ?_ | refine we_ite.mpr ?_ | refine we_chain.mpr ?_
    | refine we_bind.mpr ?_ | refine we_pure.mpr ?_ | refine we_part.mpr ?_ | refine we_itRng1.mpr ?_ | refine we_itRng2.mpr ?_ | refine we_itSeq.mpr ?_ | refine we_comp1.mpr ?_ | refine we_itEnum.mpr ?_ | refine we_peek.mpr ?_ | refine we_ownV.mpr ?_ | refine we_var.mpr ?_
    | refine ⟨_, len_tup, ?_⟩ | refine ⟨_, len_lst, ?_⟩ | refine ⟨_, neN, ?_⟩ | refine ⟨_, eqI, ?_⟩ | refine ⟨_, eqB, ?_⟩ | refine ⟨_, eq_int, ?_⟩ | refine ⟨_, ne_int, ?_⟩ | refine ⟨_, eq_tup, ?_⟩ | refine ⟨_, eq_lst, ?_⟩ | refine ⟨_, ne_tup, ?_⟩ | refine ⟨_, ne_lst, ?_⟩)
  | refine ⟨fun (_ : Fl.nx = Fl.nx) => ?_, fun (z : Fl.nx ≠ Fl.nx) => absurd rfl z⟩ | refine ⟨fun (z : Fl.ret _ = Fl.nx) => Fl.noConfusion z, fun _ => ?_⟩ | refine fun (_ : Fl.ret _ ≠ Fl.nx) => ?_
  | refine ⟨fun (_ : true = true) => ?_, fun (z : true = false) => Bool.noConfusion z⟩ | refine ⟨fun (z : false = true) => Bool.noConfusion z, fun (_ : false = false) => ?_⟩
  | (fail_if_success (with_reducible refine isCut ?_)
     fail_if_success (with_reducible refine isMul ?_)
     fail_if_success (with_reducible refine isDiv ?_)
     first | refine ⟨.bl true, rfl, ?_⟩ | refine ⟨.bl false, rfl, ?_⟩ | refine ⟨true, rfl, ?_⟩ | refine ⟨false, rfl, ?_⟩ | refine ⟨_, rfl, ?_⟩))

abbrev qn : Str := "law.<locals>.<lambda>"
abbrev lFig (f : Fig) : T := .lst (tRs f)
def S_tail : EvS := sSeq (sAsg (.name 7) (evN mkLst [ev1S listT (var 3), comp1 [10] (itSeq (var 4)) (.name 10) tYes (ev1S listT (var 10))])) (sSeq (sAsg (.name 8) (tryE XN "told" HS 1 "law.<locals>.<lambda>" (newC "Book" (F_Book_init c_Book_init.G) [.p 0, .k 0] [ev2S opIx (var 7) (con (.int 0))] [ev2S opIx (var 7) (con (.int 1))]))) (sSeq (sAsg (.name 9) (callP F_book_due [var 3, var 4])) (sSeq (sIf (Ev.bind (testV (ev2 opIsN (var 9) (con .non))) (pick (testV (ev2 opNe (ev2S opIx (var 8) (con (.int 0))) (con (.str "told")))) (Mp.notT (testV (callP (F_like 13) [var 8, var 9]))))) (sRet (con (.bl false))) (sNx)) (sIf (testV (ev2 opNe (var 7) (evN mkLst [var 3, comp1 [10] (itSeq (var 4)) (.name 10) tYes (ev1S listT (var 10))]))) (sRet (con (.bl false))) (sNx)))))
theorem due_cases {cs : List Int} {fs : List Fig} {w : Str} {is : List Int} (h : bookDue cs fs = some (w, is)) : (∃ i, w = "BadColours" ∧ is = [i]) ∨ (∃ i, w = "TooMany" ∧ is = [i]) ∨ (∃ i, w = "BadFigure" ∧ is = [i]) ∨ ∃ i j, w = "Meeting" ∧ is = [i, j] := by
  unfold bookDue at h
  cases hc : colDue cs with
  | some i => rw [hc] at h; cases h; exact .inl ⟨_, rfl, rfl⟩
  | none =>
    rw [hc] at h
    cases hf : figsDue cs fs with
    | some p =>
      obtain ⟨w', i⟩ := p
      rw [hf] at h
      have e1 : w' = w := by injection h with h; injection h
      have e2 : [i] = is := by injection h with h; injection h
      subst e1 e2
      unfold figsDue at hf
      by_cases hl : 12 < fs.length
      · rw [if_pos hl] at hf
        injection hf with hf
        injection hf with h1 h2
        exact .inr (.inl ⟨_, h1.symm, rfl⟩)
      · rw [if_neg hl] at hf
        obtain ⟨j, x, _, hx⟩ := firstS_some hf
        by_cases hb : figB cs x = true
        · rw [if_pos hb] at hx; cases hx
        · rw [if_neg hb] at hx
          injection hx with hx
          injection hx with h1 h2
          exact .inr (.inr (.inl ⟨_, h1.symm, rfl⟩))
    | none =>
      rw [hf] at h
      cases hm : meetDue fs with
      | none => rw [hm] at h; cases h
      | some p =>
        rw [hm] at h
        have h : some (("Meeting" : Str), [p.1, p.2]) = some (w, is) := h
        injection h with h
        injection h with h1 h2
        exact .inr (.inr (.inr ⟨_, _, h1.symm, h2.symm⟩))
def toldT (cs : List Int) (fs : List Fig) : T := match bookDue cs fs with
  | none => .tup [.str "told", tBook cs fs]
  | some d => dueT (some d)
theorem tab_app {st : Store} {i : Nat} {q : Str} {c : Cell} (h : tabAt st i q = true) : tabAt (st ++ [c]) i q = true := by
  unfold tabAt at h ⊢
  cases e : st[i]? with
  | none => rw [e] at h; cases h
  | some d =>
    rw [List.getElem?_append_left (List.getElem?_eq_some_iff.mp e).1, e]
    rw [e] at h
    exact h
theorem lk_word {w : Str} {is : List Int} (hw : T.lk 1 (.str w) = true) (hl : is.length ≤ 100) : T.lk 13 (.tup (.str w :: il is)) = true := by
  have h1 : T.lk 12 (.str w) = true := hw
  show (decide ((T.str w :: il is).length ≤ 100000) && (T.lk 12 (.str w) && T.lkL 12 (il is))) = true
  rw [h1, lkL_il 11, decide_eq_true (by rw [List.length_cons, il_len]; omega)]; rfl
theorem figsOf_l (fs : List Fig) : FigsOf (fs.map lFig) fs := by
  refine ⟨List.length_map .., fun i t f h1 h2 => ?_⟩
  rw [List.getElem?_map, h2] at h1
  cases h1
  exact .inl rfl
theorem figsOf_t (fs : List Fig) : FigsOf (fs.map tFig) fs := figsOf_tFig fs
theorem tail_ok {s0 st : Store} {N : Nat} {cs : List Int} {fs : List Fig} {x2 x5 x6 x7 x8 x9 x10 : Slot} (h : Bg 2 N s0 st) (tb : tabAt s0 1 qn = true) (hl : ∀ f ∈ fs, f.length ≤ 20) (hn : fs.length ≤ 100) :
    WS S_tail [.fr (.obj 0), .fr (.obj 2), x2, .fr (.lst (il cs)), .fr (.lst (fs.map tFig)), x5, x6, x7, x8, x9, x10] st fun fl e s => fl = .nx ∧ (∃ x2 x3 x4 x5 x6 x7 x8 x9 x10, e = [.fr (.obj 0), .fr (.obj 2), x2, x3, x4, x5, x6, x7, x8, x9, x10]) ∧ ∃ s1, tabAt s1 1 qn = true ∧ Bg 2 N s1 s := by
  unfold S_tail
  have hm : ∀ f ∈ fs, f.length ≤ 100000 := fun f hf => Nat.le_trans (hl f hf) (by decide)
  have comp : ∀ (y : Slot) (y8 y9 : Slot) (s : Store) (Q : List T → Store → Prop), Q (fs.map lFig) s → WC (.name 10) tYes (ev1S listT (var 10)) [.fr (.obj 0), .fr (.obj 2), x2, .fr (.lst (il cs)), .fr (.lst (fs.map tFig)), x5, x6, y, y8, y9, .no] (fs.map tFig) s Q := fun y y8 y9 s Q q => by
    refine wc_mapE (enc := tFig) (fm := lFig) fs (fun f hf => ?_) q
    exact ⟨_, rfl, we_ev1S.mpr (we_var.mpr ⟨_, rfl, _, rfl, rfl, rfl⟩)⟩
  refine ws_seq.mpr (ws_asgN.mpr (we_evN.mpr (we_cons.mpr (we_ev1S.mpr (we_var.mpr ⟨_, rfl, _, rfl, we_cons.mpr (we_comp1.mpr (we_itSeq.mpr (we_var.mpr ⟨_, rfl, .inl ⟨_, .inl rfl, by rw [List.length_map]; omega, ?_⟩⟩)))⟩)))))
  refine comp x7 x8 x9 st _ (we_nil.mpr ⟨_, rfl, fun _ => ?_, fun z => absurd rfl z⟩)
  generalize hH : T.lst [T.lst (il cs), T.lst (fs.map lFig)] = HH
  show WSX _ [.fr (.obj 0), .fr (.obj 2), x2, .fr (.lst (il cs)), .fr (.lst (fs.map tFig)), x5, x6, .fr HH, x8, x9, x10] st _ _
  have okH : T.okd 12 HH = true := by
    rw [← hH]
    refine okd_lst fun x hx => ?_
    simp only [List.mem_cons, List.not_mem_nil, or_false] at hx
    rcases hx with rfl | rfl
    · exact okd_lil
    · refine okd_lst fun x hx => ?_
      obtain ⟨f, _, rfl⟩ := List.mem_map.mp hx
      exact okd_lst fun x hx => okd_rs x hx
  have told : ∀ {Q : T → Store → Prop}, (∀ c, Q (toldT cs fs) (st ++ [c])) → WE (tryE XN "told" HS 1 "law.<locals>.<lambda>" (newC "Book" (F_Book_init c_Book_init.G) [.p 0, .k 0] [ev2S opIx (var 7) (con (.int 0))] [ev2S opIx (var 7) (con (.int 1))])) [.fr (.obj 0), .fr (.obj 2), x2, .fr (.lst (il cs)), .fr (.lst (fs.map tFig)), x5, x6, .fr HH, x8, x9, x10] st Q := fun {Q} q => by
    refine we_try (h.tab (by decide) tb) (we_newC.mpr (we_cons.mpr (we_ev2S.mpr (we_var.mpr ⟨_, rfl, we_con.mpr ⟨.lst (il cs), by rw [← hH]; rfl, we_nil.mpr (we_cons.mpr (we_ev2S.mpr (we_var.mpr ⟨_, rfl, we_con.mpr ⟨.lst (fs.map lFig), by rw [← hH]; rfl, we_nil.mpr ⟨_, rfl, ?_⟩⟩⟩)))⟩⟩))))
    refine new_book1 (by decide +kernel) (.inl rfl) (.inl rfl) (figsOf_l fs) hm (fun hd => ?_) fun w is c hd => ?_
    · have e : toldT cs fs = .tup [.str "told", tBook cs fs] := by unfold toldT; rw [hd]
      rw [e] at q
      exact q _
    · have e : toldT cs fs = .tup (.str w :: il is) := by unfold toldT; rw [hd]; rfl
      rw [e] at q
      rcases due_cases hd with ⟨i, rfl, rfl⟩ | ⟨i, rfl, rfl⟩ | ⟨i, rfl, rfl⟩ | ⟨i, j, rfl, rfl⟩
      · exact he_BadColours (q c)
      · exact he_TooMany (q c)
      · exact he_BadFigure (q c)
      · exact he_Meeting (q c)
  refine ws_seq.mpr (ws_asgN.mpr (told fun c => ⟨fun _ => ?_, fun z => absurd rfl z⟩))
  show WSX _ [.fr (.obj 0), .fr (.obj 2), x2, .fr (.lst (il cs)), .fr (.lst (fs.map tFig)), x5, x6, .fr HH, .fr (toldT cs fs), x9, x10] _ _ _
  refine ws_seq.mpr (ws_asgN.mpr (we_callP.mpr (we_cons.mpr (we_var.mpr ⟨_, rfl, we_cons.mpr (we_var.mpr ⟨_, rfl, we_nil.mpr ?_⟩)⟩))))
  refine book_due1 (.inl rfl) (.inl rfl) (figsOf_t fs) hm (by omega) ⟨fun _ => ?_, fun z => absurd rfl z⟩
  show WSX _ [.fr (.obj 0), .fr (.obj 2), x2, .fr (.lst (il cs)), .fr (.lst (fs.map tFig)), x5, x6, .fr HH, .fr (toldT cs fs), .fr (dueT (bookDue cs fs)), x10] _ _ _
  have fin : WS (sIf (testV (ev2 opNe (var 7) (evN mkLst [var 3, comp1 [10] (itSeq (var 4)) (.name 10) tYes (ev1S listT (var 10))]))) (sRet (con (.bl false))) (sNx)) [.fr (.obj 0), .fr (.obj 2), x2, .fr (.lst (il cs)), .fr (.lst (fs.map tFig)), x5, x6, .fr HH, .fr (toldT cs fs), .fr (dueT (bookDue cs fs)), x10] (st ++ [c]) fun fl e s => fl = .nx ∧ (∃ x2 x3 x4 x5 x6 x7 x8 x9 x10, e = [.fr (.obj 0), .fr (.obj 2), x2, x3, x4, x5, x6, x7, x8, x9, x10]) ∧ ∃ s1, tabAt s1 1 qn = true ∧ Bg 2 N s1 s := by
    refine ws_if.mpr (we_testV.mpr (we_ev2.mpr (we_var.mpr ⟨_, rfl, we_evN.mpr (we_cons.mpr (we_var.mpr ⟨_, rfl, we_cons.mpr (we_comp1.mpr (we_itSeq.mpr (we_var.mpr ⟨_, rfl, .inl ⟨_, .inl rfl, by rw [List.length_map]; omega, ?_⟩⟩)))⟩))⟩)))
    refine comp _ _ _ _ _ (we_nil.mpr ⟨HH, by rw [← hH]; rfl, _, ne_self okH, _, rfl, fun z => Bool.noConfusion z, fun _ => ?_⟩)
    exact ws_nx.mpr ⟨rfl, ⟨_, _, _, _, _, _, _, _, _, rfl⟩, s0 ++ [c], tab_app tb, h.app⟩
  refine ws_seq.mpr (ws_if.mpr (we_bind.mpr ?_))
  cases hd : bookDue cs fs with
  | none =>
    rw [hd] at fin
    have e : toldT cs fs = .tup [.str "told", tBook cs fs] := by unfold toldT; rw [hd]
    rw [e] at fin ⊢
    refine we_testV.mpr (we_ev2.mpr (we_var.mpr ⟨_, rfl, we_con.mpr ⟨_, rfl, true, rfl, ?_⟩⟩))
    refine we_testV.mpr (we_ev2.mpr (we_ev2S.mpr (we_var.mpr ⟨_, rfl, we_con.mpr ⟨_, rfl, we_con.mpr ⟨.bl false, ne_self (by decide +kernel), false, rfl, fun z => Bool.noConfusion z, fun _ => ?_⟩⟩⟩)))
    exact ws_nx.mpr ⟨fun _ => fin, fun z => absurd rfl z⟩
  | some d =>
    rw [hd] at fin
    obtain ⟨w, is⟩ := d
    have e : toldT cs fs = dueT (some (w, is)) := by unfold toldT; rw [hd]
    rw [e] at fin ⊢
    refine we_testV.mpr (we_ev2.mpr (we_var.mpr ⟨_, rfl, we_con.mpr ⟨.bl false, rfl, false, rfl, ?_⟩⟩))
    have lk : T.lk 13 (dueT (some (w, is))) = true := by
      rcases due_cases hd with ⟨i, rfl, rfl⟩ | ⟨i, rfl, rfl⟩ | ⟨i, rfl, rfl⟩ | ⟨i, j, rfl, rfl⟩ <;> exact lk_word (by decide +kernel) (by simp)
    refine we_notT.mpr (we_testV.mpr (we_callP.mpr (we_cons.mpr (we_var.mpr ⟨_, rfl, we_cons.mpr (we_var.mpr ⟨_, rfl, we_nil.mpr ?_⟩)⟩))))
    exact like1 lk ⟨true, rfl, fun z => Bool.noConfusion z, fun _ => ws_nx.mpr ⟨fun _ => fin, fun z => absurd rfl z⟩⟩
theorem cut_initL {st : Store} {xs : List Int} (h : xs ≠ []) : opCut st (.lst (il xs)) .non (.int (-1)) = some (.lst (il xs.dropLast)) := by
  have hl : 0 < xs.length := List.length_pos_iff.mpr h
  have e1 : lim (il xs).length .non (some 0) = some 0 := rfl
  have e2 : lim (il xs).length (.int (-1)) (some (il xs).length) = some (xs.length - 1) := by rw [lim_neg (by decide) (by decide), il_len]; congr 1; omega
  show (match lim (il xs).length .non (some 0), lim (il xs).length (.int (-1)) (some (il xs).length) with | some a, some b => some (T.lst (cutT a b (il xs))) | _, _ => none) = _
  rw [e1, e2]
  simp only [cut_il, List.drop_zero, Nat.sub_zero, List.dropLast_eq_take]
/-- the lists that are handed on -/
theorem figs_mul {fs : List Fig} (h : fs.length ≤ 50) : opMul (.lst (fs.map tFig)) (.int 7) = some (.lst (((List.replicate 7 fs).flatten).map tFig)) := by
  have r : ∀ n, rep (fs.map tFig) n = ((List.replicate n fs).flatten).map tFig := by
    intro n
    induction n with
    | zero => rfl
    | succ n ih =>
      rw [List.replicate_succ, List.flatten_cons, List.map_append, ← ih]
      rfl
  have hl : (fs.map tFig).length * (7 : Int).toNat ≤ 100000 := by
    rw [List.length_map]
    show fs.length * 7 ≤ 100000
    omega
  show (if (fs.map tFig).length * (7 : Int).toNat ≤ 100000 ∧ (7 : Int) < 2 ^ 62 ∧ -(2 ^ 62) < (7 : Int) then some (T.lst (rep (fs.map tFig) (7 : Int).toNat)) else none) = _
  rw [if_pos ⟨hl, by decide, by decide⟩]
  show some (T.lst (rep (fs.map tFig) 7)) = _
  rw [r]
theorem figs_add {fs gs : List Fig} (h : fs.length + gs.length ≤ 1000) : opAdd (.lst (fs.map tFig)) (.lst (gs.map tFig)) = some (.lst ((fs ++ gs).map tFig)) := by
  have hl : (fs.map tFig).length + (gs.map tFig).length ≤ 100000 := by rw [List.length_map, List.length_map]; omega
  show (if (fs.map tFig).length + (gs.map tFig).length ≤ 100000 then some (T.lst (fs.map tFig ++ gs.map tFig)) else none) = _
  rw [if_pos hl, List.map_append]
theorem figs_cut {st : Store} {fs : List Fig} {lo hi : T} {a b : Nat} (h1 : lim fs.length lo (some 0) = some a) (h2 : lim fs.length hi (some fs.length) = some b) : opCut st (.lst (fs.map tFig)) lo hi = some (.lst (((fs.drop a).take (b - a)).map tFig)) := by
  have hl : (fs.map tFig).length = fs.length := List.length_map ..
  show (match lim (fs.map tFig).length lo (some 0), lim (fs.map tFig).length hi (some (fs.map tFig).length) with
    | some a, some b => some (T.lst (cutT a b (fs.map tFig)))
    | _, _ => none) = _
  rw [hl, h1, h2]
  show some (T.lst (cutT a b (fs.map tFig))) = _
  unfold cutT
  rw [← List.map_drop, ← List.map_take]
/-- how far a list of figures goes -/
def Fits (k : Nat) (fs : List Fig) : Prop := fs.length ≤ k ∧ ∀ f ∈ fs, f.length ≤ 20
def S_bend : EvS := sIf (testV (ev2 opEq (callP F_pull [var 1, con (.int 3)]) (con (.int 0)))) (sAsg (.name 4) (ev2 opAdd (ev2 opAdd (ev3S opCut (var 4) (con .non) (Ev.bind (var 5) asPart)) (evN mkLst [callP F_bent_shape [var 1, var 3, ev2S opIx (var 4) (var 5)]])) (ev3S opCut (var 4) (Ev.bind (ev2 opAdd (var 5) (con (.int 1))) asPart) (con .non)))) (sNx)
def S_more : EvS := sIf (testV (ev2 opEq (callP F_pull [var 1, con (.int 4)]) (con (.int 0)))) (sAsg (.name 4) (ev2 opAdd (var 4) (evN mkLst [callP F_shape [var 1, var 3]]))) (sNx)
def S_many : EvS := sIf (testV (ev2 opEq (callP F_pull [var 1, con (.int 6)]) (con (.int 0)))) (sSeq (sAsg (.name 4) (ev2 opMul (var 4) (con (.int 7)))) (sAsg (.name 4) (ev3S opCut (var 4) (con .non) (Ev.bind (callP F_of [var 1, evN mkLst [con (.int 12), con (.int 13)]]) asPart)))) (sNx)
def S_odd : EvS := sIf (testV (ev2 opEq (callP F_pull [var 1, con (.int 5)]) (con (.int 0)))) (sSeq (sAsg (.name 6) (callP F_of [var 1, evN mkLst [con (.int 0), con (.int 5), ev1 opNeg (con (.int 1)), ev2 opAdd (con (.int 5)) (callP F_far [var 1])]])) (sAsg (.name 3) (callP F_of [var 1, evN mkLst [evN mkLst [], ev2 opMul (evN mkLst [con (.int 1)]) (con (.int 7)), ev2 opAdd (ev3S opCut (var 3) (con .non) (Ev.bind (ev1 opNeg (con (.int 1))) asPart)) (evN mkLst [var 6]), ev2 opAdd (evN mkLst [var 6]) (ev3S opCut (var 3) (Ev.bind (con (.int 1)) asPart) (con .non))]]))) (sNx)
section
variable {s0 st : Store} {N : Nat} {cs : List Int} {fs : List Fig} {x2 x5 x6 x7 x8 x9 x10 : Slot}
theorem bend_ok {at_ : Int} (h : Bg 2 N s0 st) (hc : HuesOk cs) (hs : ShapesOk cs fs) (hl : fs.length ≤ 6) (ha : 0 ≤ at_ ∧ at_ < fs.length) (hN : N + 200 < 2 ^ 60) :
    WS S_bend [.fr (.obj 0), .fr (.obj 2), x2, .fr (.lst (il cs)), .fr (.lst (fs.map tFig)), .fr (.int at_), x6, x7, x8, x9, x10] st fun fl e s => fl = .nx ∧ (∃ gs, Fits 20 gs ∧ e = [.fr (.obj 0), .fr (.obj 2), x2, .fr (.lst (il cs)), .fr (.lst (gs.map tFig)), .fr (.int at_), x6, x7, x8, x9, x10]) ∧ Bg 2 (N + 60) s0 s := by
  unfold S_bend
  repeat fold_depth
  refine pull1 h (by decide) (by decide) (by omega) fun r s1 _ _ hb1 => ?_
  repeat fold_depth
  have c1 : ∀ st : Store, opCut st (.lst (fs.map tFig)) .non (.int at_) = some (.lst (((fs.drop 0).take (min at_.toNat fs.length - 0)).map tFig)) := fun st => figs_cut rfl (lim_pos ha.1 (by omega))
  have c2 : ∀ st : Store, opCut st (.lst (fs.map tFig)) (.int (at_ + 1)) .non = some (.lst (((fs.drop (min (at_ + 1).toNat fs.length)).take (fs.length - min (at_ + 1).toNat fs.length)).map tFig)) := fun st => figs_cut (lim_pos (by omega) (by omega)) rfl
  have m1 : ∀ f ∈ (fs.drop 0).take (min at_.toNat fs.length - 0), f ∈ fs := fun f hf => List.mem_of_mem_drop (List.mem_of_mem_take hf)
  have m2 : ∀ f ∈ (fs.drop (min (at_ + 1).toNat fs.length)).take (fs.length - min (at_ + 1).toNat fs.length), f ∈ fs := fun f hf => List.mem_of_mem_drop (List.mem_of_mem_take hf)
  have l1 : ((fs.drop 0).take (min at_.toNat fs.length - 0)).length ≤ 6 := by rw [List.length_take, List.length_drop]; omega
  have l2 : ((fs.drop (min (at_ + 1).toNat fs.length)).take (fs.length - min (at_ + 1).toNat fs.length)).length ≤ 6 := by rw [List.length_take, List.length_drop]; omega
  generalize (fs.drop 0).take (min at_.toNat fs.length - 0) = A at c1 m1 l1
  generalize (fs.drop (min (at_ + 1).toNat fs.length)).take (fs.length - min (at_ + 1).toNat fs.length) = B at c2 m2 l2
  refine dec_split (fun _ => ?_) (fun _ => ?_)
  · have hat : at_.toNat < fs.length := by omega
    obtain ⟨g1, g2⟩ := hs.fig _ (List.getElem_mem hat)
    have hx : (fs.map tFig)[at_.toNat]? = some (tFig fs[at_.toNat]) := by rw [List.getElem?_map, List.getElem?_eq_getElem hat]; rfl
    refine ws_asgN.mpr (we_ev2.mpr (we_ev2.mpr (we_ev3S.mpr (we_var.mpr ⟨_, rfl, we_con.mpr (we_bind.mpr (we_var.mpr ⟨_, rfl, we_part.mpr ⟨_, rfl, _, c1 _, ?_⟩⟩))⟩))))
    refine we_evN.mpr (we_cons.mpr (we_callP.mpr (we_cons.mpr (we_var.mpr ⟨_, rfl, we_cons.mpr (we_var.mpr ⟨_, rfl, we_cons.mpr (we_ev2S.mpr (we_var.mpr ⟨_, rfl, we_var.mpr ⟨_, rfl, _, ixL_ok ha.1 hx, we_nil.mpr ?_⟩⟩))⟩)⟩))))
    refine bent1 hb1 hc g1 g2 (by omega) fun g s2 g3 hb2 => we_nil.mpr ⟨_, rfl, _, figs_add (fs := A) (gs := [g]) (by simp; omega), ?_⟩
    refine we_ev3S.mpr (we_var.mpr ⟨_, rfl, we_bind.mpr (we_ev2.mpr (we_var.mpr ⟨_, rfl, we_con.mpr ⟨_, rfl, we_part.mpr ⟨_, rfl, we_con.mpr ⟨_, c2 _, _, figs_add (by simp; omega), ?_⟩⟩⟩⟩))⟩)
    refine ⟨rfl, ⟨A ++ [g] ++ B, ⟨by simp; omega, fun f hf => ?_⟩, rfl⟩, hb2.up (by omega)⟩
    rcases List.mem_append.mp hf with hf | hf
    · rcases List.mem_append.mp hf with hf | hf
      · have := (hs.fig f (m1 f hf)).2; omega
      · simp at hf; subst hf; exact g3
    · have := (hs.fig f (m2 f hf)).2; omega
  · refine ws_nx.mpr ⟨rfl, ⟨fs, ⟨by omega, fun f hf => ?_⟩, rfl⟩, hb1.up (by omega)⟩
    have := (hs.fig f hf).2; omega
theorem more_ok (h : Bg 2 N s0 st) (hc : HuesOk cs) (hf : Fits 20 fs) (hN : N + 200 < 2 ^ 60) :
    WS S_more [.fr (.obj 0), .fr (.obj 2), x2, .fr (.lst (il cs)), .fr (.lst (fs.map tFig)), x5, x6, x7, x8, x9, x10] st fun fl e s => fl = .nx ∧ (∃ gs, Fits 21 gs ∧ e = [.fr (.obj 0), .fr (.obj 2), x2, .fr (.lst (il cs)), .fr (.lst (gs.map tFig)), x5, x6, x7, x8, x9, x10]) ∧ Bg 2 (N + 60) s0 s := by
  unfold S_more
  repeat fold_depth
  refine pull1 h (by decide) (by decide) (by omega) fun r s1 _ _ hb1 => ?_
  repeat fold_depth
  have hl := hf.1
  refine dec_split (fun _ => ?_) (fun _ => ?_)
  · refine ws_asgN.mpr (we_ev2.mpr (we_var.mpr ⟨_, rfl, we_evN.mpr (we_cons.mpr (we_callP.mpr (we_cons.mpr (we_var.mpr ⟨_, rfl, we_cons.mpr (we_var.mpr ⟨_, rfl, we_nil.mpr ?_⟩)⟩))))⟩))
    refine shape1 hb1 hc (by omega) fun g s2 _ g2 hb2 => we_nil.mpr ⟨_, rfl, _, figs_add (gs := [g]) (by simp; omega), ?_⟩
    refine ⟨rfl, ⟨fs ++ [g], ⟨by simp; omega, fun f hm => ?_⟩, rfl⟩, hb2.up (by omega)⟩
    rcases List.mem_append.mp hm with hm | hm
    · exact hf.2 f hm
    · simp at hm; subst hm; omega
  · exact ws_nx.mpr ⟨rfl, ⟨fs, ⟨by omega, hf.2⟩, rfl⟩, hb1.up (by omega)⟩
theorem many_ok (h : Bg 2 N s0 st) (hf : Fits 21 fs) (hN : N + 200 < 2 ^ 60) :
    WS S_many [.fr (.obj 0), .fr (.obj 2), x2, .fr (.lst (il cs)), .fr (.lst (fs.map tFig)), x5, x6, x7, x8, x9, x10] st fun fl e s => fl = .nx ∧ (∃ gs, Fits 21 gs ∧ e = [.fr (.obj 0), .fr (.obj 2), x2, .fr (.lst (il cs)), .fr (.lst (gs.map tFig)), x5, x6, x7, x8, x9, x10]) ∧ Bg 2 (N + 60) s0 s := by
  unfold S_many
  repeat fold_depth
  refine pull1 h (by decide) (by decide) (by omega) fun r s1 _ _ hb1 => ?_
  repeat fold_depth
  have hl := hf.1
  refine dec_split (fun _ => ?_) (fun _ => ?_)
  · refine ws_seq.mpr (ws_asgN.mpr (we_ev2.mpr (we_var.mpr ⟨_, rfl, we_con.mpr ⟨_, figs_mul (by omega), fun _ => ?_, fun z => absurd rfl z⟩⟩)))
    have hm : ∀ f ∈ (List.replicate 7 fs).flatten, f.length ≤ 20 := fun f hm => by
      obtain ⟨l, h1, h2⟩ := List.mem_flatten.mp hm
      rw [List.eq_of_mem_replicate h1] at h2
      exact hf.2 f h2
    generalize (List.replicate 7 fs).flatten = gs at hm
    show WSX _ [.fr (.obj 0), .fr (.obj 2), x2, .fr (.lst (il cs)), .fr (.lst (gs.map tFig)), x5, x6, x7, x8, x9, x10] _ _ _
    refine ws_asgN.mpr (we_ev3S.mpr (we_var.mpr ⟨_, rfl, we_con.mpr (we_bind.mpr (we_callP.mpr (we_cons.mpr (we_var.mpr ⟨_, rfl, we_cons.mpr (we_evN.mpr (we_cons.mpr (we_con.mpr (we_cons.mpr (we_con.mpr (we_nil.mpr ⟨_, rfl, we_nil.mpr ?_⟩))))))⟩))))⟩))
    refine of1 hb1 (by decide) (by decide) (by omega) fun t s2 ht hb2 => ?_
    have ht' : ∃ k : Int, t = .int k ∧ 0 ≤ k ∧ k ≤ 13 := by
      simp only [List.mem_cons, List.not_mem_nil, or_false] at ht
      rcases ht with rfl | rfl <;> exact ⟨_, rfl, by decide, by decide⟩
    obtain ⟨k, rfl, k0, k1⟩ := ht'
    refine we_part.mpr ⟨_, rfl, _, figs_cut rfl (lim_pos k0 (by omega)), rfl, ⟨_, ⟨?_, fun f hf' => hm f (List.mem_of_mem_drop (List.mem_of_mem_take hf'))⟩, rfl⟩, hb2.up (by omega)⟩
    rw [List.length_take]; omega
  · exact ws_nx.mpr ⟨rfl, ⟨fs, hf, rfl⟩, hb1.up (by omega)⟩
theorem odd_ok (h : Bg 2 N s0 st) (hc : HuesOk cs) (hN : N + 200 < 2 ^ 60) :
    WS S_odd [.fr (.obj 0), .fr (.obj 2), x2, .fr (.lst (il cs)), .fr (.lst (fs.map tFig)), x5, x6, x7, x8, x9, x10] st fun fl e s => fl = .nx ∧ (∃ cs' y, e = [.fr (.obj 0), .fr (.obj 2), x2, .fr (.lst (il cs')), .fr (.lst (fs.map tFig)), x5, y, x7, x8, x9, x10]) ∧ Bg 2 (N + 60) s0 s := by
  unfold S_odd
  have hlen := hc.len
  have hpos := hc.pos
  have hne : cs ≠ [] := by rintro rfl; exact absurd hpos (by decide)
  repeat fold_depth
  refine pull1 h (by decide) (by decide) (by omega) fun r s1 _ _ hb1 => ?_
  repeat fold_depth
  refine dec_split (fun _ => ?_) (fun _ => ?_)
  · repeat fold_depth
    refine far1 hb1 (by omega) fun b s2 _ hb2 => ?_
    repeat fold_depth
    refine of1 hb2 (by simp) (by show (4 : Nat) < _; decide) (by omega) fun t s3 ht hb3 => ?_
    have ht' : ∃ o : Int, t = .int o := by
      simp only [List.mem_cons, List.not_mem_nil, or_false] at ht
      rcases ht with rfl | rfl | rfl | rfl <;> exact ⟨_, rfl⟩
    obtain ⟨o, rfl⟩ := ht'
    clear ht
    refine ⟨fun _ => ?_, fun z => absurd rfl z⟩
    show WSX _ [.fr (.obj 0), .fr (.obj 2), x2, .fr (.lst (il cs)), .fr (.lst (fs.map tFig)), x5, .fr (.int o), x7, x8, x9, x10] _ _ _
    repeat fold_depth
    refine ⟨_, mul_lst (xs := [1]) (n := 7) (by decide) (by decide) (by decide), ?_⟩
    repeat fold_depth
    refine ⟨_, cut_initL hne, ?_⟩
    repeat fold_depth
    refine ⟨_, add_lst (xs := cs.dropLast) (ys := [o]) (by simp; omega), ?_⟩
    repeat fold_depth
    refine ⟨_, (cut_from (by decide) (by decide)).2, ?_⟩
    refine ⟨_, add_lst (xs := [o]) (by simp; omega), ?_⟩
    repeat fold_depth
    refine of1 hb3 (by simp) (by show (4 : Nat) < _; decide) (by omega) fun t s4 ht hb4 => ?_
    have ht' : ∃ cs', t = .lst (il cs') := by
      simp only [List.mem_cons, List.not_mem_nil, or_false] at ht
      rcases ht with rfl | rfl | rfl | rfl
      · exact ⟨[], rfl⟩
      · exact ⟨_, rfl⟩
      · exact ⟨_, rfl⟩
      · exact ⟨_, rfl⟩
    obtain ⟨cs', rfl⟩ := ht'
    exact ⟨rfl, ⟨cs', _, rfl⟩, hb4.up (by omega)⟩
  · exact ws_nx.mpr ⟨rfl, ⟨cs, _, rfl⟩, hb1.up (by omega)⟩
end
def S_turn : EvS := sSeq (sAsg (.name 3) (callP F_hues [var 1, con (.int 6)])) (sSeq (sAsg (.name 4) (callP F_shapes [var 1, var 3, callP F_of [var 1, evN mkLst [con (.int 3), con (.int 6), con (.int 1)]]])) (sSeq (sAsg (.name 5) (callP F_pull [var 1, ev1S lenT (var 4)])) (sSeq S_bend (sSeq S_more (sSeq S_many (sSeq S_odd S_tail))))))
theorem turn_ok {s0 st : Store} {N : Nat} {x2 x3 x4 x5 x6 x7 x8 x9 x10 : Slot} (h : Bg 2 N s0 st) (tb : tabAt s0 1 qn = true) (hN : N + 2000 < 2 ^ 60) :
    WS S_turn [.fr (.obj 0), .fr (.obj 2), x2, x3, x4, x5, x6, x7, x8, x9, x10] st fun fl e s => fl = .nx ∧ (∃ x2 x3 x4 x5 x6 x7 x8 x9 x10, e = [.fr (.obj 0), .fr (.obj 2), x2, x3, x4, x5, x6, x7, x8, x9, x10]) ∧ ∃ s1, tabAt s1 1 qn = true ∧ Bg 2 (N + 1500) s1 s := by
  unfold S_turn
  refine ws_seq.mpr (ws_asgN.mpr (we_callP.mpr (we_cons.mpr (we_var.mpr ⟨_, rfl, we_cons.mpr (we_con.mpr (we_nil.mpr ?_))⟩))))
  refine hues1 h (by decide) (by omega) fun cs s1 hc _ hb1 => ⟨fun _ => ?_, fun z => absurd rfl z⟩
  show WSX _ [.fr (.obj 0), .fr (.obj 2), x2, .fr (.lst (il cs)), x4, x5, x6, x7, x8, x9, x10] _ _ _
  refine ws_seq.mpr (ws_asgN.mpr ?_)
  repeat fold_depth
  refine of1 hb1 (by decide) (by decide) (by omega) fun t s2 ht hb2 => ?_
  have ht' : ∃ k : Int, t = .int k ∧ 0 < k ∧ k ≤ 6 := by
    simp only [List.mem_cons, List.not_mem_nil, or_false] at ht
    rcases ht with rfl | rfl | rfl <;> exact ⟨_, rfl, by decide, by decide⟩
  obtain ⟨k, rfl, k0, k1⟩ := ht'
  refine we_nil.mpr (shapes1 hb2 hc ⟨k0, by omega⟩ (by omega) fun fs s3 hs hne hl hb3 => ⟨fun _ => ?_, fun z => absurd rfl z⟩)
  show WSX _ [.fr (.obj 0), .fr (.obj 2), x2, .fr (.lst (il cs)), .fr (.lst (fs.map tFig)), x5, x6, x7, x8, x9, x10] _ _ _
  have hfp : 0 < fs.length := List.length_pos_iff.mpr hne
  have hlen : lenT s3 (.lst (fs.map tFig)) = some (.int fs.length) := by
    show some (T.int (fs.map tFig).length) = _
    rw [List.length_map]
  refine ws_seq.mpr (ws_asgN.mpr (we_callP.mpr (we_cons.mpr (we_var.mpr ⟨_, rfl, we_cons.mpr (we_ev1S.mpr (we_var.mpr ⟨_, rfl, _, hlen, we_nil.mpr ?_⟩))⟩))))
  refine pull1 hb3 (by omega) (Int.lt_of_le_of_lt (b := 6) (by omega) (by decide)) (by omega) fun at_ s4 a0 a1 hb4 => ⟨fun _ => ?_, fun z => absurd rfl z⟩
  show WSX _ [.fr (.obj 0), .fr (.obj 2), x2, .fr (.lst (il cs)), .fr (.lst (fs.map tFig)), .fr (.int at_), x6, x7, x8, x9, x10] _ _ _
  refine ws_seq.mpr ((bend_ok hb4 hc hs (by omega) ⟨a0, a1⟩ (by omega)).imp ?_)
  rintro fl e s5 ⟨rfl, ⟨gs, hg, rfl⟩, hb5⟩
  refine ⟨fun _ => ?_, fun z => absurd rfl z⟩
  refine ws_seq.mpr ((more_ok hb5 hc hg (by omega)).imp ?_)
  rintro fl e s6 ⟨rfl, ⟨gs2, hg2, rfl⟩, hb6⟩
  refine ⟨fun _ => ?_, fun z => absurd rfl z⟩
  refine ws_seq.mpr ((many_ok hb6 hg2 (by omega)).imp ?_)
  rintro fl e s7 ⟨rfl, ⟨gs3, hg3, rfl⟩, hb7⟩
  refine ⟨fun _ => ?_, fun z => absurd rfl z⟩
  refine ws_seq.mpr ((odd_ok hb7 hc (by omega)).imp ?_)
  rintro fl e s8 ⟨rfl, ⟨cs', y, rfl⟩, hb8⟩
  refine ⟨fun _ => ?_, fun z => absurd rfl z⟩
  exact tail_ok (hb8.up (by omega)) tb hg3.2 (by have := hg3.1; omega)
def S_fin : EvS := sRet (callP (F_like 13) [evN mkLst [con (.int 6), con (.int 4), con (.int 12), con (.int 3)], evN mkLst [con (.int 6), con (.int 4), con (.int 12), con (.int 3)]])
theorem law_ok {s0 st : Store} {N : Nat} (h : Bg 2 N s0 st) (tb : tabAt s0 1 qn = true) (hN : N ≤ 100) :
    WS (sSeq (sFor (itRng1 (con (.int 6))) (.name 2) S_turn) S_fin) [.fr (.obj 0), .fr (.obj 2), .no, .no, .no, .no, .no, .no, .no, .no, .no] st fun fl _ _ => fl = .ret (.bl true) := by
  refine ws_seq.mpr (ws_for.mpr (we_itRng1.mpr (we_con.mpr ⟨_, rfl, ⟨by decide, by decide⟩, ?_⟩)))
  have step := ws_forRet (E := noE) (g := .name 2) (all := rangeL 0 (6 : Int).toNat) (body := S_turn)
    (fun done e s => (∃ x2 x3 x4 x5 x6 x7 x8 x9 x10, e = [.fr (.obj 0), .fr (.obj 2), x2, x3, x4, x5, x6, x7, x8, x9, x10]) ∧ ∃ s1, tabAt s1 1 qn = true ∧ Bg 2 (N + 1500 * done.length) s1 s) (fun _ _ => False) ?_ (rangeL 0 (6 : Int).toNat) [] [.fr (.obj 0), .fr (.obj 2), .no, .no, .no, .no, .no, .no, .no, .no, .no] st rfl ⟨⟨_, _, _, _, _, _, _, _, _, rfl⟩, s0, tb, h⟩
  · refine step.impE ?_
    rintro fl e s (⟨rfl, ⟨_, _, _, _, _, _, _, _, _, rfl⟩, s1, _, _⟩ | ⟨t, rfl, z⟩)
    rotate_left
    · exact z.elim
    refine ⟨fun _ => ?_, fun z => absurd rfl z⟩
    unfold S_fin
    repeat fold_depth
    exact like1 (lk_lst (n := 11) (xs := [6, 4, 12, 3]) (by decide)) rfl
  · rintro x done rest en s hd ⟨⟨_, x3, x4, x5, x6, x7, x8, x9, x10, rfl⟩, s1, tb1, hb⟩
    obtain ⟨rfl, hdl⟩ := rangeL_at hd
    have hdl' : done.length < 6 := hdl
    refine ⟨_, rfl, ?_⟩
    refine (turn_ok hb tb1 (by omega)).imp ?_
    rintro fl e s' ⟨rfl, he, s2, tb2, hb2⟩
    refine .inl ⟨rfl, he, s2, tb2, hb2.up ?_⟩
    simp; omega
theorem plain (ns : List Int) (h : ns.length ≤ 63) : ∃ st', e_law.fn [.obj 0] (.scr (ns.map T.int) :: [qn].map Cell.tab) = .ok (.bl true) st' := by
  have : WN e_law.fn [.obj 0] (.scr (ns.map T.int) :: [qn].map Cell.tab) fun t st' => t = .bl true := by
    rw [u_law]
    refine wn_go rfl ?_
    show WSX S_law [.fr (.obj 0), .no, .no, .no, .no, .no, .no, .no, .no, .no, .no] [.scr (ns.map T.int), .tab qn] _ _
    have e : S_law = sSeq (sShr 1 (callP F_bag [var 0])) (sSeq (sFor (itRng1 (con (.int 6))) (.name 2) S_turn) S_fin) := rfl
    rw [e]
    refine ws_seq.mpr (ws_shr.mpr (we_callP.mpr (we_cons.mpr (we_var.mpr ⟨_, rfl, we_nil.mpr ?_⟩))))
    refine bag1 (ns := ns) rfl h fun xs hb => ⟨_, rfl, fun _ => ?_, fun z => absurd rfl z⟩
    refine (law_ok hb (tab_at rfl) (by omega)).imp ?_
    rintro fl e s rfl
    rfl
  obtain ⟨t, st', e, rfl⟩ := WN.ex this
  exact ⟨st', e⟩
end K02


set_option Elab.async false
set_option linter.all false
set_option maxRecDepth 100000
set_option maxHeartbeats 0
namespace K02
open PySem PySem.Spec PyProof.Rows L2 Mp
section
variable {P : Program} {w : World} {k : Gk} {K : PySem.W.Frag} {h : Heap} {mg : Str → Option Value} {base : Heap}
abbrev HY (k : Gk) (K : PySem.W.Frag) (h : Heap) (mg : Str → Option Value) (base : Heap) : Prop := Hyp hf qs k K h mg base
theorem base_TearError (y : HY k K h mg base) : ∃ mkB fd, (∀ z, mkB [V.str z] = [(("word" : Str), V.str z)]) ∧ FnOk P w K mg base (L2.CX P w) 1 (He.ma K (He.ga K "TearError") "__init__") fd ["self", "word"] (spI K 1 ["word"] mkB) ∧ Binds K fd ["self", "word"] [] := by
  obtain ⟨fd, F⟩ := y.c.d.def_ 24 (d := d_ini_TearError) rfl
  have F : FunD K "__init__" d_ini_TearError.qual d_ini_TearError.params d_ini_TearError.body d_ini_TearError.scope [.str "TearError"] [] (He.ma K (He.ga K "TearError") "__init__") fd := F
  obtain ⟨mkB, h1, h2⟩ := exc_base (P := P) (w := w) (mg := mg) (base := base) F (by kernel_rfl) (by kernel_rfl)
  exact ⟨mkB, fd, h1, h2, bind_base F fun _ _ _ _ _ _ _ us its e1 e2 => match us, its with | [_, _], [_] => ⟨_, rfl, rfl⟩⟩
theorem base_Missing (y : HY k K h mg base) : ∃ mkB fd, (∀ z, mkB [V.str z] = [(("word" : Str), V.str z)]) ∧ FnOk P w K mg base (L2.CX P w) 1 (He.ma K (He.ga K "Missing") "__init__") fd ["self", "word"] (spI K 1 ["word"] mkB) ∧ Binds K fd ["self", "word"] [] := by
  obtain ⟨fd, F⟩ := y.c.d.def_ 25 (d := d_ini_Missing) rfl
  have F : FunD K "__init__" d_ini_Missing.qual d_ini_Missing.params d_ini_Missing.body d_ini_Missing.scope [.str "Missing"] [] (He.ma K (He.ga K "Missing") "__init__") fd := F
  obtain ⟨mkB, h1, h2⟩ := exc_base (P := P) (w := w) (mg := mg) (base := base) F (by kernel_rfl) (by kernel_rfl)
  exact ⟨mkB, fd, h1, h2, bind_base F fun _ _ _ _ _ _ _ us its e1 e2 => match us, its with | [_, _], [_] => ⟨_, rfl, rfl⟩⟩
theorem base_Stuck (y : HY k K h mg base) : ∃ mkB fd, (∀ z, mkB [V.str z] = [(("word" : Str), V.str z)]) ∧ FnOk P w K mg base (L2.CX P w) 1 (He.ma K (He.ga K "Stuck") "__init__") fd ["self", "word"] (spI K 1 ["word"] mkB) ∧ Binds K fd ["self", "word"] [] := by
  obtain ⟨fd, F⟩ := y.c.d.def_ 26 (d := d_ini_Stuck) rfl
  have F : FunD K "__init__" d_ini_Stuck.qual d_ini_Stuck.params d_ini_Stuck.body d_ini_Stuck.scope [.str "Stuck"] [] (He.ma K (He.ga K "Stuck") "__init__") fd := F
  obtain ⟨mkB, h1, h2⟩ := exc_base (P := P) (w := w) (mg := mg) (base := base) F (by kernel_rfl) (by kernel_rfl)
  exact ⟨mkB, fd, h1, h2, bind_base F fun _ _ _ _ _ _ _ us its e1 e2 => match us, its with | [_, _], [_] => ⟨_, rfl, rfl⟩⟩
theorem rs_BadColours (y : HY k K h mg base) : RaiseOk k P w mg base x_BadColours.c x_BadColours.ns := by
  obtain ⟨fd, F⟩ := y.c.d.def_ 27 (d := d_ini_BadColours) rfl
  have F : FunD K "__init__" d_ini_BadColours.qual d_ini_BadColours.params d_ini_BadColours.body d_ini_BadColours.scope [] [] (He.ma K (He.ga K x_BadColours.c) "__init__") fd := F
  obtain ⟨mkB, fdB, h1, h2, h3⟩ := base_TearError (P := P) (w := w) y
  exact raise_of (x := x_BadColours) y.hK y.cl y.X y.G (y.xc (List.mem_of_getElem? (i := 0) rfl)) (y.c.bs _ (List.mem_of_getElem? (i := 0) rfl)) F (by kernel_rfl) (by kernel_rfl) (by kernel_rfl) h1 h2 h3 (F.bindsN fun _ _ _ _ _ _ us hl => match us, hl with | [_, _], _ => rfl) (by decide)
theorem rs_BadFigure (y : HY k K h mg base) : RaiseOk k P w mg base x_BadFigure.c x_BadFigure.ns := by
  obtain ⟨fd, F⟩ := y.c.d.def_ 28 (d := d_ini_BadFigure) rfl
  have F : FunD K "__init__" d_ini_BadFigure.qual d_ini_BadFigure.params d_ini_BadFigure.body d_ini_BadFigure.scope [] [] (He.ma K (He.ga K x_BadFigure.c) "__init__") fd := F
  obtain ⟨mkB, fdB, h1, h2, h3⟩ := base_TearError (P := P) (w := w) y
  exact raise_of (x := x_BadFigure) y.hK y.cl y.X y.G (y.xc (List.mem_of_getElem? (i := 1) rfl)) (y.c.bs _ (List.mem_of_getElem? (i := 0) rfl)) F (by kernel_rfl) (by kernel_rfl) (by kernel_rfl) h1 h2 h3 (F.bindsN fun _ _ _ _ _ _ us hl => match us, hl with | [_, _], _ => rfl) (by decide)
theorem rs_Meeting (y : HY k K h mg base) : RaiseOk k P w mg base x_Meeting.c x_Meeting.ns := by
  obtain ⟨fd, F⟩ := y.c.d.def_ 29 (d := d_ini_Meeting) rfl
  have F : FunD K "__init__" d_ini_Meeting.qual d_ini_Meeting.params d_ini_Meeting.body d_ini_Meeting.scope [] [] (He.ma K (He.ga K x_Meeting.c) "__init__") fd := F
  obtain ⟨mkB, fdB, h1, h2, h3⟩ := base_TearError (P := P) (w := w) y
  exact raise_of (x := x_Meeting) y.hK y.cl y.X y.G (y.xc (List.mem_of_getElem? (i := 2) rfl)) (y.c.bs _ (List.mem_of_getElem? (i := 0) rfl)) F (by kernel_rfl) (by kernel_rfl) (by kernel_rfl) h1 h2 h3 (F.bindsN fun _ _ _ _ _ _ us hl => match us, hl with | [_, _, _], _ => rfl) (by decide)
theorem rs_TooMany (y : HY k K h mg base) : RaiseOk k P w mg base x_TooMany.c x_TooMany.ns := by
  obtain ⟨fd, F⟩ := y.c.d.def_ 30 (d := d_ini_TooMany) rfl
  have F : FunD K "__init__" d_ini_TooMany.qual d_ini_TooMany.params d_ini_TooMany.body d_ini_TooMany.scope [] [] (He.ma K (He.ga K x_TooMany.c) "__init__") fd := F
  obtain ⟨mkB, fdB, h1, h2, h3⟩ := base_TearError (P := P) (w := w) y
  exact raise_of (x := x_TooMany) y.hK y.cl y.X y.G (y.xc (List.mem_of_getElem? (i := 3) rfl)) (y.c.bs _ (List.mem_of_getElem? (i := 0) rfl)) F (by kernel_rfl) (by kernel_rfl) (by kernel_rfl) h1 h2 h3 (F.bindsN fun _ _ _ _ _ _ us hl => match us, hl with | [_, _], _ => rfl) (by decide)
theorem rs_TooFar (y : HY k K h mg base) : RaiseOk k P w mg base x_TooFar.c x_TooFar.ns := by
  obtain ⟨fd, F⟩ := y.c.d.def_ 31 (d := d_ini_TooFar) rfl
  have F : FunD K "__init__" d_ini_TooFar.qual d_ini_TooFar.params d_ini_TooFar.body d_ini_TooFar.scope [] [] (He.ma K (He.ga K x_TooFar.c) "__init__") fd := F
  obtain ⟨mkB, fdB, h1, h2, h3⟩ := base_TearError (P := P) (w := w) y
  exact raise_of (x := x_TooFar) y.hK y.cl y.X y.G (y.xc (List.mem_of_getElem? (i := 4) rfl)) (y.c.bs _ (List.mem_of_getElem? (i := 0) rfl)) F (by kernel_rfl) (by kernel_rfl) (by kernel_rfl) h1 h2 h3 (F.bindsN fun _ _ _ _ _ _ us hl => match us, hl with | [_, _], _ => rfl) (by decide)
theorem rs_BadOrder (y : HY k K h mg base) : RaiseOk k P w mg base x_BadOrder.c x_BadOrder.ns := by
  obtain ⟨fd, F⟩ := y.c.d.def_ 32 (d := d_ini_BadOrder) rfl
  have F : FunD K "__init__" d_ini_BadOrder.qual d_ini_BadOrder.params d_ini_BadOrder.body d_ini_BadOrder.scope [] [] (He.ma K (He.ga K x_BadOrder.c) "__init__") fd := F
  obtain ⟨mkB, fdB, h1, h2, h3⟩ := base_TearError (P := P) (w := w) y
  exact raise_of (x := x_BadOrder) y.hK y.cl y.X y.G (y.xc (List.mem_of_getElem? (i := 5) rfl)) (y.c.bs _ (List.mem_of_getElem? (i := 0) rfl)) F (by kernel_rfl) (by kernel_rfl) (by kernel_rfl) h1 h2 h3 (F.bindsN fun _ _ _ _ _ _ us hl => match us, hl with | [_], _ => rfl) (by decide)
theorem rs_OtherColours (y : HY k K h mg base) : RaiseOk k P w mg base x_OtherColours.c x_OtherColours.ns := by
  obtain ⟨fd, F⟩ := y.c.d.def_ 33 (d := d_ini_OtherColours) rfl
  have F : FunD K "__init__" d_ini_OtherColours.qual d_ini_OtherColours.params d_ini_OtherColours.body d_ini_OtherColours.scope [] [] (He.ma K (He.ga K x_OtherColours.c) "__init__") fd := F
  obtain ⟨mkB, fdB, h1, h2, h3⟩ := base_TearError (P := P) (w := w) y
  exact raise_of (x := x_OtherColours) y.hK y.cl y.X y.G (y.xc (List.mem_of_getElem? (i := 6) rfl)) (y.c.bs _ (List.mem_of_getElem? (i := 0) rfl)) F (by kernel_rfl) (by kernel_rfl) (by kernel_rfl) h1 h2 h3 (F.bindsN fun _ _ _ _ _ _ us hl => match us, hl with | [_], _ => rfl) (by decide)
theorem rs_OtherBook (y : HY k K h mg base) : RaiseOk k P w mg base x_OtherBook.c x_OtherBook.ns := by
  obtain ⟨fd, F⟩ := y.c.d.def_ 34 (d := d_ini_OtherBook) rfl
  have F : FunD K "__init__" d_ini_OtherBook.qual d_ini_OtherBook.params d_ini_OtherBook.body d_ini_OtherBook.scope [] [] (He.ma K (He.ga K x_OtherBook.c) "__init__") fd := F
  obtain ⟨mkB, fdB, h1, h2, h3⟩ := base_TearError (P := P) (w := w) y
  exact raise_of (x := x_OtherBook) y.hK y.cl y.X y.G (y.xc (List.mem_of_getElem? (i := 7) rfl)) (y.c.bs _ (List.mem_of_getElem? (i := 0) rfl)) F (by kernel_rfl) (by kernel_rfl) (by kernel_rfl) h1 h2 h3 (F.bindsN fun _ _ _ _ _ _ us hl => match us, hl with | [_], _ => rfl) (by decide)
theorem rs_BadRow (y : HY k K h mg base) : RaiseOk k P w mg base x_BadRow.c x_BadRow.ns := by
  obtain ⟨fd, F⟩ := y.c.d.def_ 35 (d := d_ini_BadRow) rfl
  have F : FunD K "__init__" d_ini_BadRow.qual d_ini_BadRow.params d_ini_BadRow.body d_ini_BadRow.scope [] [] (He.ma K (He.ga K x_BadRow.c) "__init__") fd := F
  obtain ⟨mkB, fdB, h1, h2, h3⟩ := base_TearError (P := P) (w := w) y
  exact raise_of (x := x_BadRow) y.hK y.cl y.X y.G (y.xc (List.mem_of_getElem? (i := 8) rfl)) (y.c.bs _ (List.mem_of_getElem? (i := 0) rfl)) F (by kernel_rfl) (by kernel_rfl) (by kernel_rfl) h1 h2 h3 (F.bindsN fun _ _ _ _ _ _ us hl => match us, hl with | [_, _], _ => rfl) (by decide)
theorem rs_BadNote (y : HY k K h mg base) : RaiseOk k P w mg base x_BadNote.c x_BadNote.ns := by
  obtain ⟨fd, F⟩ := y.c.d.def_ 36 (d := d_ini_BadNote) rfl
  have F : FunD K "__init__" d_ini_BadNote.qual d_ini_BadNote.params d_ini_BadNote.body d_ini_BadNote.scope [] [] (He.ma K (He.ga K x_BadNote.c) "__init__") fd := F
  obtain ⟨mkB, fdB, h1, h2, h3⟩ := base_TearError (P := P) (w := w) y
  exact raise_of (x := x_BadNote) y.hK y.cl y.X y.G (y.xc (List.mem_of_getElem? (i := 9) rfl)) (y.c.bs _ (List.mem_of_getElem? (i := 0) rfl)) F (by kernel_rfl) (by kernel_rfl) (by kernel_rfl) h1 h2 h3 (F.bindsN fun _ _ _ _ _ _ us hl => match us, hl with | [_, _], _ => rfl) (by decide)
theorem rs_BadBeneath (y : HY k K h mg base) : RaiseOk k P w mg base x_BadBeneath.c x_BadBeneath.ns := by
  obtain ⟨fd, F⟩ := y.c.d.def_ 37 (d := d_ini_BadBeneath) rfl
  have F : FunD K "__init__" d_ini_BadBeneath.qual d_ini_BadBeneath.params d_ini_BadBeneath.body d_ini_BadBeneath.scope [] [] (He.ma K (He.ga K x_BadBeneath.c) "__init__") fd := F
  obtain ⟨mkB, fdB, h1, h2, h3⟩ := base_TearError (P := P) (w := w) y
  exact raise_of (x := x_BadBeneath) y.hK y.cl y.X y.G (y.xc (List.mem_of_getElem? (i := 10) rfl)) (y.c.bs _ (List.mem_of_getElem? (i := 0) rfl)) F (by kernel_rfl) (by kernel_rfl) (by kernel_rfl) h1 h2 h3 (F.bindsN fun _ _ _ _ _ _ us hl => match us, hl with | [_], _ => rfl) (by decide)
theorem rs_Full (y : HY k K h mg base) : RaiseOk k P w mg base x_Full.c x_Full.ns := by
  obtain ⟨fd, F⟩ := y.c.d.def_ 38 (d := d_ini_Full) rfl
  have F : FunD K "__init__" d_ini_Full.qual d_ini_Full.params d_ini_Full.body d_ini_Full.scope [] [] (He.ma K (He.ga K x_Full.c) "__init__") fd := F
  obtain ⟨mkB, fdB, h1, h2, h3⟩ := base_TearError (P := P) (w := w) y
  exact raise_of (x := x_Full) y.hK y.cl y.X y.G (y.xc (List.mem_of_getElem? (i := 11) rfl)) (y.c.bs _ (List.mem_of_getElem? (i := 0) rfl)) F (by kernel_rfl) (by kernel_rfl) (by kernel_rfl) h1 h2 h3 (F.bindsN fun _ _ _ _ _ _ us hl => match us, hl with | [_, _], _ => rfl) (by decide)
theorem rs_NoEnd (y : HY k K h mg base) : RaiseOk k P w mg base x_NoEnd.c x_NoEnd.ns := by
  obtain ⟨fd, F⟩ := y.c.d.def_ 39 (d := d_ini_NoEnd) rfl
  have F : FunD K "__init__" d_ini_NoEnd.qual d_ini_NoEnd.params d_ini_NoEnd.body d_ini_NoEnd.scope [] [] (He.ma K (He.ga K x_NoEnd.c) "__init__") fd := F
  obtain ⟨mkB, fdB, h1, h2, h3⟩ := base_TearError (P := P) (w := w) y
  exact raise_of (x := x_NoEnd) y.hK y.cl y.X y.G (y.xc (List.mem_of_getElem? (i := 12) rfl)) (y.c.bs _ (List.mem_of_getElem? (i := 0) rfl)) F (by kernel_rfl) (by kernel_rfl) (by kernel_rfl) h1 h2 h3 (F.bindsN fun _ _ _ _ _ _ us hl => match us, hl with | [_, _], _ => rfl) (by decide)
theorem rs_NotStanding (y : HY k K h mg base) : RaiseOk k P w mg base x_NotStanding.c x_NotStanding.ns := by
  obtain ⟨fd, F⟩ := y.c.d.def_ 40 (d := d_ini_NotStanding) rfl
  have F : FunD K "__init__" d_ini_NotStanding.qual d_ini_NotStanding.params d_ini_NotStanding.body d_ini_NotStanding.scope [] [] (He.ma K (He.ga K x_NotStanding.c) "__init__") fd := F
  obtain ⟨mkB, fdB, h1, h2, h3⟩ := base_TearError (P := P) (w := w) y
  exact raise_of (x := x_NotStanding) y.hK y.cl y.X y.G (y.xc (List.mem_of_getElem? (i := 13) rfl)) (y.c.bs _ (List.mem_of_getElem? (i := 0) rfl)) F (by kernel_rfl) (by kernel_rfl) (by kernel_rfl) h1 h2 h3 (F.bindsN fun _ _ _ _ _ _ us hl => match us, hl with | [_, _], _ => rfl) (by decide)
theorem rs_NeverClear (y : HY k K h mg base) : RaiseOk k P w mg base x_NeverClear.c x_NeverClear.ns := by
  obtain ⟨fd, F⟩ := y.c.d.def_ 41 (d := d_ini_NeverClear) rfl
  have F : FunD K "__init__" d_ini_NeverClear.qual d_ini_NeverClear.params d_ini_NeverClear.body d_ini_NeverClear.scope [] [] (He.ma K (He.ga K x_NeverClear.c) "__init__") fd := F
  obtain ⟨mkB, fdB, h1, h2, h3⟩ := base_TearError (P := P) (w := w) y
  exact raise_of (x := x_NeverClear) y.hK y.cl y.X y.G (y.xc (List.mem_of_getElem? (i := 14) rfl)) (y.c.bs _ (List.mem_of_getElem? (i := 0) rfl)) F (by kernel_rfl) (by kernel_rfl) (by kernel_rfl) h1 h2 h3 (F.bindsN fun _ _ _ _ _ _ us hl => match us, hl with | [_, _], _ => rfl) (by decide)
theorem rs_BadDeed (y : HY k K h mg base) : RaiseOk k P w mg base x_BadDeed.c x_BadDeed.ns := by
  obtain ⟨fd, F⟩ := y.c.d.def_ 42 (d := d_ini_BadDeed) rfl
  have F : FunD K "__init__" d_ini_BadDeed.qual d_ini_BadDeed.params d_ini_BadDeed.body d_ini_BadDeed.scope [] [] (He.ma K (He.ga K x_BadDeed.c) "__init__") fd := F
  obtain ⟨mkB, fdB, h1, h2, h3⟩ := base_TearError (P := P) (w := w) y
  exact raise_of (x := x_BadDeed) y.hK y.cl y.X y.G (y.xc (List.mem_of_getElem? (i := 15) rfl)) (y.c.bs _ (List.mem_of_getElem? (i := 0) rfl)) F (by kernel_rfl) (by kernel_rfl) (by kernel_rfl) h1 h2 h3 (F.bindsN fun _ _ _ _ _ _ us hl => match us, hl with | [_], _ => rfl) (by decide)
theorem rs_BadNumber (y : HY k K h mg base) : RaiseOk k P w mg base x_BadNumber.c x_BadNumber.ns := by
  obtain ⟨fd, F⟩ := y.c.d.def_ 43 (d := d_ini_BadNumber) rfl
  have F : FunD K "__init__" d_ini_BadNumber.qual d_ini_BadNumber.params d_ini_BadNumber.body d_ini_BadNumber.scope [] [] (He.ma K (He.ga K x_BadNumber.c) "__init__") fd := F
  obtain ⟨mkB, fdB, h1, h2, h3⟩ := base_TearError (P := P) (w := w) y
  exact raise_of (x := x_BadNumber) y.hK y.cl y.X y.G (y.xc (List.mem_of_getElem? (i := 16) rfl)) (y.c.bs _ (List.mem_of_getElem? (i := 0) rfl)) F (by kernel_rfl) (by kernel_rfl) (by kernel_rfl) h1 h2 h3 (F.bindsN fun _ _ _ _ _ _ us hl => match us, hl with | [_, _], _ => rfl) (by decide)
theorem rs_NoBeginning (y : HY k K h mg base) : RaiseOk k P w mg base x_NoBeginning.c x_NoBeginning.ns := by
  obtain ⟨fd, F⟩ := y.c.d.def_ 44 (d := d_ini_NoBeginning) rfl
  have F : FunD K "__init__" d_ini_NoBeginning.qual d_ini_NoBeginning.params d_ini_NoBeginning.body d_ini_NoBeginning.scope [] [] (He.ma K (He.ga K x_NoBeginning.c) "__init__") fd := F
  obtain ⟨mkB, fdB, h1, h2, h3⟩ := base_TearError (P := P) (w := w) y
  exact raise_of (x := x_NoBeginning) y.hK y.cl y.X y.G (y.xc (List.mem_of_getElem? (i := 17) rfl)) (y.c.bs _ (List.mem_of_getElem? (i := 0) rfl)) F (by kernel_rfl) (by kernel_rfl) (by kernel_rfl) h1 h2 h3 (F.bindsN fun _ _ _ _ _ _ us hl => match us, hl with | [_], _ => rfl) (by decide)
theorem rs_Barred (y : HY k K h mg base) : RaiseOk k P w mg base x_Barred.c x_Barred.ns := by
  obtain ⟨fd, F⟩ := y.c.d.def_ 45 (d := d_ini_Barred) rfl
  have F : FunD K "__init__" d_ini_Barred.qual d_ini_Barred.params d_ini_Barred.body d_ini_Barred.scope [] [] (He.ma K (He.ga K x_Barred.c) "__init__") fd := F
  obtain ⟨mkB, fdB, h1, h2, h3⟩ := base_TearError (P := P) (w := w) y
  exact raise_of (x := x_Barred) y.hK y.cl y.X y.G (y.xc (List.mem_of_getElem? (i := 18) rfl)) (y.c.bs _ (List.mem_of_getElem? (i := 0) rfl)) F (by kernel_rfl) (by kernel_rfl) (by kernel_rfl) h1 h2 h3 (F.bindsN fun _ _ _ _ _ _ us hl => match us, hl with | [_, _], _ => rfl) (by decide)
theorem rs_BadHeights (y : HY k K h mg base) : RaiseOk k P w mg base x_BadHeights.c x_BadHeights.ns := by
  obtain ⟨fd, F⟩ := y.c.d.def_ 46 (d := d_ini_BadHeights) rfl
  have F : FunD K "__init__" d_ini_BadHeights.qual d_ini_BadHeights.params d_ini_BadHeights.body d_ini_BadHeights.scope [] [] (He.ma K (He.ga K x_BadHeights.c) "__init__") fd := F
  obtain ⟨mkB, fdB, h1, h2, h3⟩ := base_TearError (P := P) (w := w) y
  exact raise_of (x := x_BadHeights) y.hK y.cl y.X y.G (y.xc (List.mem_of_getElem? (i := 19) rfl)) (y.c.bs _ (List.mem_of_getElem? (i := 0) rfl)) F (by kernel_rfl) (by kernel_rfl) (by kernel_rfl) h1 h2 h3 (F.bindsN fun _ _ _ _ _ _ us hl => match us, hl with | [_, _], _ => rfl) (by decide)
theorem rs_BadWeights (y : HY k K h mg base) : RaiseOk k P w mg base x_BadWeights.c x_BadWeights.ns := by
  obtain ⟨fd, F⟩ := y.c.d.def_ 47 (d := d_ini_BadWeights) rfl
  have F : FunD K "__init__" d_ini_BadWeights.qual d_ini_BadWeights.params d_ini_BadWeights.body d_ini_BadWeights.scope [] [] (He.ma K (He.ga K x_BadWeights.c) "__init__") fd := F
  obtain ⟨mkB, fdB, h1, h2, h3⟩ := base_TearError (P := P) (w := w) y
  exact raise_of (x := x_BadWeights) y.hK y.cl y.X y.G (y.xc (List.mem_of_getElem? (i := 20) rfl)) (y.c.bs _ (List.mem_of_getElem? (i := 0) rfl)) F (by kernel_rfl) (by kernel_rfl) (by kernel_rfl) h1 h2 h3 (F.bindsN fun _ _ _ _ _ _ us hl => match us, hl with | [_, _], _ => rfl) (by decide)
theorem rs_NoMean (y : HY k K h mg base) : RaiseOk k P w mg base x_NoMean.c x_NoMean.ns := by
  obtain ⟨fd, F⟩ := y.c.d.def_ 48 (d := d_ini_NoMean) rfl
  have F : FunD K "__init__" d_ini_NoMean.qual d_ini_NoMean.params d_ini_NoMean.body d_ini_NoMean.scope [] [] (He.ma K (He.ga K x_NoMean.c) "__init__") fd := F
  obtain ⟨mkB, fdB, h1, h2, h3⟩ := base_TearError (P := P) (w := w) y
  exact raise_of (x := x_NoMean) y.hK y.cl y.X y.G (y.xc (List.mem_of_getElem? (i := 21) rfl)) (y.c.bs _ (List.mem_of_getElem? (i := 0) rfl)) F (by kernel_rfl) (by kernel_rfl) (by kernel_rfl) h1 h2 h3 (F.bindsN fun _ _ _ _ _ _ us hl => match us, hl with | [_], _ => rfl) (by decide)
theorem rs_BadText (y : HY k K h mg base) : RaiseOk k P w mg base x_BadText.c x_BadText.ns := by
  obtain ⟨fd, F⟩ := y.c.d.def_ 49 (d := d_ini_BadText) rfl
  have F : FunD K "__init__" d_ini_BadText.qual d_ini_BadText.params d_ini_BadText.body d_ini_BadText.scope [] [] (He.ma K (He.ga K x_BadText.c) "__init__") fd := F
  obtain ⟨mkB, fdB, h1, h2, h3⟩ := base_TearError (P := P) (w := w) y
  exact raise_of (x := x_BadText) y.hK y.cl y.X y.G (y.xc (List.mem_of_getElem? (i := 22) rfl)) (y.c.bs _ (List.mem_of_getElem? (i := 0) rfl)) F (by kernel_rfl) (by kernel_rfl) (by kernel_rfl) h1 h2 h3 (F.bindsN fun _ _ _ _ _ _ us hl => match us, hl with | [_, _], _ => rfl) (by decide)
theorem rs_NoPad (y : HY k K h mg base) : RaiseOk k P w mg base x_NoPad.c x_NoPad.ns := by
  obtain ⟨fd, F⟩ := y.c.d.def_ 50 (d := d_ini_NoPad) rfl
  have F : FunD K "__init__" d_ini_NoPad.qual d_ini_NoPad.params d_ini_NoPad.body d_ini_NoPad.scope [] [] (He.ma K (He.ga K x_NoPad.c) "__init__") fd := F
  obtain ⟨mkB, fdB, h1, h2, h3⟩ := base_Missing (P := P) (w := w) y
  exact raise_of (x := x_NoPad) y.hK y.cl y.X y.G (y.xc (List.mem_of_getElem? (i := 23) rfl)) (y.c.bs _ (List.mem_of_getElem? (i := 1) rfl)) F (by kernel_rfl) (by kernel_rfl) (by kernel_rfl) h1 h2 h3 (F.bindsN fun _ _ _ _ _ _ us hl => match us, hl with | [_, _], _ => rfl) (by decide)
theorem rs_NoFigure (y : HY k K h mg base) : RaiseOk k P w mg base x_NoFigure.c x_NoFigure.ns := by
  obtain ⟨fd, F⟩ := y.c.d.def_ 51 (d := d_ini_NoFigure) rfl
  have F : FunD K "__init__" d_ini_NoFigure.qual d_ini_NoFigure.params d_ini_NoFigure.body d_ini_NoFigure.scope [] [] (He.ma K (He.ga K x_NoFigure.c) "__init__") fd := F
  obtain ⟨mkB, fdB, h1, h2, h3⟩ := base_Missing (P := P) (w := w) y
  exact raise_of (x := x_NoFigure) y.hK y.cl y.X y.G (y.xc (List.mem_of_getElem? (i := 24) rfl)) (y.c.bs _ (List.mem_of_getElem? (i := 1) rfl)) F (by kernel_rfl) (by kernel_rfl) (by kernel_rfl) h1 h2 h3 (F.bindsN fun _ _ _ _ _ _ us hl => match us, hl with | [_, _], _ => rfl) (by decide)
theorem rs_NoNote (y : HY k K h mg base) : RaiseOk k P w mg base x_NoNote.c x_NoNote.ns := by
  obtain ⟨fd, F⟩ := y.c.d.def_ 52 (d := d_ini_NoNote) rfl
  have F : FunD K "__init__" d_ini_NoNote.qual d_ini_NoNote.params d_ini_NoNote.body d_ini_NoNote.scope [] [] (He.ma K (He.ga K x_NoNote.c) "__init__") fd := F
  obtain ⟨mkB, fdB, h1, h2, h3⟩ := base_Missing (P := P) (w := w) y
  exact raise_of (x := x_NoNote) y.hK y.cl y.X y.G (y.xc (List.mem_of_getElem? (i := 25) rfl)) (y.c.bs _ (List.mem_of_getElem? (i := 1) rfl)) F (by kernel_rfl) (by kernel_rfl) (by kernel_rfl) h1 h2 h3 (F.bindsN fun _ _ _ _ _ _ us hl => match us, hl with | [_, _], _ => rfl) (by decide)
theorem rs_NothingBack (y : HY k K h mg base) : RaiseOk k P w mg base x_NothingBack.c x_NothingBack.ns := by
  obtain ⟨fd, F⟩ := y.c.d.def_ 53 (d := d_ini_NothingBack) rfl
  have F : FunD K "__init__" d_ini_NothingBack.qual d_ini_NothingBack.params d_ini_NothingBack.body d_ini_NothingBack.scope [] [] (He.ma K (He.ga K x_NothingBack.c) "__init__") fd := F
  obtain ⟨mkB, fdB, h1, h2, h3⟩ := base_Stuck (P := P) (w := w) y
  exact raise_of (x := x_NothingBack) y.hK y.cl y.X y.G (y.xc (List.mem_of_getElem? (i := 26) rfl)) (y.c.bs _ (List.mem_of_getElem? (i := 2) rfl)) F (by kernel_rfl) (by kernel_rfl) (by kernel_rfl) h1 h2 h3 (F.bindsN fun _ _ _ _ _ _ us hl => match us, hl with | [_], _ => rfl) (by decide)
theorem rs_NothingAgain (y : HY k K h mg base) : RaiseOk k P w mg base x_NothingAgain.c x_NothingAgain.ns := by
  obtain ⟨fd, F⟩ := y.c.d.def_ 54 (d := d_ini_NothingAgain) rfl
  have F : FunD K "__init__" d_ini_NothingAgain.qual d_ini_NothingAgain.params d_ini_NothingAgain.body d_ini_NothingAgain.scope [] [] (He.ma K (He.ga K x_NothingAgain.c) "__init__") fd := F
  obtain ⟨mkB, fdB, h1, h2, h3⟩ := base_Stuck (P := P) (w := w) y
  exact raise_of (x := x_NothingAgain) y.hK y.cl y.X y.G (y.xc (List.mem_of_getElem? (i := 27) rfl)) (y.c.bs _ (List.mem_of_getElem? (i := 2) rfl)) F (by kernel_rfl) (by kernel_rfl) (by kernel_rfl) h1 h2 h3 (F.bindsN fun _ _ _ _ _ _ us hl => match us, hl with | [_], _ => rfl) (by decide)
theorem rse (y : HY k K h mg base) : ∀ c ns, (excT xs).lookup c = some ns → RaiseOk k P w mg base c ns := by
  intro c ns e
  obtain ⟨x, hx, rfl, rfl⟩ := excT_mem e
  simp only [xs, List.mem_cons, List.not_mem_nil, or_false] at hx
  rcases hx with rfl | rfl | rfl | rfl | rfl | rfl | rfl | rfl | rfl | rfl | rfl | rfl | rfl | rfl | rfl | rfl | rfl | rfl | rfl | rfl | rfl | rfl | rfl | rfl | rfl | rfl | rfl | rfl
  · exact rs_BadColours y
  · exact rs_BadFigure y
  · exact rs_Meeting y
  · exact rs_TooMany y
  · exact rs_TooFar y
  · exact rs_BadOrder y
  · exact rs_OtherColours y
  · exact rs_OtherBook y
  · exact rs_BadRow y
  · exact rs_BadNote y
  · exact rs_BadBeneath y
  · exact rs_Full y
  · exact rs_NoEnd y
  · exact rs_NotStanding y
  · exact rs_NeverClear y
  · exact rs_BadDeed y
  · exact rs_BadNumber y
  · exact rs_NoBeginning y
  · exact rs_Barred y
  · exact rs_BadHeights y
  · exact rs_BadWeights y
  · exact rs_NoMean y
  · exact rs_BadText y
  · exact rs_NoPad y
  · exact rs_NoFigure y
  · exact rs_NoNote y
  · exact rs_NothingBack y
  · exact rs_NothingAgain y
theorem gen0 (y : HY k K h mg base) : GenOk k G0 P w K mg base := by
  refine gen_base (ex := excT xs) (fun p hp => ?_) (fun x hx => ?_) y.xn (y.exc (by kernel_rfl)) (rse y)
  · simp only [consts, List.mem_cons, List.not_mem_nil, or_false] at hp
    rcases hp with rfl | rfl | rfl | rfl
    · obtain ⟨t, e⟩ := He.int_ok y.X y.G (y.c.d.fact 40 rfl)
      exact ⟨_, .int _, e, ⟨t, rfl⟩, fun g => rep_int⟩
    · obtain ⟨t, e⟩ := He.int_ok y.X y.G (y.c.d.fact 41 rfl)
      exact ⟨_, .int _, e, ⟨t, rfl⟩, fun g => rep_int⟩
    · obtain ⟨t, e⟩ := He.int_ok y.X y.G (y.c.d.fact 42 rfl)
      exact ⟨_, .int _, e, ⟨t, rfl⟩, fun g => rep_int⟩
    · obtain ⟨t, e⟩ := He.int_ok y.X y.G (y.c.d.fact 43 rfl)
      exact ⟨_, .int _, e, ⟨t, rfl⟩, fun g => rep_int⟩
  · simp only [bltNames, List.mem_cons, List.not_mem_nil, or_false] at hx
    rcases hx with rfl | rfl | rfl | rfl | rfl | rfl | rfl | rfl | rfl | rfl | rfl | rfl | rfl | rfl | rfl | rfl
    · exact y.free 24 rfl
    · exact y.free 25 rfl
    · exact y.free 26 rfl
    · exact y.free 27 rfl
    · exact y.free 28 rfl
    · exact y.free 29 rfl
    · exact y.free 30 rfl
    · exact y.free 31 rfl
    · exact y.free 32 rfl
    · exact y.free 33 rfl
    · exact y.free 34 rfl
    · exact y.free 35 rfl
    · exact y.free 36 rfl
    · exact y.free 37 rfl
    · exact y.free 38 rfl
    · exact y.free 39 rfl
theorem gen_fld_Book (y : HY k K h mg base) : GenOk k G_fld_Book P w K mg base := by
  refine (gen0 y).addFld (x := "Book") (fs := ["hues", "shapes"]) (by rw [y.cl]; exact He.cls_ok (y.c.d.fact 45 (f := .cls "Book") rfl)) fun f hf => ?_
  have hf : f ∈ (["hues", "shapes"] : List Str) := by simpa using hf
  simp only [List.mem_cons, List.not_mem_nil, or_false] at hf
  rw [y.cl]
  rcases hf with rfl | rfl
  · exact He.noat_ok (y.c.d.fact 47 (f := .noat "Book" "hues") rfl)
  · exact He.noat_ok (y.c.d.fact 48 (f := .noat "Book" "shapes") rfl)
theorem ok_need_colours (y : HY k K h mg base) : ∃ fd, Binds K fd ["colours"] [] ∧ PySem.W.keepIn K (.ref (He.fAd K ("need_colours", none))) = true ∧ FnOk P w K mg base (L2.CX P w) 4 (He.fAd K ("need_colours", none)) fd ["colours"] (spOf k false e_need_colours.fn) := by
  obtain ⟨fd, F⟩ := y.c.d.def_ 0 (d := d_need_colours) rfl
  have F : FunD K "need_colours" "need_colours" (defArgs (top 38)) (defBody (top 38)) (defScope (top 38)) [] [] (He.fAd K ("need_colours", none)) fd := F
  exact ⟨fd, (F.bindsN fun _ _ _ _ _ _ us hl => match us, hl with | [_], _ => rfl), F.kp, fn_den (c := c_need_colours) y.hK F (N := ["colours", "at", "many"]) rfl (by decide +kernel) rfl rfl (gen_fld_Book y) (fun _ _ e => by cases e)⟩
theorem gen_need_colours (y : HY k K h mg base) : GenOk k G_need_colours P w K mg base := by
  obtain ⟨fd, B, kp, F⟩ := ok_need_colours (P := P) (w := w) y
  exact (gen_fld_Book y).cons (x := "need_colours") (e := e_need_colours) (y.glo 0 rfl) kp B F
theorem ok_is_triple (y : HY k K h mg base) : ∃ fd, Binds K fd ["colours", "triple", "least"] [] ∧ PySem.W.keepIn K (.ref (He.fAd K ("is_triple", none))) = true ∧ FnOk P w K mg base (L2.CX P w) 1 (He.fAd K ("is_triple", none)) fd ["colours", "triple", "least"] (spOf k false e_is_triple.fn) := by
  obtain ⟨fd, F⟩ := y.c.d.def_ 1 (d := d_is_triple) rfl
  have F : FunD K "is_triple" "is_triple" (defArgs (top 39)) (defBody (top 39)) (defScope (top 39)) [] [] (He.fAd K ("is_triple", none)) fd := F
  exact ⟨fd, (F.bindsN fun _ _ _ _ _ _ us hl => match us, hl with | [_, _, _], _ => rfl), F.kp, fn_den (c := c_is_triple) y.hK F (N := ["colours", "triple", "least", "pad", "note", "depth"]) rfl (by decide +kernel) rfl rfl (gen_need_colours y) (fun _ _ e => by cases e)⟩
theorem gen_is_triple (y : HY k K h mg base) : GenOk k G_is_triple P w K mg base := by
  obtain ⟨fd, B, kp, F⟩ := ok_is_triple (P := P) (w := w) y
  exact (gen_need_colours y).cons (x := "is_triple") (e := e_is_triple) (y.glo 1 rfl) kp B F
theorem ok_is_figure (y : HY k K h mg base) : ∃ fd, Binds K fd ["colours", "figure"] [] ∧ PySem.W.keepIn K (.ref (He.fAd K ("is_figure", none))) = true ∧ FnOk P w K mg base (L2.CX P w) 2 (He.fAd K ("is_figure", none)) fd ["colours", "figure"] (spOf k false e_is_figure.fn) := by
  obtain ⟨fd, F⟩ := y.c.d.def_ 2 (d := d_is_figure) rfl
  have F : FunD K "is_figure" "is_figure" (defArgs (top 40)) (defBody (top 40)) (defScope (top 40)) [] [] (He.fAd K ("is_figure", none)) fd := F
  exact ⟨fd, (F.bindsN fun _ _ _ _ _ _ us hl => match us, hl with | [_, _], _ => rfl), F.kp, fn_den (c := c_is_figure) y.hK F (N := ["colours", "figure", "least", "triple"]) rfl (by decide +kernel) rfl rfl (gen_is_triple y) (fun _ _ e => by cases e)⟩
theorem gen_is_figure (y : HY k K h mg base) : GenOk k G_is_figure P w K mg base := by
  obtain ⟨fd, B, kp, F⟩ := ok_is_figure (P := P) (w := w) y
  exact (gen_is_triple y).cons (x := "is_figure") (e := e_is_figure) (y.glo 2 rfl) kp B F
theorem ok_need_figures (y : HY k K h mg base) : ∃ fd, Binds K fd ["colours", "figures"] [] ∧ PySem.W.keepIn K (.ref (He.fAd K ("need_figures", none))) = true ∧ FnOk P w K mg base (L2.CX P w) 4 (He.fAd K ("need_figures", none)) fd ["colours", "figures"] (spOf k false e_need_figures.fn) := by
  obtain ⟨fd, F⟩ := y.c.d.def_ 3 (d := d_need_figures) rfl
  have F : FunD K "need_figures" "need_figures" (defArgs (top 41)) (defBody (top 41)) (defScope (top 41)) [] [] (He.fAd K ("need_figures", none)) fd := F
  exact ⟨fd, (F.bindsN fun _ _ _ _ _ _ us hl => match us, hl with | [_, _], _ => rfl), F.kp, fn_den (c := c_need_figures) y.hK F (N := ["colours", "figures", "at", "figure"]) rfl (by decide +kernel) rfl rfl (gen_is_figure y) (fun _ _ e => by cases e)⟩
theorem gen_need_figures (y : HY k K h mg base) : GenOk k G_need_figures P w K mg base := by
  obtain ⟨fd, B, kp, F⟩ := ok_need_figures (P := P) (w := w) y
  exact (gen_is_figure y).cons (x := "need_figures") (e := e_need_figures) (y.glo 3 rfl) kp B F
theorem ok_pads_of (y : HY k K h mg base) : ∃ fd, Binds K fd ["figure"] [] ∧ PySem.W.keepIn K (.ref (He.fAd K ("pads_of", none))) = true ∧ FnOk P w K mg base (L2.CX P w) 1 (He.fAd K ("pads_of", none)) fd ["figure"] (spOf k true e_pads_of.fn) := by
  obtain ⟨fd, F⟩ := y.c.d.def_ 4 (d := d_pads_of) rfl
  have F : FunD K "pads_of" "pads_of" (defArgs (top 42)) (defBody (top 42)) (defScope (top 42)) [] [] (He.fAd K ("pads_of", none)) fd := F
  exact ⟨fd, (F.bindsN fun _ _ _ _ _ _ us hl => match us, hl with | [_], _ => rfl), F.kp, fn_den (c := c_pads_of) y.hK F (N := ["figure", "pad", "note", "depth"]) rfl (by decide +kernel) rfl rfl (gen_need_figures y) (fun _ _ e => by cases e)⟩
theorem gen_pads_of (y : HY k K h mg base) : GenOk k G_pads_of P w K mg base := by
  obtain ⟨fd, B, kp, F⟩ := ok_pads_of (P := P) (w := w) y
  exact (gen_need_figures y).cons (x := "pads_of") (e := e_pads_of) (y.glo 4 rfl) kp B F
theorem ok_share (y : HY k K h mg base) : ∃ fd, Binds K fd ["one", "other"] [] ∧ PySem.W.keepIn K (.ref (He.fAd K ("share", none))) = true ∧ FnOk P w K mg base (L2.CX P w) 2 (He.fAd K ("share", none)) fd ["one", "other"] (spOf k false e_share.fn) := by
  obtain ⟨fd, F⟩ := y.c.d.def_ 5 (d := d_share) rfl
  have F : FunD K "share" "share" (defArgs (top 43)) (defBody (top 43)) (defScope (top 43)) [] [] (He.fAd K ("share", none)) fd := F
  exact ⟨fd, (F.bindsN fun _ _ _ _ _ _ us hl => match us, hl with | [_, _], _ => rfl), F.kp, fn_den (c := c_share) y.hK F (N := ["one", "other", "mine", "pad"]) rfl (by decide +kernel) rfl rfl (gen_pads_of y) (fun _ _ e => by cases e)⟩
theorem gen_share (y : HY k K h mg base) : GenOk k G_share P w K mg base := by
  obtain ⟨fd, B, kp, F⟩ := ok_share (P := P) (w := w) y
  exact (gen_pads_of y).cons (x := "share") (e := e_share) (y.glo 5 rfl) kp B F
theorem ok_bar (y : HY k K h mg base) : ∃ fd, Binds K fd ["one", "other"] [] ∧ PySem.W.keepIn K (.ref (He.fAd K ("bar", none))) = true ∧ FnOk P w K mg base (L2.CX P w) 1 (He.fAd K ("bar", none)) fd ["one", "other"] (spOf k false e_bar.fn) := by
  obtain ⟨fd, F⟩ := y.c.d.def_ 6 (d := d_bar) rfl
  have F : FunD K "bar" "bar" (defArgs (top 44)) (defBody (top 44)) (defScope (top 44)) [] [] (He.fAd K ("bar", none)) fd := F
  exact ⟨fd, (F.bindsN fun _ _ _ _ _ _ us hl => match us, hl with | [_, _], _ => rfl), F.kp, fn_den (c := c_bar) y.hK F (N := ["one", "other", "wants", "pad", "note", "depth"]) rfl (by decide +kernel) rfl rfl (gen_share y) (fun _ _ e => by cases e)⟩
theorem gen_bar (y : HY k K h mg base) : GenOk k G_bar P w K mg base := by
  obtain ⟨fd, B, kp, F⟩ := ok_bar (P := P) (w := w) y
  exact (gen_share y).cons (x := "bar") (e := e_bar) (y.glo 6 rfl) kp B F
theorem ok_need_barred (y : HY k K h mg base) : ∃ fd, Binds K fd ["figures"] [] ∧ PySem.W.keepIn K (.ref (He.fAd K ("need_barred", none))) = true ∧ FnOk P w K mg base (L2.CX P w) 4 (He.fAd K ("need_barred", none)) fd ["figures"] (spOf k false e_need_barred.fn) := by
  obtain ⟨fd, F⟩ := y.c.d.def_ 7 (d := d_need_barred) rfl
  have F : FunD K "need_barred" "need_barred" (defArgs (top 45)) (defBody (top 45)) (defScope (top 45)) [] [] (He.fAd K ("need_barred", none)) fd := F
  exact ⟨fd, (F.bindsN fun _ _ _ _ _ _ us hl => match us, hl with | [_], _ => rfl), F.kp, fn_den (c := c_need_barred) y.hK F (N := ["figures", "one", "other"]) rfl (by decide +kernel) rfl rfl (gen_bar y) (fun _ _ e => by cases e)⟩
theorem gen_need_barred (y : HY k K h mg base) : GenOk k G_need_barred P w K mg base := by
  obtain ⟨fd, B, kp, F⟩ := ok_need_barred (P := P) (w := w) y
  exact (gen_bar y).cons (x := "need_barred") (e := e_need_barred) (y.glo 7 rfl) kp B F
theorem sh_Book_init {fd : FuncData} (F : FunD K "__init__" "Book.__init__" (defArgs (clsDef "__init__" (top 47))) (defBody (clsDef "__init__" (top 47))) (defScope (clsDef "__init__" (top 47))) [] [] (He.ma K (He.ga K "Book") "__init__") fd) : ∀ sh ∈ k_Book.shp, ∃ gA gV, KBn K fd ["self", "colours", "figures"] (sh.np + 1) sh.ks gA gV ∧ ∀ (gh : Gh) (x : Addr) ts vs zs ws us, RepL k gh ts vs → RepL k gh zs ws → vs.length = sh.np → ws.length = sh.ks.length → fillT sh.src ts zs = some us → ∃ vs', gV (.ref x :: vs) ws = .ref x :: vs' ∧ RepL k gh us vs' := by
  intro sh hsh
  simp only [k_Book, List.mem_cons, List.not_mem_nil, or_false] at hsh
  rcases hsh with rfl
  · refine shp_of (fun ts zs h1 h2 => ?_) (kbindsF F 2 ["figures"] fun _ _ _ _ _ _ us ws h1 h2 => match us, ws, h1, h2 with | [_, _], [_], _, _ => rfl)
    exact match ts, zs, h1, h2 with | [_], [_], _, _ => rfl
theorem ok_Book_init (y : HY k K h mg base) : ∃ fd, (∀ sh ∈ k_Book.shp, ∃ gA gV, KBn K fd ["self", "colours", "figures"] (sh.np + 1) sh.ks gA gV ∧ ∀ (gh : Gh) (x : Addr) ts vs zs ws us, RepL k gh ts vs → RepL k gh zs ws → vs.length = sh.np → ws.length = sh.ks.length → fillT sh.src ts zs = some us → ∃ vs', gV (.ref x :: vs) ws = .ref x :: vs' ∧ RepL k gh us vs') ∧ FnOk P w K mg base (L2.CX P w) 5 (He.ma K (He.ga K "Book") "__init__") fd ["self", "colours", "figures"] (spOf k false e_Book_init.fn) := by
  obtain ⟨fd, F⟩ := y.c.d.def_ 8 (d := d_Book_init) rfl
  have F : FunD K "__init__" "Book.__init__" (defArgs (clsDef "__init__" (top 47))) (defBody (clsDef "__init__" (top 47))) (defScope (clsDef "__init__" (top 47))) [] [] (He.ma K (He.ga K "Book") "__init__") fd := F
  exact ⟨fd, sh_Book_init F, fn_den (c := c_Book_init) y.hK F (N := ["self", "colours", "figures", "figure", "triple"]) rfl (by decide +kernel) rfl rfl (gen_need_barred y) (fun _ _ e => by cases e)⟩
theorem gen_Book_init (y : HY k K h mg base) : GenOk k G_Book_init P w K mg base := by
  obtain ⟨fd, B, F⟩ := ok_Book_init (P := P) (w := w) y
  exact (gen_need_barred y).addCls (x := "Book") (e := k_Book) (by rw [y.cl]; exact y.glo 8 rfl) (by rw [y.cl]; exact He.mkr_ok (y.c.d.fact 46 (f := .mkr "Book") rfl)) F B
theorem ok_bag (y : HY k K h mg base) : ∃ fd, Binds K fd ["_law_script"] [] ∧ PySem.W.keepIn K (.ref (He.fAd K ("_law_bag", none))) = true ∧ FnOk P w K mg base (L2.CX P w) 1 (He.fAd K ("_law_bag", none)) fd ["_law_script"] (spOf k true e_bag.fn) := by
  obtain ⟨fd, F⟩ := y.c.d.def_ 9 (d := d_bag) rfl
  have F : FunD K "_law_bag" "_law_bag" (defArgs (top 49)) (defBody (top 49)) (defScope (top 49)) [] [] (He.fAd K ("_law_bag", none)) fd := F
  exact ⟨fd, (F.bindsN fun _ _ _ _ _ _ us hl => match us, hl with | [_], _ => rfl), F.kp, fn_den (c := c_bag) y.hK F (N := ["_law_script"]) rfl (by decide +kernel) rfl rfl (gen_Book_init y) (fun _ _ e => by cases e)⟩
theorem gen_bag (y : HY k K h mg base) : GenOk k G_bag P w K mg base := by
  obtain ⟨fd, B, kp, F⟩ := ok_bag (P := P) (w := w) y
  exact (gen_Book_init y).cons (x := "_law_bag") (e := e_bag) (y.glo 9 rfl) kp B F
theorem ok_like (y : HY k K h mg base) : ∃ fd, Binds K fd ["_law_one", "_law_due"] [] ∧ PySem.W.keepIn K (.ref (He.fAd K ("_law_like", none))) = true ∧ ∀ n, FnOk P w K mg base (L2.CX P w) (0 + n) (He.fAd K ("_law_like", none)) fd ["_law_one", "_law_due"] (spOf k false (f_like n)) := by
  obtain ⟨fd, F⟩ := y.c.d.def_ 10 (d := d_like) rfl
  have F : FunD K "_law_like" "_law_like" (defArgs (top 62)) (defBody (top 62)) (defScope (top 62)) [] [] (He.fAd K ("_law_like", none)) fd := F
  have B : Binds K fd ["_law_one", "_law_due"] [] := (F.bindsN fun _ _ _ _ _ _ us hl => match us, hl with | [_, _], _ => rfl)
  refine ⟨fd, B, F.kp, fun n => ?_⟩
  induction n with
  | zero => exact fn_bad
  | succ n ih => exact fn_den (c := c_like n) y.hK F (N := ["_law_one", "_law_due", "_law_at"]) rfl (by decide +kernel) rfl rfl ((gen_bag y).cons (x := "_law_like") (e := ⟨["_law_one", "_law_due"], f_like n, false, 0 + n⟩) (y.glo 10 rfl) F.kp B ih) (fun _ _ e => by cases e)
theorem gen_like (y : HY k K h mg base) : GenOk k G_like P w K mg base := by
  obtain ⟨fd, B, kp, F⟩ := ok_like (P := P) (w := w) y
  exact (gen_bag y).cons (x := "_law_like") (e := e_like) (y.glo 10 rfl) kp B (F 13)
theorem ok_pull (y : HY k K h mg base) : ∃ fd, Binds K fd ["_law_bag_here", "_law_size"] [] ∧ PySem.W.keepIn K (.ref (He.fAd K ("_law_pull", none))) = true ∧ FnOk P w K mg base (L2.CX P w) 1 (He.fAd K ("_law_pull", none)) fd ["_law_bag_here", "_law_size"] (spOf k false e_pull.fn) := by
  obtain ⟨fd, F⟩ := y.c.d.def_ 11 (d := d_pull) rfl
  have F : FunD K "_law_pull" "_law_pull" (defArgs (top 50)) (defBody (top 50)) (defScope (top 50)) [] [] (He.fAd K ("_law_pull", none)) fd := F
  exact ⟨fd, (F.bindsN fun _ _ _ _ _ _ us hl => match us, hl with | [_, _], _ => rfl), F.kp, fn_den (c := c_pull) y.hK F (N := ["_law_bag_here", "_law_size", "_law_got", "_law_cell"]) rfl (by decide +kernel) rfl rfl (gen_like y) (fun _ _ e => by cases e)⟩
theorem gen_pull (y : HY k K h mg base) : GenOk k G_pull P w K mg base := by
  obtain ⟨fd, B, kp, F⟩ := ok_pull (P := P) (w := w) y
  exact (gen_like y).cons (x := "_law_pull") (e := e_pull) (y.glo 11 rfl) kp B F
theorem ok_of (y : HY k K h mg base) : ∃ fd, Binds K fd ["_law_bag_here", "_law_things"] [] ∧ PySem.W.keepIn K (.ref (He.fAd K ("_law_of", none))) = true ∧ FnOk P w K mg base (L2.CX P w) 2 (He.fAd K ("_law_of", none)) fd ["_law_bag_here", "_law_things"] (spOf k false e_of.fn) := by
  obtain ⟨fd, F⟩ := y.c.d.def_ 12 (d := d_of) rfl
  have F : FunD K "_law_of" "_law_of" (defArgs (top 51)) (defBody (top 51)) (defScope (top 51)) [] [] (He.fAd K ("_law_of", none)) fd := F
  exact ⟨fd, (F.bindsN fun _ _ _ _ _ _ us hl => match us, hl with | [_, _], _ => rfl), F.kp, fn_den (c := c_of) y.hK F (N := ["_law_bag_here", "_law_things"]) rfl (by decide +kernel) rfl rfl (gen_pull y) (fun _ _ e => by cases e)⟩
theorem gen_of (y : HY k K h mg base) : GenOk k G_of P w K mg base := by
  obtain ⟨fd, B, kp, F⟩ := ok_of (P := P) (w := w) y
  exact (gen_pull y).cons (x := "_law_of") (e := e_of) (y.glo 12 rfl) kp B F
theorem ok_hues (y : HY k K h mg base) : ∃ fd, Binds K fd ["_law_bag_here", "_law_most"] [] ∧ PySem.W.keepIn K (.ref (He.fAd K ("_law_hues", none))) = true ∧ FnOk P w K mg base (L2.CX P w) 3 (He.fAd K ("_law_hues", none)) fd ["_law_bag_here", "_law_most"] (spOf k true e_hues.fn) := by
  obtain ⟨fd, F⟩ := y.c.d.def_ 13 (d := d_hues) rfl
  have F : FunD K "_law_hues" "_law_hues" (defArgs (top 52)) (defBody (top 52)) (defScope (top 52)) [] [] (He.fAd K ("_law_hues", none)) fd := F
  exact ⟨fd, (F.bindsN fun _ _ _ _ _ _ us hl => match us, hl with | [_, _], _ => rfl), F.kp, fn_den (c := c_hues) y.hK F (N := ["_law_bag_here", "_law_most", "_law_pad"]) rfl (by decide +kernel) rfl rfl (gen_of y) (fun _ _ e => by cases e)⟩
theorem gen_hues (y : HY k K h mg base) : GenOk k G_hues P w K mg base := by
  obtain ⟨fd, B, kp, F⟩ := ok_hues (P := P) (w := w) y
  exact (gen_of y).cons (x := "_law_hues") (e := e_hues) (y.glo 13 rfl) kp B F
theorem ok_shape (y : HY k K h mg base) : ∃ fd, Binds K fd ["_law_bag_here", "_law_colours"] [] ∧ PySem.W.keepIn K (.ref (He.fAd K ("_law_shape", none))) = true ∧ FnOk P w K mg base (L2.CX P w) 3 (He.fAd K ("_law_shape", none)) fd ["_law_bag_here", "_law_colours"] (spOf k false e_shape.fn) := by
  obtain ⟨fd, F⟩ := y.c.d.def_ 14 (d := d_shape) rfl
  have F : FunD K "_law_shape" "_law_shape" (defArgs (top 53)) (defBody (top 53)) (defScope (top 53)) [] [] (He.fAd K ("_law_shape", none)) fd := F
  exact ⟨fd, (F.bindsN fun _ _ _ _ _ _ us hl => match us, hl with | [_, _], _ => rfl), F.kp, fn_den (c := c_shape) y.hK F (N := ["_law_bag_here", "_law_colours", "_law_found", "_law_pad"]) rfl (by decide +kernel) rfl rfl (gen_hues y) (fun _ _ e => by cases e)⟩
theorem gen_shape (y : HY k K h mg base) : GenOk k G_shape P w K mg base := by
  obtain ⟨fd, B, kp, F⟩ := ok_shape (P := P) (w := w) y
  exact (gen_hues y).cons (x := "_law_shape") (e := e_shape) (y.glo 14 rfl) kp B F
theorem ok_bars (y : HY k K h mg base) : ∃ fd, Binds K fd ["_law_one", "_law_other"] [] ∧ PySem.W.keepIn K (.ref (He.fAd K ("_law_bars", none))) = true ∧ FnOk P w K mg base (L2.CX P w) 1 (He.fAd K ("_law_bars", none)) fd ["_law_one", "_law_other"] (spOf k false e_bars.fn) := by
  obtain ⟨fd, F⟩ := y.c.d.def_ 15 (d := d_bars) rfl
  have F : FunD K "_law_bars" "_law_bars" (defArgs (top 54)) (defBody (top 54)) (defScope (top 54)) [] [] (He.fAd K ("_law_bars", none)) fd := F
  exact ⟨fd, (F.bindsN fun _ _ _ _ _ _ us hl => match us, hl with | [_, _], _ => rfl), F.kp, fn_den (c := c_bars) y.hK F (N := ["_law_one", "_law_other", "_law_mine", "_law_common", "_law_pad", "_law_note", "_law_depth"]) rfl (by decide +kernel) rfl rfl (gen_shape y) (fun _ _ e => by cases e)⟩
theorem gen_bars (y : HY k K h mg base) : GenOk k G_bars P w K mg base := by
  obtain ⟨fd, B, kp, F⟩ := ok_bars (P := P) (w := w) y
  exact (gen_shape y).cons (x := "_law_bars") (e := e_bars) (y.glo 15 rfl) kp B F
theorem ok_shapes (y : HY k K h mg base) : ∃ fd, Binds K fd ["_law_bag_here", "_law_colours", "_law_most"] [] ∧ PySem.W.keepIn K (.ref (He.fAd K ("_law_shapes", none))) = true ∧ FnOk P w K mg base (L2.CX P w) 4 (He.fAd K ("_law_shapes", none)) fd ["_law_bag_here", "_law_colours", "_law_most"] (spOf k true e_shapes.fn) := by
  obtain ⟨fd, F⟩ := y.c.d.def_ 16 (d := d_shapes) rfl
  have F : FunD K "_law_shapes" "_law_shapes" (defArgs (top 55)) (defBody (top 55)) (defScope (top 55)) [] [] (He.fAd K ("_law_shapes", none)) fd := F
  exact ⟨fd, (F.bindsN fun _ _ _ _ _ _ us hl => match us, hl with | [_, _, _], _ => rfl), F.kp, fn_den (c := c_shapes) y.hK F (N := ["_law_bag_here", "_law_colours", "_law_most", "_law_found", "_law_turn", "_law_one", "_law_other"]) rfl (by decide +kernel) rfl rfl (gen_bars y) (fun _ _ e => by cases e)⟩
theorem gen_shapes (y : HY k K h mg base) : GenOk k G_shapes P w K mg base := by
  obtain ⟨fd, B, kp, F⟩ := ok_shapes (P := P) (w := w) y
  exact (gen_bars y).cons (x := "_law_shapes") (e := e_shapes) (y.glo 16 rfl) kp B F
theorem tr_tried (y : HY k K h mg base) : ∃ g fd, mg "_law_tried" = some (.ref g) ∧ PySem.W.keepIn k.K (.ref g) = true ∧ TrD k mg g fd "_law_tried" "_law_act" "e" hs_tried.1 hs_tried.2 (defBody (top 59)) (defScope (top 59)) := by
  obtain ⟨fd, F⟩ := y.c.d.def_ 17 (d := d_tried) rfl
  have F : FunD K "_law_tried" "_law_tried" (defArgs (top 59)) (defBody (top 59)) (defScope (top 59)) [] [] (He.fAd K ("_law_tried", none)) fd := F
  exact ⟨_, fd, y.glo 17 rfl, by rw [← y.hK]; exact F.kp, trd_of y F (by kernel_rfl) (by kernel_rfl) (by kernel_rfl) (F.bindsN fun _ _ _ _ _ _ us hl => match us, hl with | [_], _ => rfl) (by kernel_rfl)⟩
theorem gen_tried (y : HY k K h mg base) : GenOk k G_tried P w K mg base := by
  obtain ⟨g, fd, h1, h2, h3⟩ := tr_tried y
  exact (gen_shapes y).addHof ⟨g, fd, _, _, _, _, h1, h2, h3⟩
theorem ok_shape_well (y : HY k K h mg base) : ∃ fd, Binds K fd ["_law_colours", "_law_shape_here"] [] ∧ PySem.W.keepIn K (.ref (He.fAd K ("_law_shape_well", none))) = true ∧ FnOk P w K mg base (L2.CX P w) 1 (He.fAd K ("_law_shape_well", none)) fd ["_law_colours", "_law_shape_here"] (spOf k false e_shape_well.fn) := by
  obtain ⟨fd, F⟩ := y.c.d.def_ 18 (d := d_shape_well) rfl
  have F : FunD K "_law_shape_well" "_law_shape_well" (defArgs (top 60)) (defBody (top 60)) (defScope (top 60)) [] [] (He.fAd K ("_law_shape_well", none)) fd := F
  exact ⟨fd, (F.bindsN fun _ _ _ _ _ _ us hl => match us, hl with | [_, _], _ => rfl), F.kp, fn_den (c := c_shape_well) y.hK F (N := ["_law_colours", "_law_shape_here", "_law_last", "_law_triple"]) rfl (by decide +kernel) rfl rfl (gen_tried y) (fun _ _ e => by cases e)⟩
theorem gen_shape_well (y : HY k K h mg base) : GenOk k G_shape_well P w K mg base := by
  obtain ⟨fd, B, kp, F⟩ := ok_shape_well (P := P) (w := w) y
  exact (gen_tried y).cons (x := "_law_shape_well") (e := e_shape_well) (y.glo 18 rfl) kp B F
theorem ok_book_due (y : HY k K h mg base) : ∃ fd, Binds K fd ["_law_colours", "_law_shapes_here"] [] ∧ PySem.W.keepIn K (.ref (He.fAd K ("_law_book_due", none))) = true ∧ FnOk P w K mg base (L2.CX P w) 2 (He.fAd K ("_law_book_due", none)) fd ["_law_colours", "_law_shapes_here"] (spOf k false e_book_due.fn) := by
  obtain ⟨fd, F⟩ := y.c.d.def_ 19 (d := d_book_due) rfl
  have F : FunD K "_law_book_due" "_law_book_due" (defArgs (top 61)) (defBody (top 61)) (defScope (top 61)) [] [] (He.fAd K ("_law_book_due", none)) fd := F
  exact ⟨fd, (F.bindsN fun _ _ _ _ _ _ us hl => match us, hl with | [_, _], _ => rfl), F.kp, fn_den (c := c_book_due) y.hK F (N := ["_law_colours", "_law_shapes_here", "_law_at", "_law_one", "_law_other"]) rfl (by decide +kernel) rfl rfl (gen_shape_well y) (fun _ _ e => by cases e)⟩
theorem gen_book_due (y : HY k K h mg base) : GenOk k G_book_due P w K mg base := by
  obtain ⟨fd, B, kp, F⟩ := ok_book_due (P := P) (w := w) y
  exact (gen_shape_well y).cons (x := "_law_book_due") (e := e_book_due) (y.glo 19 rfl) kp B F
theorem ok_far (y : HY k K h mg base) : ∃ fd, Binds K fd ["_law_bag_here"] [] ∧ PySem.W.keepIn K (.ref (He.fAd K ("_law_far", none))) = true ∧ FnOk P w K mg base (L2.CX P w) 2 (He.fAd K ("_law_far", none)) fd ["_law_bag_here"] (spOf k false e_far.fn) := by
  obtain ⟨fd, F⟩ := y.c.d.def_ 20 (d := d_far) rfl
  have F : FunD K "_law_far" "_law_far" (defArgs (top 56)) (defBody (top 56)) (defScope (top 56)) [] [] (He.fAd K ("_law_far", none)) fd := F
  exact ⟨fd, (F.bindsN fun _ _ _ _ _ _ us hl => match us, hl with | [_], _ => rfl), F.kp, fn_den (c := c_far) y.hK F (N := ["_law_bag_here"]) rfl (by decide +kernel) rfl rfl (gen_book_due y) (fun _ _ e => by cases e)⟩
theorem gen_far (y : HY k K h mg base) : GenOk k G_far P w K mg base := by
  obtain ⟨fd, B, kp, F⟩ := ok_far (P := P) (w := w) y
  exact (gen_book_due y).cons (x := "_law_far") (e := e_far) (y.glo 20 rfl) kp B F
theorem ok_strange (y : HY k K h mg base) : ∃ fd, Binds K fd ["_law_bag_here", "_law_many"] [] ∧ PySem.W.keepIn K (.ref (He.fAd K ("_law_strange", none))) = true ∧ FnOk P w K mg base (L2.CX P w) 3 (He.fAd K ("_law_strange", none)) fd ["_law_bag_here", "_law_many"] (spOf k false e_strange.fn) := by
  obtain ⟨fd, F⟩ := y.c.d.def_ 21 (d := d_strange) rfl
  have F : FunD K "_law_strange" "_law_strange" (defArgs (top 57)) (defBody (top 57)) (defScope (top 57)) [] [] (He.fAd K ("_law_strange", none)) fd := F
  exact ⟨fd, (F.bindsN fun _ _ _ _ _ _ us hl => match us, hl with | [_, _], _ => rfl), F.kp, fn_den (c := c_strange) y.hK F (N := ["_law_bag_here", "_law_many"]) rfl (by decide +kernel) rfl rfl (gen_far y) (fun _ _ e => by cases e)⟩
theorem gen_strange (y : HY k K h mg base) : GenOk k G_strange P w K mg base := by
  obtain ⟨fd, B, kp, F⟩ := ok_strange (P := P) (w := w) y
  exact (gen_far y).cons (x := "_law_strange") (e := e_strange) (y.glo 21 rfl) kp B F
theorem ok_bent_shape (y : HY k K h mg base) : ∃ fd, Binds K fd ["_law_bag_here", "_law_colours", "_law_shape_here"] [] ∧ PySem.W.keepIn K (.ref (He.fAd K ("_law_bent_shape", none))) = true ∧ FnOk P w K mg base (L2.CX P w) 4 (He.fAd K ("_law_bent_shape", none)) fd ["_law_bag_here", "_law_colours", "_law_shape_here"] (spOf k false e_bent_shape.fn) := by
  obtain ⟨fd, F⟩ := y.c.d.def_ 22 (d := d_bent_shape) rfl
  have F : FunD K "_law_bent_shape" "_law_bent_shape" (defArgs (top 58)) (defBody (top 58)) (defScope (top 58)) [] [] (He.fAd K ("_law_bent_shape", none)) fd := F
  exact ⟨fd, (F.bindsN fun _ _ _ _ _ _ us hl => match us, hl with | [_, _, _], _ => rfl), F.kp, fn_den (c := c_bent_shape) y.hK F (N := ["_law_bag_here", "_law_colours", "_law_shape_here", "_law_at", "_law_pad", "_law_note", "_law_depth", "_law_odd", "_law_some", "_law_one"]) rfl (by decide +kernel) rfl rfl (gen_strange y) (fun _ _ e => by cases e)⟩
theorem gen_bent_shape (y : HY k K h mg base) : GenOk k G_bent_shape P w K mg base := by
  obtain ⟨fd, B, kp, F⟩ := ok_bent_shape (P := P) (w := w) y
  exact (gen_strange y).cons (x := "_law_bent_shape") (e := e_bent_shape) (y.glo 22 rfl) kp B F
theorem ok_law (y : HY k K h mg base) : ∃ fd, Binds K fd ["_law_script"] [] ∧ PySem.W.keepIn K (.ref (He.fAd K ("law", none))) = true ∧ FnOk P w K mg base (L2.CX P w) 14 (He.fAd K ("law", none)) fd ["_law_script"] (spOf k false e_law.fn) := by
  obtain ⟨fd, F⟩ := y.c.d.def_ 23 (d := d_law) rfl
  have F : FunD K "law" "law" (defArgs (top 63)) (defBody (top 63)) (defScope (top 63)) [] [] (He.fAd K ("law", none)) fd := F
  exact ⟨fd, (F.bindsN fun _ _ _ _ _ _ us hl => match us, hl with | [_], _ => rfl), F.kp, fn_den (c := c_law) y.hK F (N := ["_law_script", "_law_bag_here", "_law_turn", "_law_colours", "_law_shapes_here", "_law_at", "_law_odd", "_law_handed", "_law_told", "_law_due", "_law_shape_here"]) rfl (by decide +kernel) rfl rfl (gen_bent_shape y) (y.lam (i := 0) F rfl rfl (by kernel_rfl) rfl)⟩
theorem gen_law (y : HY k K h mg base) : GenOk k G_law P w K mg base := by
  obtain ⟨fd, B, kp, F⟩ := ok_law (P := P) (w := w) y
  exact (gen_bent_shape y).cons (x := "law") (e := e_law) (y.glo 23 rfl) kp B F
def gk (K : PySem.W.Frag) : Gk := ⟨K, He.ga K, fun s => (((qs.zip tf).lookup s).map fun p => (He.cT K p).2).getD 0, fun c => (excT xs).lookup c⟩
theorem facts {f : Addr} (X : K.In h) (G : h.Ns mainGlobals mg) (hfa : mg ("law" : Str) = some (.ref f)) (c : SaysM hf h K) :
    ∃ fd : FuncData, (∀ (s : Shared) (v : Value), BindsTo s fd ⟨[v], []⟩ [("_law_script", v)]) ∧ ∀ base : Heap, K.In base → base.Ns mainGlobals mg → (∀ p ∈ hf.tf, LamX.TabB base mg (He.cT K p).1 (He.cT K p).2) → FnOk P w K mg base (CXE P) 14 f fd ["_law_script"] (spOf (gk K) false e_law.fn) := by
  obtain ⟨fd, F⟩ := c.d.def_ 23 (d := d_law) rfl
  have F : FunD K "law" "law" (defArgs (top 63)) (defBody (top 63)) (defScope (top 63)) [] [] (He.fAd K ("law", none)) fd := F
  have e := hfa.symm.trans (He.glo_ok X G (c.d.fact 23 (f := .glo "law") rfl))
  cases e
  have b := FunD.bindsA (ps := ["_law_script"]) F fun _ _ _ _ _ _ us hl => match us, hl with | [_], _ => rfl
  refine ⟨fd, fun s v => b s [v] rfl, fun base _ _ hT => ?_⟩
  have y : HY (gk K) K h mg base := ⟨rfl, rfl, rfl, X, G, c, rfl, hT⟩
  exact FnOk.cx (fn_den (c := c_law) (k := gk K) y.hK F (N := ["_law_script", "_law_bag_here", "_law_turn", "_law_colours", "_law_shapes_here", "_law_at", "_law_odd", "_law_handed", "_law_told", "_law_due", "_law_shape_here"]) rfl (by decide +kernel) rfl rfl (gen_bent_shape y) (y.lam (i := 0) F rfl rfl (by kernel_rfl) rfl)) fun _ _ _ _ _ _ h => ⟨w, h⟩
end
end K02


set_option Elab.async false
set_option linter.all false
set_option maxRecDepth 100000
set_option maxHeartbeats 0
open PySem PySem.W PySem.Calls PyProof.Rows
theorem PySem.Challenge.cw_tearboard_k02_books_looked_at_holds : PySem.Challenge.rw_tearboard_k02_books_looked_at.Holds := by
  w_on; o_law
  refine HandSHeadRun.head_any (r := OpenLaw.row PySem.Challenge.rw_tearboard_k02_books_looked_at) (q := view (OpenLaw.row PySem.Challenge.rw_tearboard_k02_books_looked_at).prog [63]) (H := Mp.hookM K02.hf) (ob := K02.ob) (M := 30000) (loose := K02.loose) (d := HandSHeadRun.topDef (OpenLaw.row PySem.Challenge.rw_tearboard_k02_books_looked_at).prog 63) (kwd := []) K02.ob_eq
    (by kernel_rfl) (fun s => by kernel_rfl) K02.run (by kernel_rfl) (by kernel_rfl) (by kernel_rfl) (by rfl) (by first | assumption | decide +kernel) (by decide +kernel) ⟨rfl, rfl, rfl, rfl, rfl, by decide +kernel⟩ ?hw ?hc
  case hw => w_witness2
  case hc =>
    refine LamX.walk_ofTsE (l := PySem.Challenge.rw_tearboard_k02_books_looked_at) (n := 63) (k := 14) (x := "_law_script") (CX := fun _ => Mp.CXE (PySem.Challenge.rw_tearboard_k02_books_looked_at).prog) rfl (by decide) (by kernel_rfl) ⟨rfl, by decide, by decide⟩ ?F fun _ => Mp.cxe_none
    intro w mg fa h Y G hmg0
    obtain ⟨K, KX, c⟩ := Y
    have hmg : mg ("law" : PySem.Str) = some (.ref fa) := by
      have e : (HandSHeadRun.topDef (OpenLaw.row PySem.Challenge.rw_tearboard_k02_books_looked_at).prog 63).name = ("law" : PySem.Str) := by kernel_rfl
      rw [← e]
      exact hmg0
    obtain ⟨fd, hb, hF⟩ := K02.facts (P := (PySem.Challenge.rw_tearboard_k02_books_looked_at).prog) (w := w) KX G hmg c
    exact ⟨K, KX, Mp.law_at c KX rfl rfl hb (fun ns hl _ => K02.plain ns hl) hF⟩


