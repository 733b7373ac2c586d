import PyProof.Rows.All
import HandS.ForMost
import HandS.ExcInit
import HandS.Head2
import HandS.Head3
import HandS.HeadHook2
import HandS.HeadEnd
import HandS.ClsMeth
import HandS.IsInst
import HandS.ExcField
import HandS.Defaults
import KE.KExcIs
import HandS.EndBits
import HandS.List
import HandS.Dict
import PyProof.ReprRoads
import PyProof.CallFns
import HandS.WordsExc
import HandS.HotCalls
import PyProof.FitsInt
import PyProof.StrLawsRepr
import PySem.Challenge.RW_workwide_k00_errors
import HandS.Wide
import HandS.ExcOwn
set_option Elab.async false
set_option linter.all false
set_option maxRecDepth 100000
set_option maxHeartbeats 0
/-! The head by addresses: what stands at written addresses behind the top, told by one Bool and by the defs' rows. -/
namespace WkH
open PySem PySem.Spec PyProof.Rows L2

/-- a def at a written address -/
structure DefL where
  adr : Addr
  nm : Str
  qual : Str
  pars : Arguments
  bod : List Stmt
  sco : Scope
def fnA (K : PySem.W.Frag) (a : Addr) : He.FnW := match K.lookup a with
  | some ⟨_, _, .func q, _⟩ => some (q.name, q.qualname, q.params, q.body, q.scope, q.globals, q.closure, q.builtins)
  | _ => none
def DefL.row (d : DefL) : He.FnW := some (d.nm, d.qual, d.pars, .stmts d.bod, d.sco, mainGlobals, [], builtinsNs)
def DefL.good (K : PySem.W.Frag) (d : DefL) : Bool := match K.lookup d.adr with
  | some ⟨_, _, .func q, _⟩ => PySem.W.codeIn K q.code d.qual && (match q.defaults with
    | .none => true
    | _ => false)
  | _ => false
/-- the def d stands there -/
abbrev Stands (K : PySem.W.Frag) (d : DefL) (fd : FuncData) : Prop := FunD K d.nm d.qual d.pars d.bod d.sco [] [] d.adr fd
theorem DefL.stands {K : PySem.W.Frag} {d : DefL} (e : fnA K d.adr = d.row) (c : d.good K = true) : ∃ fd, Stands K d fd := by
  unfold DefL.good at c
  unfold fnA at e
  have kp : PySem.W.keepIn K (.ref d.adr) = true := by
    unfold PySem.W.keepIn
    dsimp only
    split at e
    · rename_i hq
      rw [hq]
    · cases e
  cases q : K.lookup d.adr with
  | none =>
    rw [q] at c
    cases c
  | some o =>
    obtain ⟨oc, od, dt, osl⟩ := o
    rw [q] at c e
    cases dt with
    | func fd =>
      obtain ⟨n1, n2, n3, n4, n5, n6, n7, n8, n9, n10, n11, n12, n13, n14, n15⟩ := fd
      have e2 : (some (n1, n2, n3, n4, n5, n6, n7, n15) : He.FnW) = some (d.nm, d.qual, d.pars, .stmts d.bod, d.sco, mainGlobals, [], builtinsNs) := e
      simp only [Option.some.injEq, Prod.mk.injEq] at e2
      obtain ⟨h1, h2, h3, h4, h5, h6, h7, h8⟩ := e2
      subst h1 h2 h3 h4 h5 h6 h7 h8
      obtain ⟨k1, k2⟩ := Bool.and_eq_true_iff.mp c
      cases n8 with
      | none => exact ⟨_, ⟨oc, od, .none, n9, n10, n11, n12, n13, n14, osl, rfl, q, k1, .inl ⟨rfl, rfl⟩, .inl rfl⟩, kp⟩
      | _ => cases k2
    | _ => cases c

/-! ### the hook -/
abbrev AlL : Type := Bool × List He.FnW
def seeL (ex : PySem.W.Frag → Bool) (fn : List DefL) (K : PySem.W.Frag) : AlL := (ex K && fn.all fun d => d.good K, fn.map fun d => fnA K d.adr)
def wantL (fn : List DefL) : AlL := (true, fn.map DefL.row)
structure Told (ex : PySem.W.Frag → Bool) (fn : List DefL) (K : PySem.W.Frag) : Prop where
  more : ex K = true
  defs : ∀ d ∈ fn, ∃ fd, Stands K d fd
theorem told_of {ex : PySem.W.Frag → Bool} {fn : List DefL} {K : PySem.W.Frag} (e : seeL ex fn K = wantL fn) : Told ex fn K := by
  have e1 : (ex K && fn.all fun d => d.good K) = true := congrArg (fun z : AlL => z.1) e
  have e2 : (fn.map fun d => fnA K d.adr) = fn.map DefL.row := congrArg (fun z : AlL => z.2) e
  obtain ⟨a, b⟩ := Bool.and_eq_true_iff.mp e1
  refine ⟨a, fun d hd => ?_⟩
  obtain ⟨i, hi, rfl⟩ := List.mem_iff_getElem.mp hd
  have e3 : (fn.map fun d => fnA K d.adr)[i]? = (fn.map DefL.row)[i]? := by rw [e2]
  rw [List.getElem?_map, List.getElem?_map, List.getElem?_eq_getElem hi] at e3
  exact DefL.stands (Option.some.inj e3) (List.all_eq_true.mp b _ (List.getElem_mem hi))
def hookL (as : List Addr) (ex : PySem.W.Frag → Bool) (fn : List DefL) : PySem.W.Hook where
  α := AlL
  obs := fun s => seeL ex fn (He.frG s.heap.get? as)
  val := fun _ => wantL fn
  says := fun _ h => ∃ K : PySem.W.Frag, K.In h ∧ Told ex fn K
  of := fun _ _ e => ⟨_, He.frG_in, told_of e⟩
  keeps := fun _ _ _ ⟨K, hK, c⟩ k => ⟨K, PySem.W.Frag.In.keeps hK k, c⟩
def obL (as : List Addr) (ex : PySem.W.Frag → Bool) (fn : List DefL) (s : PySem.W.SharedT) : AlL := seeL ex fn (He.frG (HandSHeadRun.getT s) as)
theorem obL_eq (as : List Addr) (ex : PySem.W.Frag → Bool) (fn : List DefL) (s : PySem.W.SharedT) : obL as ex fn s = (hookL as ex fn).obs s.abs := by
  have e : HandSHeadRun.getT s = s.abs.heap.get? := funext (HandSHeadRun.getT_eq s)
  unfold obL
  rw [e]
  rfl
/-- three looks at one end, told one by one -/
theorem three {σ α β γ : Type} {o : Option σ} {f : σ → α} {g : σ → β} {k : σ → γ} {a : α} {b : β} {c : γ} (h1 : o.map f = some a) (h2 : o.map g = some b) (h3 : o.map k = some c) : o.map (fun s => (f s, g s, k s)) = some (a, b, c) := by
  cases o with
  | none => cases h1
  | some s =>
    rw [Option.map_some, Option.some.injEq] at h1 h2 h3
    rw [Option.map_some, h1, h2, h3]

/-! ### facts of names -/
/-- the module's name x is the object at a -/
def gloB (K : PySem.W.Frag) (x : Str) (a : Addr) : Bool := match PySem.W.nsIn K mainGlobals x with
  | some (some (.ref b)) => Nat.beq b a
  | _ => false
theorem gloB_ok {K : PySem.W.Frag} {h : Heap} {mg : Str → Option Value} (X : K.In h) (G : h.Ns mainGlobals mg) {x : Str} {a : Addr} (c : gloB K x a = true) : mg x = some (.ref a) := by
  unfold gloB at c
  split at c
  · rename_i b hb
    have e : b = a := Nat.eq_of_beq_eq_true c
    rw [e] at hb
    exact PySem.W.mg_of X G hb
  · cases c
def freeB (K : PySem.W.Frag) (x : Str) : Bool := match PySem.W.nsIn K mainGlobals x with
  | some none => true
  | _ => false
theorem freeB_ok {K : PySem.W.Frag} {h : Heap} {mg : Str → Option Value} (X : K.In h) (G : h.Ns mainGlobals mg) {x : Str} (c : freeB K x = true) : mg x = none := by
  unfold freeB at c
  split at c
  · rename_i hb
    exact PySem.W.mg_none_of X G hb
  · cases c
def intB (K : PySem.W.Frag) (x : Str) (i : Int) : Bool := match PySem.W.nsIn K mainGlobals x with
  | some (some (.int j _)) => decide (j = i)
  | _ => false
theorem intB_ok {K : PySem.W.Frag} {h : Heap} {mg : Str → Option Value} (X : K.In h) (G : h.Ns mainGlobals mg) {x : Str} {i : Int} (c : intB K x i = true) : ∃ t, mg x = some (.int i t) := by
  unfold intB at c
  split at c
  · rename_i j t hb
    rw [of_decide_eq_true c] at hb
    exact ⟨t, PySem.W.mg_of X G hb⟩
  · cases c

/-! ### an own exception class over ValueError -/
def isSet (K : PySem.W.Frag) (C : Addr) (n : Str) (v : Option Value) : Bool := decide (PySem.W.findIn K (.ref C) n = some v)
/-- the class object itself -/
def clsB (K : PySem.W.Frag) (C : Addr) : Bool := match K.lookup C with
  | some ⟨.type t, _, .cls cd, sl⟩ => decide (t = "type") && (match cd.mro, sl.toList with
    | .ref D :: bm, [_, _, _, _, some (.builtin n), _] => decide (D = C) && (decide (n = "ValueError.__new__") && (cd.hasDict && (!cd.hasDel && PySem.HandSPX.refsVE bm)))
    | _, _ => false)
  | _ => false
theorem clsB_ok {K : PySem.W.Frag} {C : Addr} (c : clsB K C = true) :
    ∃ nm q N bs bm sn sub ab col dd k0 k1 k2 k3 k5, K.lookup C = some (excClassObj nm q C N bs bm true sn sub ab col dd k0 k1 k2 k3 k5 "ValueError.__new__") ∧ PySem.HandSPX.refsVE bm = true := by
  unfold clsB at c
  split at c
  · rename_i t dd cd sl hl
    obtain ⟨c1, c2⟩ := Bool.and_eq_true_iff.mp c
    split at c2
    · rename_i D bm k0 k1 k2 k3 n k5 hm hs
      obtain ⟨d1, c3⟩ := Bool.and_eq_true_iff.mp c2
      obtain ⟨d2, c4⟩ := Bool.and_eq_true_iff.mp c3
      obtain ⟨d3, c5⟩ := Bool.and_eq_true_iff.mp c4
      obtain ⟨d4, d5⟩ := Bool.and_eq_true_iff.mp c5
      obtain ⟨nm, bs, mro, ns, qn, hd, sn, sub, ab, col, del⟩ := cd
      have e1 := of_decide_eq_true c1
      have e2 := of_decide_eq_true d1
      have e3 := of_decide_eq_true d2
      dsimp only at hm d3 d4
      subst e1 e2 e3 hm d3
      have e4 : del = false := by
        cases del with
        | false => rfl
        | true => cases d4
      subst e4
      have hsl : sl = #[k0, k1, k2, k3, some (.builtin "ValueError.__new__"), k5] := by
        obtain ⟨l⟩ := sl
        simp only at hs
        rw [hs]
      subst hsl
      exact ⟨nm, qn, ns, bs, bm, sn, sub, ab, col, dd, k0, k1, k2, k3, k5, hl, d5⟩
    · cases c2
  · cases c
/-- what is asked of the class at C, whose __init__ is the def at f (none: WorkError's own, the base's) -/
def excB (K : PySem.W.Frag) (C : Addr) : Bool :=
  clsB K C && (isSet K C "__setattr__" (some (.builtin "object.__setattr__")) && (isSet K C "__getattribute__" (some (.builtin "BaseException.__getattribute__")) && (isSet K C "__getattr__" none &&
    (decide (PySem.W.subIn K (.ref C) (.type "BaseException") = some true) && (decide (PySem.W.typeIn K (.ref C) = some (.type "type")) && PySem.W.keepIn K (.ref C))))))
structure ExcC (K : PySem.W.Frag) (C : Addr) : Prop where
  oex : OexC K C
  ga : PySem.W.findIn K (.ref C) "__getattribute__" = some (some (.builtin "BaseException.__getattribute__"))
  gt : PySem.W.findIn K (.ref C) "__getattr__" = some none
theorem excB_ok {K : PySem.W.Frag} {C : Addr} (c : excB K C = true) : ExcC K C := by
  obtain ⟨c1, c⟩ := Bool.and_eq_true_iff.mp c
  obtain ⟨c2, c⟩ := Bool.and_eq_true_iff.mp c
  obtain ⟨c3, c⟩ := Bool.and_eq_true_iff.mp c
  obtain ⟨c4, c⟩ := Bool.and_eq_true_iff.mp c
  obtain ⟨c5, c⟩ := Bool.and_eq_true_iff.mp c
  obtain ⟨c6, c7⟩ := Bool.and_eq_true_iff.mp c
  exact ⟨⟨clsB_ok c1, of_decide_eq_true c2, of_decide_eq_true c5, of_decide_eq_true c6, c7⟩, of_decide_eq_true c3, of_decide_eq_true c4⟩
/-- its __init__ is the def at f, which sets the attribute a -/
def iniB (K : PySem.W.Frag) (C f : Addr) (a : Option Str) : Bool := isSet K C "__init__" (some (.ref f)) && (decide (PySem.W.typeIn K (.ref f) = some (.type "function")) && (match a with
  | some x => isSet K C x none
  | none => true))
structure IniC (K : PySem.W.Frag) (C f : Addr) (a : Option Str) : Prop where
  ini : PySem.W.findIn K (.ref C) "__init__" = some (some (.ref f))
  typ : PySem.W.typeIn K (.ref f) = some (.type "function")
  att : ∀ x, a = some x → PySem.W.findIn K (.ref C) x = some none
theorem iniB_ok {K : PySem.W.Frag} {C f : Addr} {a : Option Str} (c : iniB K C f a = true) : IniC K C f a := by
  obtain ⟨c1, c⟩ := Bool.and_eq_true_iff.mp c
  obtain ⟨c2, c3⟩ := Bool.and_eq_true_iff.mp c
  refine ⟨of_decide_eq_true c1, of_decide_eq_true c2, fun x e => ?_⟩
  subst e
  exact of_decide_eq_true c3
/-- whether instances of the class at C are instances of the class at D (its own or a base) -/
def kitB (K : PySem.W.Frag) (C : Addr) (D : Value) (b : Bool) : Bool := decide (PySem.W.kitOne K (.ref C) D = some b)
theorem kitB_ok {K : PySem.W.Frag} {C : Addr} {D : Value} {b : Bool} (c : kitB K C D b = true) : PySem.W.kitOne K (.ref C) D = some b := of_decide_eq_true c
end WkH
/-! The package's errors: made (by position, by name, without arguments), kept as values, asked for their class, read. -/
namespace PySem
namespace WkMade
open PySem.W PySem.Calls PyProof.Rows PySem.HandSPX
section
variable {M : Model} {A : Around} {E : Value → Shared → Prop} {h : Heap} {g : Array GenState} {d : Drawn} {t : Nat} {os : OsState}
variable {nm q : Str} {C N : Addr} {bs bm bmB : List Value} {hdct : Bool} {sn : List Str} {sub : List Value} {ab : Bool} {col : Option Bool} {dd : Option Addr} {k0 k1 k2 k3 k5 : Option Value} {B newId initId : String}
theorem check_new_kw (F : ExcBaseFacts B newId initId bmB) (hT : ∀ Y : String, bm.contains (.type Y) = bmB.contains (.type Y)) {rest : List Value} {kw : List (Str × Value)} {Q : Unit → Shared → Prop}
    (hC : h.get? C = some (excClassObj nm q C N bs bm hdct sn sub ab col dd k0 k1 k2 k3 k5 newId)) (hq : Q () ⟨h, g, d, t, os⟩) : wpAny M A (checkBuiltinCall newId ⟨.ref C :: rest, kw⟩) Q E ⟨h, g, d, t, os⟩ := by
  have hin : (Value.ref C :: bm).contains (.type B) = true := by rw [List.contains_cons, hT, F.hasB, Bool.or_true]
  have hs := F.noStar
  simp only [checkBuiltinCall, F.newKind, F.newSplit, F.newRow]
  repeat (first | refine wpAny_loadPart_at hC ?_ | (refine wpAny_isSubtype_exc hC ?_; rw [hin]) | refine wpAny_staticBase_exc hC ?_ | refine wpAny_madeBy_exc hC ?_ | simp only [bne_self_eq_false, Bool.false_eq_true, if_false] | wp_step)
  exact hq
end
section
variable {prog : Program} {w : World} {A : Around} {E : Value → Shared → Prop} {R : Result → Shared → Prop} {h : Heap} {g : Array GenState} {d : Drawn} {t : Nat} {os : OsState}
variable {nm q : Str} {C N : Addr} {bs bm bmB : List Value} {hdct : Bool} {sn : List Str} {sub : List Value} {ab : Bool} {col : Option Bool} {dd : Option Addr} {k0 k1 k2 k3 k5 : Option Value} {B newId initId : String}
theorem new_kw (F : ExcBaseFacts B newId initId bmB) (hT : ∀ Y : String, bm.contains (.type Y) = bmB.contains (.type Y)) {rest : List Value} {kw : List (Str × Value)}
    (hC : h.get? C = some (excClassObj nm q C N bs bm hdct sn sub ab col dd k0 k1 k2 k3 k5 newId))
    (hq : R (.ok (.ret (.ref (h.objs.size + 1)))) ⟨(h.push (kdv_tup rest)).push (excO C h.objs.size), g, d, t, os⟩) (hr : rest.length ≤ sizeLine) :
    codeAny (model prog w) A (.builtin newId ⟨.ref C :: rest, kw⟩) R ⟨h, g, d, t, os⟩ := by
  have he := F.ends
  have hB : (Value.ref C :: bm).contains (.type B) = true := by rw [List.contains_cons, hT, F.hasB, Bool.or_true]
  have hA : (Value.ref C :: bm).contains (.type "AttributeError") = false := by rw [List.contains_cons, hT, F.noAttr]; rfl
  have hN : (Value.ref C :: bm).contains (.type "NameError") = false := by rw [List.contains_cons, hT, F.noName]; rfl
  refine codeAny_builtinAt F.entry ?_
  unfold Builtin.«BaseException.__new__»
  refine wpAt_bind ?_
  show wpAt _ _ _ (stack >>= _) _ _ _
  refine wpAt_bind (wpAt_stack fun p below => wpAt_of_wpAny ?_)
  wp_walk
  refine wpAt_of_wpAny ?_
  rw [F.owner]
  repeat (first | with_reducible refine wpAny_madeHere_exc F.canon hC ?_ | with_reducible refine wpAny_loadPart_at hC ?_ | (with_reducible refine wpAny_isSubtype_exc hC ?_; first | rw [hB] | rw [hA] | rw [hN]) | wp_step)
  show R _ _
  rw [Heap.size_push]
  exact hq
theorem type_call_kw (F : ExcBaseFacts B newId initId bmB) (hT : ∀ Y : String, bm.contains (.type Y) = bmB.contains (.type Y)) {rest : List Value} {kw : List (Str × Value)} {fI : Addr} {Q : Fin → Shared → Prop}
    (hC : h.get? C = some (excClassObj nm q C N bs bm hdct sn sub ab col dd k0 k1 k2 k3 k5 newId))
    (hi : W.Looks (model prog w) h (typeLookup (.ref C) "__init__") (some (.ref fI))) (hb : ∀ self, W.Looks (model prog w) h (bindSpecial (.ref fI) self) (.ref fI, [self])) (hr : rest.length ≤ sizeLine)
    (hq : codeAny (model prog w) A (.call (.ref fI) ⟨.ref (h.objs.size + 1) :: rest, kw⟩)
      (fun r s' => match r with | .ok (.ret v) => v = .none ∧ Q (.done (.ret (.ref (h.objs.size + 1)))) s' | .ok _ => False | .error e => E e s')
      ⟨(h.push (kdv_tup rest)).push (excO C h.objs.size), g, d, t, os⟩) :
    wpAny (model prog w) A (Builtin.«type.__call__» ⟨.ref C :: rest, kw⟩) Q E ⟨h, g, d, t, os⟩ := by
  repeat (first | with_reducible refine wpAny_loadPart_at hC ?_ | with_reducible refine wpAny_madeBy_exc hC ?_ | wp_step)
  refine codeAny_call_builtin_code (Code.quiet_builtin _ F.quiet) (check_new_kw F hT hC ?_)
  refine new_kw F hT hC ?_ hr
  show wpAny _ _ _ _ _ _
  have k : ∀ b o, h.get? b = some o → ((h.push (kdv_tup rest)).push (excO C h.objs.size)).get? b = some o := fun b o e => Heap.get?_push_of_some _ (Heap.get?_push_of_some _ e)
  have hC1 := k _ _ hC
  have hget : ((h.push (kdv_tup rest)).push (excO C h.objs.size)).get? (h.objs.size + 1) = some (excO C h.objs.size) := by heap_get
  have hcC : (Value.ref C :: bm).contains (.ref C) = true := by simp
  have i1 := hi.keeps k
  have b1 := (hb (.ref (h.objs.size + 1))).keeps k
  unfold isInstance
  repeat (first | with_reducible refine wpAny_loadPart_at hget ?_ | (with_reducible refine wpAny_isSubtype_exc hC1 ?_; rw [hcC]) | wp_step)
  show wpAny _ _ (typeLookup (.ref C) _) _ _ _
  refine i1.at ?_
  refine wpAny_holding (wpAny_bind (b1.at ?_))
  refine wpAny_bind (wpAny_call (codeAny_mono hq fun r s' z => ?_))
  rcases r with e | (v | _ | _ | _) <;> first | exact z | exact z.elim | skip
  obtain ⟨rfl, z⟩ := z
  first
    | exact wpAny_pure (wpAny_pure z)
    | (wp_walk; exact z)
theorem call_kw (F : ExcBaseFacts B newId initId bmB) (hT : ∀ Y : String, bm.contains (.type Y) = bmB.contains (.type Y)) {rest : List Value} {kw : List (Str × Value)} {fI : Addr}
    (hC : h.get? C = some (excClassObj nm q C N bs bm hdct sn sub ab col dd k0 k1 k2 k3 k5 newId))
    (hi : W.Looks (model prog w) h (typeLookup (.ref C) "__init__") (some (.ref fI))) (hb : ∀ self, W.Looks (model prog w) h (bindSpecial (.ref fI) self) (.ref fI, [self])) (hr : rest.length ≤ sizeLine)
    (hq : codeAny (model prog w) (A.under (.builtin "type.__call__" ⟨.ref C :: rest, kw⟩)) (.call (.ref fI) ⟨.ref (h.objs.size + 1) :: rest, kw⟩) (W.InitBack (h.objs.size + 1) R)
      ⟨(h.push (kdv_tup rest)).push (excO C h.objs.size), g, d, t, os⟩) :
    codeAny (model prog w) A (.call (.ref C) ⟨rest, kw⟩) R ⟨h, g, d, t, os⟩ := by
  have f1 := tc_lookup
  have f2 := tc_bind (.ref C)
  have hTy : (⟨h, g, d, t, os⟩ : Shared).TypeIs (.ref C) "type" := ⟨_, hC, rfl⟩
  refine codeAny_of_tree ?_
  show wpAny _ _ (callAny (.ref C) _) _ _ _
  repeat (any_goals (first | assumption | with_reducible refine wpAny_loadPart_at hC ?_ | wp_step))
  refine ⟨rfl, ?_⟩
  refine codeAny_call_builtin_at (Code.quiet_builtin _ (by decide +kernel)) entry_typeCall (wpAny_check_type_call_sub hC (type_call_kw F hT hC hi hb hr ?_))
  refine codeAny_mono hq fun r s' z => ?_
  rcases r with e | (v | _ | _ | _) <;> exact z
end
end WkMade
end PySem
namespace WkE
open PySem PySem.Spec PyProof.Rows L2 WkH

/-! ### WorkError's own __init__, read off the class -/
structure BaseC (K : PySem.W.Frag) (B : Addr) : Prop where
  rd : PySem.W.readsIn K B (.type "type") = true
  ga : PySem.W.specialIn K (.ref B) "__getattribute__" = some (some (.builtin "type.__getattribute__"))
  at_ : PySem.W.findCls K (.ref B) (.type "type") "__init__" = some (.val (.builtin "ValueError.__init__"))
def isVal (x : Option PySem.W.CFound) (v : Value) : Bool := match x with
  | some (.val u) => decide (u = v)
  | _ => false
def baseB (K : PySem.W.Frag) (B : Addr) : Bool := PySem.W.readsIn K B (.type "type") && (decide (PySem.W.specialIn K (.ref B) "__getattribute__" = some (some (.builtin "type.__getattribute__"))) &&
  isVal (PySem.W.findCls K (.ref B) (.type "type") "__init__") (.builtin "ValueError.__init__"))
theorem baseB_ok {K : PySem.W.Frag} {B : Addr} (c : baseB K B = true) : BaseC K B := by
  obtain ⟨c1, c⟩ := Bool.and_eq_true_iff.mp c
  obtain ⟨c2, c3⟩ := Bool.and_eq_true_iff.mp c
  refine ⟨c1, of_decide_eq_true c2, ?_⟩
  unfold isVal at c3
  split at c3
  · rename_i u hu
    rw [hu, of_decide_eq_true c3]
  · cases c3
section
variable {X : Cx} {e : Expr} {es : List Expr} {ta : TA} {p1 p2 pos : Pos} {x : Str} {B : Addr}
/-- B.__init__(self, ..) -/
theorem pe_binit {pl : Sem Bool} (T : BaseC X.K B) (hg : Gl X x) (hm : X.mg x = some (.ref B)) (ha : PA X (e :: es) ta) (hd : (x == ("__debug__" : Str)) = false := by decide)
    (hc : eval (.Call (.Attribute (.Name x p1) "__init__" p2) (e :: es) [] pos) X.env = (do
      let ov ← eval (.Name x p1) X.env
      standAt p2.atName
      let (f, first) ← holding [ov] (getMethod ov "__init__" pl)
      callWith pos f first (backTo pos (starEach (e :: es) X.env)) (backToKw pos (keywordEach [] X.env))) := by rfl)
    (he : starEach (e :: es) X.env = (false, eval e X.env) :: starEach es X.env := by rfl) (hp : (backTo pos (starEach es X.env)).any (·.1) = false := by rfl) :
    PE X (.Call (.Attribute (.Name x p1) "__init__" p2) (e :: es) [] pos) (tVeI X.K ta) := by
  refine ⟨fun pins s σ H Q I h => ?_⟩
  refine PySem.W.methodCall_KW (ld_glob I hg hm ?_ hd) hc
  refine PySem.W.method_cls I.kIn T.ga (PySem.W.cls_value I.kIn T.rd T.at_ (by decide +kernel) ?_)
  show wpAny _ _ (callWith pos (Value.builtin "ValueError.__init__") [] (backTo pos (starEach (e :: es) X.env)) []) _ _ _
  refine PyProof.Rows.callWith_method1 (thn (ha.run pos pins _ σ H _ (I.tok _) h) fun us s1 ⟨vs, H1, I1, r1, a, C, ws, ev, hl, T1, ea, q⟩ => ?_) he hp
  subst ev
  cases r1 with
  | @cons _ u0 _ ur ra rw' =>
    obtain rfl : u0 = Value.ref a := ra
    have hlen : ur.length ≤ sizeLine := by
      rw [← Paired.length rw', sizeLine_eq]
      omega
    exact oinit_ok T1 I1 ea hlen fun s' J => ⟨.non, H1, J, rfl, q⟩
end

/-! ### an error as a value -/
/-- the error at a, of the class at C; what it keeps: nothing, or v under f in its own dict at d -/
def Err0 (H : Hp) (a C : Addr) : Prop := H a = some (exo a C none)
def Err1 (H : Hp) (a C : Addr) (f : Str) (v : V) : Prop := ∃ d, H a = some (exo a C (some d)) ∧ H d = some (exd d [(f, v)])
inductive ErrAt (H : Hp) (a C : Addr) : Prop where
  | no (h : Err0 H a C)
  | one (f : Str) (v : V) (h : Err1 H a C f v)
theorem Err0.mono {H H' : Hp} {a C : Addr} (e : ∀ b o, H b = some o → H' b = some o) (h : Err0 H a C) : Err0 H' a C := e _ _ h
theorem Err1.mono {H H' : Hp} {a C : Addr} {f : Str} {v : V} (e : ∀ b o, H b = some o → H' b = some o) (h : Err1 H a C f v) : Err1 H' a C f v := by
  obtain ⟨d, h1, h2⟩ := h
  exact ⟨d, e _ _ h1, e _ _ h2⟩
theorem ErrAt.mono {H H' : Hp} {a C : Addr} (e : ∀ b o, H b = some o → H' b = some o) (h : ErrAt H a C) : ErrAt H' a C := by
  cases h with
  | no h => exact .no (h.mono e)
  | one f v h => exact .one f v (h.mono e)
section
variable {X : Cx} {pins : List (Addr × Obj)} {σ : L2.St} {H : Hp} {s : Shared} {a C : Addr}
theorem ErrAt.inst (I : Inv X pins σ H s) (h : ErrAt H a C) : ∃ oe od, PySem.W.InstAt s.heap a oe C od := by
  cases h with
  | no h =>
    obtain ⟨t1, ho⟩ := exo_at I.hok h
    exact ⟨_, none, ho, rfl, rfl, trivial⟩
  | one f v h =>
    obtain ⟨d, h1, h2⟩ := h
    obtain ⟨t1, ho⟩ := exo_at I.hok h1
    obtain ⟨mA, ⟨od, es, ep, hd, r⟩, _⟩ := exd_at I.hok h2
    exact ⟨_, some od, ho, rfl, rfl, hd⟩
end
/-- what the class at C says, so that isinstance and attributes of its instances are read plainly -/
structure AskC (K : PySem.W.Frag) (C : Addr) : Prop where
  cl : (PySem.W.clsIn K C).isSome = true
  hd : PySem.W.hasDictIn K C = true
  ga : PySem.W.findIn K (.ref C) "__getattribute__" = some (some (.builtin "BaseException.__getattribute__"))
  gt : PySem.W.findIn K (.ref C) "__getattr__" = some none
  ex : PySem.W.subIn K (.ref C) (.type "BaseException") = some true
  ca : PySem.W.findIn K (.ref C) "__class__" = some (some (.builtin "object.__class__"))
  sg : PySem.W.specialIn K (.builtin "object.__class__") "__get__" = some (some (.builtin "getset_descriptor.__get__"))
  tk : PySem.W.takesIn K (.builtin "object.__class__") = some true
  mo : PySem.W.mroIn K C (.type "object") = some true
def askB (K : PySem.W.Frag) (C : Addr) : Bool :=
  PySem.W.hasDictIn K C && (isSet K C "__getattribute__" (some (.builtin "BaseException.__getattribute__")) && (isSet K C "__getattr__" none && (decide (PySem.W.subIn K (.ref C) (.type "BaseException") = some true) &&
    (isSet K C "__class__" (some (.builtin "object.__class__")) && decide (PySem.W.mroIn K C (.type "object") = some true)))))
theorem askB_ok {K : PySem.W.Frag} {C : Addr} (c : askB K C = true) : AskC K C := by
  obtain ⟨c1, c⟩ := Bool.and_eq_true_iff.mp c
  obtain ⟨c2, c⟩ := Bool.and_eq_true_iff.mp c
  obtain ⟨c3, c⟩ := Bool.and_eq_true_iff.mp c
  obtain ⟨c4, c⟩ := Bool.and_eq_true_iff.mp c
  obtain ⟨c5, c6⟩ := Bool.and_eq_true_iff.mp c
  refine ⟨?_, c1, of_decide_eq_true c2, of_decide_eq_true c3, of_decide_eq_true c4, of_decide_eq_true c5, ?_, ?_, of_decide_eq_true c6⟩
  · obtain ⟨cd, hc, _⟩ := PySem.W.any_some c1
    rw [hc]
    rfl
  · kernel_rfl
  · kernel_rfl
/-- isinstance(e, c), e an error of the class at C -/
def rIsiE (K : PySem.W.Frag) : List V → Hp → VK → Prop := fun xs H Q => ∃ (a C : Addr) (c : V) (u : Value) (b : Bool), xs = [.ref a, c] ∧ ClsV c u ∧ AskC K C ∧ ErrAt H a C ∧ PySem.W.kitOne K (.ref C) u = some b ∧ Q (.bl b) H
theorem call_isiE {X : Cx} : CallR X (.builtin "isinstance") (rIsiE X.K) := by
  intro pins s σ H xs us Q I r h
  obtain ⟨a, C, c, u, b, rfl, k, T, ea, e, q⟩ := h
  obtain ⟨u1, u2, rfl, r1, r2⟩ := vals2 r
  cases (show u1 = Value.ref a from r1)
  have e2 := k.eq r2
  subst e2
  obtain ⟨oe, od, J⟩ := ea.inst I
  exact PySem.W.kia_one (PySem.W.kitx_exc T.cl T.ga T.gt T.ex T.ca T.sg T.tk T.mo) I.kIn J e (fun z => nomatch z) fun tk => ⟨.bl b, H, I.tok tk, rfl, q⟩
/-- isinstance(x, c): an error, or anything else -/
def rIsiA (K : PySem.W.Frag) : List V → Hp → VK → Prop := fun xs H Q => rIsi K xs H Q ∨ rIsiE K xs H Q
theorem call_isiA {X : Cx} : CallR X (.builtin "isinstance") (rIsiA X.K) := by
  intro pins s σ H xs us Q I r h
  rcases h with h | h
  · exact call_isi pins s σ H xs us Q I r h
  · exact call_isiE pins s σ H xs us Q I r h
/-- e.f -/
def tErrF (K : PySem.W.Frag) (f : Str) (te : TE) : TE := fun σ H Q => te σ H fun x H1 => ∃ (a C : Addr) (v : V), x = .ref a ∧ AskC K C ∧ PySem.W.findIn K (.ref C) f = some none ∧ Err1 H1 a C f v ∧ Q v H1
theorem pe_errF {X : Cx} {e : Expr} {te : TE} {pos : Pos} {f : Str} (he : PE X e te) (hb : attributeBase e f X.env (eval e X.env) = eval e X.env := by rfl) : PE X (.Attribute e f pos) (tErrF X.K f te) := by
  refine ⟨fun pins s σ H Q I h => ?_⟩
  refine attr_of hb (thn (he.run pins s σ H _ I h) fun u s1 hh => ?_)
  obtain ⟨x, H1, I1, rx, a, C, v, ex, T, hno, ⟨d, h1, h2⟩, q⟩ := hh
  subst ex
  obtain rfl : u = Value.ref a := rx
  obtain ⟨t1, ho⟩ := exo_at I1.hok h1
  obtain ⟨mA, hns, hr⟩ := exd_at I1.hok h2
  obtain ⟨od, hod, hl⟩ := lookIn_ns hns
  have l : List.lookup f [(f, v)] = some v := by simp [List.lookup]
  obtain ⟨u, hu, ru⟩ := RelO.some_of (v := v) (o := mA f) (by rw [← l]; exact hr f)
  exact HandSPX.exc_get I1.kIn (od := some od) ⟨ho, rfl, rfl, hod⟩ T.ga T.gt T.ex (PySem.W.findObj_own T.hd hno rfl (by rw [hl, hu])) (handed_of ru) ⟨v, H1, I1.tok _, ru, q⟩

/-! ### making -/
section
variable {X : Cx} {CX : CXT} {k n : Nat} {C fI : Addr} {fd : FuncData} {ps ks : List Str} {sp : Sp} {x : Str} {p pos : Pos} {e : Expr} {es : List Expr} {kws : List Keyword} {t tk : TA} {g : List Value → List Value → List Value} {gV : List V → List V → List V}
/-- what stands behind the call of the class, before its __init__ -/
theorem err_made {pins : List (Addr × Obj)} {σ : L2.St} {H : Hp} {s : Shared} {Q : VK} {us ws : List Value} {vs zs : List V} (T : OexC X.K C) (iC : PySem.W.findIn X.K (.ref C) "__init__" = some (some (.ref fI))) (tI : PySem.W.typeIn X.K (.ref fI) = some (.type "function"))
    (FI : FnOk X.prog X.w X.K X.mg X.base CX k fI fd ps sp) (hr : Room (k + 1) X.A) (hb : KBn X.K fd ps (n + 1) ks g gV) (hx : Passes CX X E0) (I : Inv X pins σ H s) (r : Vals vs us) (rz : Vals zs ws) (l1 : vs.length = n) (l2 : zs.length = ks.length) (lz : vs.length ≤ 1000)
    (h : ∀ a, H a = none → sp (gV (.ref a :: vs) zs) (upd H a (exo a C none)) (fun v H2 => v = .non ∧ Q (.ref a) H2) E0) : wpAny (model X.prog X.w) X.A (call (.ref C) us (ks.zip ws)) (EP X pins σ Q) X.xe s := by
  obtain ⟨nm, q, N, bs, bm, sn, sub, ab, col, dd, k0, k1, k2, k3, k5, hC, hbm⟩ := T.cls
  obtain ⟨hp, gg, dr, tok, os⟩ := s
  have hsz : hp.objs.size ≤ hp.objs.size + 1 := Nat.le_succ _
  have hq := h (hp.objs.size + 1) (I.hok.fresh hsz)
  have kk : ∀ b o, hp.get? b = some o → ((hp.push (PySem.W.kdv_tup us)).push (PySem.HandSPX.excO C hp.objs.size)).get? b = some o := fun b o e => Heap.get?_push_of_some _ (Heap.get?_push_of_some _ e)
  have hget : ((hp.push (PySem.W.kdv_tup us)).push (PySem.HandSPX.excO C hp.objs.size)).get? (hp.objs.size + 1) = some (PySem.HandSPX.excO C hp.objs.size) := by heap_get
  have J : Inv X pins σ (upd H (hp.objs.size + 1) (exo (hp.objs.size + 1) C none)) ⟨(hp.push (PySem.W.kdv_tup us)).push (PySem.HandSPX.excO C hp.objs.size), gg, dr, tok, os⟩ :=
    I.laid (t' := tok) (a := hp.objs.size + 1) (o := exo (hp.objs.size + 1) C none) (h' := (hp.push (PySem.W.kdv_tup us)).push (PySem.HandSPX.excO C hp.objs.size)) kk hsz (exo_ok hget)
  have r1 : Vals (V.ref (hp.objs.size + 1) :: vs) (Value.ref (hp.objs.size + 1) :: us) := .cons rfl r
  have r2 := hb.rel r1 rz
  have e1 : (Value.ref (hp.objs.size + 1) :: us).length = n + 1 := r1.length.symm.trans (congrArg Nat.succ l1)
  have e2 : ws.length = ks.length := rz.length.symm.trans l2
  have hus : us.length ≤ sizeLine := by
    rw [← Paired.length r, sizeLine_eq]
    omega
  refine wpAny_call (PySem.WkMade.call_kw PySem.F.excBase_ValueError (fun Y => PySem.HandSPX.refsVE_contains Y bm hbm) (I.kIn _ _ hC) (PySem.W.looks_findIn I.kIn iC) (fun self => PySem.W.bind_fn I.kIn self tI) hus
    (codeAny_mono (FI.run _ X.stack _ _ ⟨Value.ref (hp.objs.size + 1) :: us, ks.zip ws⟩ (g (Value.ref (hp.objs.size + 1) :: us) ws) _ _ E0 (hr.make C us (ks.zip ws)) (J.env0.make C us (ks.zip ws)) (hb.to _ (Value.ref (hp.objs.size + 1) :: us) ws J.kIn e1 e2) r2 hq) fun r s' hq' => ?_))
  cases r with
  | error er => exact hx pins σ _ _ er s' J hq'
  | ok fl =>
    cases fl with
    | ret u =>
      obtain ⟨v, H', I3, rv, ev, q3⟩ := J.after hq'
      subst ev
      exact ⟨rv, ⟨V.ref (hp.objs.size + 1), H', I3, rfl, q3⟩⟩
    | next => exact False.elim hq'
    | brk => exact False.elim hq'
    | cont => exact False.elim hq'
/-- C(e) -/
def tErr1 (C : Addr) (sp : Sp) (t : TA) : TE := fun σ H Q => t σ H fun vs H1 => vs.length = 1 ∧ ∀ a, H1 a = none → sp (.ref a :: vs) (upd H1 a (exo a C none)) (fun v H2 => v = .non ∧ Q (.ref a) H2) E0
theorem pe_err1 (T : OexC X.K C) (iC : PySem.W.findIn X.K (.ref C) "__init__" = some (some (.ref fI))) (tI : PySem.W.typeIn X.K (.ref fI) = some (.type "function")) (FI : FnOk X.prog X.w X.K X.mg X.base CX k fI fd ps sp) (hr : Room (k + 1) X.A)
    (hb : KBn X.K fd ps 2 [] (fun us _ => us) (fun vs _ => vs)) (hx : Passes CX X E0) (hg : Gl X x) (hm : X.mg x = some (.ref C)) (ha : PA X (e :: es) t) (hd : (x == ("__debug__" : Str)) = false := by decide)
    (he : starEach (e :: es) X.env = (false, eval e X.env) :: starEach es X.env := by rfl) (hpl : (backTo pos (starEach es X.env)).any (·.1) = false := by rfl) : PE X (.Call (.Name x p) (e :: es) [] pos) (tErr1 C sp t) := by
  refine ⟨fun pins s σ H Q I h => ?_⟩
  refine wpAny_Call_Name_kw (ld_glob I hg hm ?_ hd)
  refine PySem.W.callWith_K (h₀ := X.base) I.ok.mod.kin T.kC (thn (ha.run pos pins s σ H _ I h) fun us s1 ⟨vs, H1, I1, r1, l1, q1⟩ => ⟨I1.kIn, ?_⟩) he hpl
  exact err_made (n := 1) (ks := []) (ws := []) (zs := []) T iC tI FI hr hb hx I1 r1 .nil l1 rfl (by omega) q1
/-- C() -/
def tErr0 (C : Addr) (sp : Sp) : TE := fun _ H Q => ∀ a, H a = none → sp [.ref a] (upd H a (exo a C none)) (fun v H2 => v = .non ∧ Q (.ref a) H2) E0
theorem pe_err0 (T : OexC X.K C) (iC : PySem.W.findIn X.K (.ref C) "__init__" = some (some (.ref fI))) (tI : PySem.W.typeIn X.K (.ref fI) = some (.type "function")) (FI : FnOk X.prog X.w X.K X.mg X.base CX k fI fd ps sp) (hr : Room (k + 1) X.A)
    (hb : KBn X.K fd ps 1 [] (fun us _ => us) (fun vs _ => vs)) (hx : Passes CX X E0) (hg : Gl X x) (hm : X.mg x = some (.ref C)) (hd : (x == ("__debug__" : Str)) = false := by decide) : PE X (.Call (.Name x p) [] [] pos) (tErr0 C sp) := by
  refine ⟨fun pins s σ H Q I h => ?_⟩
  refine wpAny_Call_Name_kw (ld_glob I hg hm ?_ hd)
  exact PySem.W.callWith_K0 I.kIn T.kC (err_made (n := 0) (ks := []) (ws := []) (zs := []) (us := []) (vs := []) T iC tI FI hr hb hx I .nil .nil rfl rfl (Nat.zero_le _) h)
/-- C(f = e) -/
def tErrK (C : Addr) (sp : Sp) (tk : TA) : TE := fun σ H Q => tk σ H fun zs H1 => zs.length = 1 ∧ ∀ a, H1 a = none → sp (.ref a :: zs) (upd H1 a (exo a C none)) (fun v H2 => v = .non ∧ Q (.ref a) H2) E0
theorem pe_errK {f : Str} (T : OexC X.K C) (iC : PySem.W.findIn X.K (.ref C) "__init__" = some (some (.ref fI))) (tI : PySem.W.typeIn X.K (.ref fI) = some (.type "function")) (FI : FnOk X.prog X.w X.K X.mg X.base CX k fI fd ps sp) (hr : Room (k + 1) X.A)
    (hb : KBn X.K fd ps 1 [f] (fun us ws => us ++ ws) (fun vs zs => vs ++ zs)) (hx : Passes CX X E0) (hg : Gl X x) (hm : X.mg x = some (.ref C)) (hkw : PK X kws tk)
    (hall : (backToKw pos (keywordEach kws X.env)).all (·.1.isSome) = true := by rfl) (hks : (backToKw pos (keywordEach kws X.env)).filterMap (·.1) = [f] := by rfl) (hd : (x == ("__debug__" : Str)) = false := by decide)
    (hpl : ((backTo pos (starEach [] X.env)).any (·.1) || (backToKw pos (keywordEach kws X.env)).any (·.1.isNone)) = false := by rfl) : PE X (.Call (.Name x p) [] kws pos) (tErrK C sp tk) := by
  refine ⟨fun pins s σ H Q I h => ?_⟩
  refine wpAny_Call_Name_kw (ld_glob I hg hm ?_ hd)
  refine PySem.W.callWith_KW0 (h₀ := X.base) I.ok.mod.kin T.kC hall (thn (hkw.run pos pins s σ H _ I h) fun ws s2 ⟨zs, H2, I2, rz, l2, q2⟩ => ⟨I2.kIn, ?_⟩) hpl
  rw [hks]
  exact err_made (n := 0) (us := []) (vs := []) T iC tI FI hr hb hx I2 .nil rz rfl l2 (Nat.zero_le _) q2
end
end WkE
/-! Defs that ask repr of nested data: the guards of repr are told with the room (no repr runs around them). -/
namespace WkG
open PySem PySem.Spec PyProof.Rows L2 WkH
/-- nothing is being shown around A -/
abbrev Clear (A : Around) : Prop := A.guards = some []
structure FnG (P : Program) (w : World) (K : PySem.W.Frag) (mg : Str → Option Value) (base : Heap) (CX : CXT) (k : Nat) (f : Addr) (fd : FuncData) (ps : List Str) (sp : Sp) : Prop where
  len : ∀ vs H Q E, sp vs H Q E → vs.length = ps.length
  run : ∀ (A : Around) (outer : List Env) (s : Shared) (H : Hp) (args : Args) (us : List Value) (vs : List V) (Q : VK) (E : XK), Clear A → Room k A → Env0 P w K mg base A outer s H → BindsTo s fd args (ps.zip us) → Vals vs us → sp vs H Q E →
    codeAny (model P w) A (.call (.ref f) args) (CR CX outer P w H s Q E) s
theorem FnG.of {P : Program} {w : World} {K : PySem.W.Frag} {mg : Str → Option Value} {base : Heap} {CX : CXT} {k : Nat} {f : Addr} {fd : FuncData} {ps : List Str} {sp : Sp} (F : FnOk P w K mg base CX k f fd ps sp) : FnG P w K mg base CX k f fd ps sp :=
  ⟨F.len, fun A outer s H args us vs Q E _ hr e0 hb r h => F.run A outer s H args us vs Q E hr e0 hb r h⟩
section
variable {P : Program} {w : World} {K : PySem.W.Frag} {mg : Str → Option Value} {base : Heap} {CX : CXT} {k : Nat} {N ps : List Str} {sp : Sp}
/-- the rule for a def, the guards told -/
theorem okG {d : DefL} {fd : FuncData} (F : Stands K d fd) (S : FnScope N ps d.sco) (len : ∀ vs H Q E, sp vs H Q E → vs.length = ps.length)
    (hbody : ∀ (cdv : Value) (A : Around) (outer : List Env) (s : Shared) (H : Hp) (vs : List V) (Q : VK) (E : XK), Clear (A.deeper (envOfC d.qual d.sco s.heap.objs.size d.adr cdv)) → Room k (A.deeper (envOfC d.qual d.sco s.heap.objs.size d.adr cdv)) → sp vs H Q E →
      ∃ t, PSs (cxOf CX P w K mg base N d.qual d.sco d.adr cdv A outer s H E) d.bod t ∧ t { nx := fun _ H' => Q .non H', rt := Q } (start N vs) H) : FnG P w K mg base CX (k + 1) d.adr fd ps sp := by
  obtain ⟨oc, od, dV, kV, doc, pm, an, cdv, ct, osl, rfl, lk, hcd, _, _⟩ := F.ex
  refine ⟨len, fun A outer s H args us vs Q E hG hr e0 hb r hsp => ?_⟩
  have KX : K.In s.heap := e0.mod.kin.keeps fun b o e => (e0.bs b o e).1
  have lim : s.heap.NoLimit := e0.mod.nolimit.keeps fun b o e => (e0.bs b o e).1
  have kinds : ∀ y ∈ ps.zip us, d.sco.names.lookup y.1 = some .local ∨ (d.sco.names.lookup y.1 = some .cell ∧ ((cellsFrom (s.heap.objs.size + 1) d.sco.names []).lookup y.1).isSome = true) := fun ⟨n, v⟩ hy => by
    rcases S.par n (List.of_mem_zip hy).1 with q | q
    · exact .inl q
    · exact .inr ⟨q, PySem.W.cellsFrom_some _ _ _ (.inl q)⟩
  refine codeAny_call_function hr.depth (KX _ _ lk) rfl S.co S.gen rfl (PySem.W.codeRec_of KX hcd) (hb _ _ _ _ (wpAny_newFunctionEnv_cells S.kind kinds fun env he s1 x => ?_))
  subst he
  obtain ⟨t, ht, hq⟩ := hbody cdv A outer s H vs Q E hG (hr.deeper _) hsp
  refine ⟨lim.keeps x.toInCall.keep, codeAny_func ?_⟩
  have J : Inv (cxOf CX P w K mg base N d.qual d.sco d.adr cdv A outer s H E) [] (start N vs) H s1 := inv_start S hr.hd e0 (len _ _ _ _ hsp) r x
  refine wpAny_mono (ht.run [] s1 (start N vs) H _ J hq) (fun fl s' hs => ?_) fun e s' hs => hs
  cases fl with
  | ret u =>
    obtain ⟨v, σ', H', J', rv, q⟩ := hs
    exact ⟨v, H', J'.os, J'.bare, J'.base, J'.hok, rv, q⟩
  | next =>
    obtain ⟨σ', H', J', q⟩ := hs
    exact ⟨V.non, H', J'.os, J'.bare, J'.base, J'.hok, rfl, q⟩
  | brk =>
    obtain ⟨_, _, _, q⟩ := hs
    exact False.elim q
  | cont =>
    obtain ⟨_, _, _, q⟩ := hs
    exact False.elim q
end
section
variable {X : Cx} {CX : CXT} {k : Nat} {f : Addr} {fd : FuncData} {ps : List Str} {sp : Sp} {E : XK} {x : Str} {p pos : Pos} {e : Expr} {es : List Expr} {t : TA} {ds : List Value} {dvs : List V}
theorem run_fnG {pins : List (Addr × Obj)} {σ : L2.St} {H : Hp} {s : Shared} {Q : VK} {us : List Value} {vs : List V} (F : FnG X.prog X.w X.K X.mg X.base CX k f fd ps sp) (hG : Clear X.A) (hr : Room k X.A) (hb : Binds X.K fd ps []) (hx : Passes CX X E)
    (I : Inv X pins σ H s) (r : Vals vs us) (h : sp vs H Q E) : wpAny (model X.prog X.w) X.A (call (.ref f) us) (EP X pins σ Q) X.xe s := by
  have hl : us.length = ps.length := by
    rw [← r.length]
    exact F.len _ _ _ _ h
  have b := hb s us I.kIn (by rw [List.append_nil]; exact hl)
  rw [List.append_nil] at b
  refine wpAny_call (codeAny_mono (F.run X.A X.stack s H ⟨us, []⟩ us vs Q E hG hr I.env0 b r h) fun r s' hq => ?_)
  cases r with
  | error e => exact hx pins σ H s e s' I hq
  | ok fl =>
    cases fl with
    | ret u => exact I.after hq
    | next => exact False.elim hq
    | brk => exact False.elim hq
    | cont => exact False.elim hq
/-- f(e, ..), f such a def -/
theorem pe_callG (F : FnG X.prog X.w X.K X.mg X.base CX k f fd ps sp) (hG : Clear X.A) (hr : Room k X.A) (hg : Gl X x) (hm : X.mg x = some (.ref f)) (hk : PySem.W.keepIn X.K (.ref f) = true) (hb : Binds X.K fd ps []) (hx : Passes CX X E)
    (ha : PA X (e :: es) t) (hd : (x == ("__debug__" : Str)) = false := by decide) (he : starEach (e :: es) X.env = (false, eval e X.env) :: starEach es X.env := by rfl) (hpl : (backTo pos (starEach es X.env)).any (·.1) = false := by rfl) :
    PE X (.Call (.Name x p) (e :: es) [] pos) (tCall sp [] E t) := by
  refine ⟨fun pins s σ H Q I h => ?_⟩
  refine wpAny_Call_Name_kw (ld_glob I hg hm ?_ hd)
  refine PySem.W.callWith_K (h₀ := X.base) I.ok.mod.kin hk (thn (ha.run pos pins s σ H _ I h) fun us s1 ⟨vs, H1, I1, r, q⟩ => ⟨I1.kIn, ?_⟩) he hpl
  have q' : sp vs H1 Q E := by
    have z : sp (vs ++ []) H1 Q E := q
    rw [List.append_nil] at z
    exact z
  exact run_fnG F hG hr hb hx I1 r q'
end
/-! ### the end of a law -/
/-- the abstract heap ahead of the law: the script alone, or (a module's own object) nothing -/
def onlyAt (a : Addr) (o : Obj) (xs : List V) (own : Bool) : Hp := fun b => if own = false ∧ b = a then some (.frz o (.lst xs)) else none
section
variable {P : Program} {w : World} {K : PySem.W.Frag} {mg mb : Str → Option Value} {CX : CXT} {k : Nat} {fa a : Addr} {fd : FuncData} {x : Str} {sp : Sp} {s : Shared} {us : List Value} {ns : List Int}
theorem onlyAt_cases {a b : Addr} {o : Obj} {xs : List V} {own : Bool} : (onlyAt a o xs own b = none ∧ (own = true ∨ b ≠ a)) ∨ (own = false ∧ b = a ∧ onlyAt a o xs own b = some (.frz o (.lst xs))) := by
  unfold onlyAt
  by_cases h : own = false ∧ b = a
  · rw [if_pos h]
    exact .inr ⟨h.1, h.2, rfl⟩
  · rw [if_neg h]
    refine .inl ⟨rfl, ?_⟩
    cases own with
    | true => exact .inl rfl
    | false => exact .inr fun e => h ⟨rfl, e⟩
/-- the law's call, its def's promise told under clear guards -/
theorem law_callG (KX : K.In s.heap) (hns : s.heap.Ns mainGlobals mg) (hb : s.heap.Ns builtinsNs mb) (hbb : ∀ x : Str, x ≠ "__name__" → mb x = bootBuiltins x) (hlim : s.heap.NoLimit) (hg : s.gens = #[])
    (ha : s.heap.get? a = some { cls := .type "list", data := .seq us.toArray }) (hi : IntsAre us ns) (hl : ns.length ≤ sizeLine) (hr : Room k callerA)
    (F : ∀ base : Heap, K.In base → base.Ns mainGlobals mg → FnG P w K mg base CX k fa fd [x] sp) (hbind : ∀ (s : Shared) (u : Value), BindsTo s fd ⟨[u], []⟩ [(x, u)])
    (hsp : ∀ H : Hp, Only H → SqL K H a (ns.map V.int) → sp [.ref a] H (fun v _ => v = .bl true) fun _ _ _ => False) (hCX : ∀ H e s', CX [] H s (fun _ _ _ => False) e s' → False) :
    codeAny (model P w) callerA (.call (.ref fa) ⟨[.ref a], []⟩) (fun r s' => r = .ok (.ret (.bool true)) ∧ OldK s.heap s'.heap ∧ s'.os = s.os ∧ AllBare s'.gens) s := by
  have rv : Vals (ns.map V.int) us := vals_ints hi
  -- own: the script is an object of the module's own
  generalize hw : (K.lookup a).isSome = own
  let o : Obj := { cls := .type "list", data := .seq us.toArray }
  let H : Hp := onlyAt a o (ns.map V.int) own
  have hO : Only H := fun b => by
    rcases onlyAt_cases (a := a) (b := b) (o := o) (xs := ns.map V.int) (own := own) with h | h
    · exact .inl h.1
    · exact .inr ⟨_, _, h.2.2⟩
  have hK : own = true → ∃ q, K.lookup a = some q := fun e => Option.isSome_iff_exists.mp (hw.trans e)
  have hS : SqL K H a (ns.map V.int) := by
    cases own with
    | true =>
      obtain ⟨q, hq⟩ := hK rfl
      have e := KX a q hq
      rw [ha] at e
      cases e
      exact .inr ⟨_, us.toArray, _, hq, rfl, rfl, rfl, by rw [List.size_toArray, hi.length]; exact hl, by simpa using rv⟩
    | false => exact .inl (.inr ⟨o, if_pos ⟨rfl, rfl⟩⟩)
  have hok : HOk P w H s.heap := fun b u z => by
    rcases onlyAt_cases (a := a) (b := b) (o := o) (xs := ns.map V.int) (own := own) with h | ⟨_, hba, h⟩
    · have z' : (none : Option HO) = some u := h.1.symm.trans z
      cases z'
    · have z' := h.symm.trans z
      cases z'
      subst hba
      exact ⟨ha, by rw [List.length_map]; exact hl, us, _, rv, ha⟩
  -- what of the heap is not tracked: all but the script
  have free : ∀ {b : Addr} {q : Obj}, s.heap.get? b = some q → (b = a → own = true) → (hidT s.heap H).get? b = some q := fun {b q} e n => hidT_get e (by
    rcases onlyAt_cases (a := a) (b := b) (o := o) (xs := ns.map V.int) (own := own) with h | ⟨h1, h2, _⟩
    · exact h.1
    · rw [n h2] at h1
      cases h1)
  have ns1 : ∀ {b : Addr} {m : Str → Option Value}, s.heap.Ns b m → (hidT s.heap H).Ns b m := fun {b m} ⟨q, es, ep, e, d, r⟩ => ⟨q, es, ep, free e (fun z => by
    rw [z, ha] at e
    cases e
    cases (show Data.seq us.toArray _ = Data.dict es ep from d)), d, r⟩
  have hKb : K.In (hidT s.heap H) := fun b q e => free (KX b q e) (fun z => by
    rw [← hw, ← z, e]
    rfl)
  have e0 : Env0 P w K mg (hidT s.heap H) callerA [] s H :=
    ⟨rfl, ⟨hKb, ns1 hns, ⟨mb, ns1 hb, hbb⟩, let ⟨mc, h1, h2⟩ := hlim; ⟨mc, ns1 h1, h2⟩⟩, fun b q e => of_hidT e, Nat.le_of_eq (hidT_size _ _), trivial, fun b hb => absurd (show b ∈ ([] : List Addr) from hb) (by simp), hok, .of_eq hg⟩
  refine codeAny_mono ((F _ hKb (ns1 hns)).run callerA [] s H ⟨[.ref a], []⟩ [.ref a] [.ref a] _ _ rfl hr e0 (hbind s (.ref a)) (.cons rfl .nil) (hsp H hO hS)) fun r s' h => ?_
  cases r with
  | error e => exact (hCX H e s' h).elim
  | ok fl =>
    cases fl with
    | next => exact False.elim h
    | brk => exact False.elim h
    | cont => exact False.elim h
    | ret u =>
      obtain ⟨v, H', os, bare, un, hok', r', q⟩ := h
      have q' : v = .bl true := q
      subst q'
      obtain rfl : u = Value.bool true := r'
      refine ⟨rfl, OldK.of_keep fun b q e => ?_, os, bare⟩
      rcases onlyAt_cases (a := a) (b := b) (o := o) (xs := ns.map V.int) (own := own) with h | ⟨_, _, h⟩
      · exact un.keep b q e h.1 (fun z => absurd (show b ∈ ([] : List Addr) from z) (by simp)) (by simp)
      · obtain ⟨e1, _⟩ := hok b _ h
        obtain ⟨e2, _⟩ := hok' b _ (un.frzs b o _ h)
        rw [e] at e1
        cases e1
        exact e2
end
theorem walkG {l : PySem.W.OpenLaw} {n k : Nat} {q : Program} {loose : List Str} {XP : (Str → Option Value) → Heap → Prop} {YP : World → Heap → Prop} {d : DefRec} {CX : CXT} {x : Str} (hn : l.most = some n) (hn2 : n ≤ sizeLine) (hdf : d.params.defaults = []) (hr : Room k callerA)
    (F : ∀ (w : World) (mg : Str → Option Value) (fa : Addr) (h : Heap), YP w h → h.Ns mainGlobals mg → mg d.name = some (.ref fa) → ∃ (K : PySem.W.Frag) (fd : FuncData) (sp : Sp), K.In h ∧ (∀ (s : Shared) (u : Value), BindsTo s fd ⟨[u], []⟩ [(x, u)]) ∧
      (∀ (H : Hp) (a : Addr) (ns : List Int), ns.length ≤ n → Only H → SqL K H a (ns.map V.int) → sp [.ref a] H (fun v _ => v = .bl true) fun _ _ _ => False) ∧ ∀ base : Heap, K.In base → base.Ns mainGlobals mg → FnG l.prog w K mg base CX k fa fd [x] sp)
    (hCX : ∀ (H : Hp) (s : Shared) (e : Value) (s' : Shared), CX [] H s (fun _ _ _ => False) e s' → False) : PySem.W.WalkO q loose XP YP l.row.toRowW d [] (fun f vs => PySem.call f vs) := by
  refine Att.attach_call hn hdf fun w s₀ s₁ mg mb fa o pm cd doc a vs ns G Y ho hd hcd hmg hobj hints hlen hg => ?_
  obtain ⟨K, fd, sp, KX, hb, hsp, hF⟩ := F w mg fa _ Y G.T.g hmg
  exact law_callG KX G.T.g G.T.b G.T.builtins G.T.nolimit hg hobj hints (Nat.le_trans hlen hn2) hr hF hb (fun H hO hS => hsp H a ns hlen hO hS) fun H e s' => hCX H s₁ e s'
end WkG
/-! repr of nested data: numbers, texts, lists, tuples, dicts with keys that are numbers or texts. -/
namespace WkR
open PySem PySem.Spec PyProof.Rows L2 WkH WkG
/-- a key as data -/
def keyD : Key → PyData
  | .inl i => .int i
  | .inr x => .str x
mutual
/-- the value, read off the abstract heap, is this data -/
inductive Dq (K : PySem.W.Frag) (H : Hp) : V → PyData → Prop
  | non : Dq K H .non .none
  | bl (b : Bool) : Dq K H (.bl b) (.bool b)
  | int (i : Int) : Dq K H (.int i) (.int i)
  | str (x : Str) : Dq K H (.str x) (.str x)
  | lst {a : Addr} {xs : List V} {ds : List PyData} : Rd H a (.lst xs) → DqAll K H xs ds → Dq K H (.ref a) (.list ds)
  | tup {a : Addr} {xs : List V} {ds : List PyData} : SqT K H a xs → DqAll K H xs ds → Dq K H (.ref a) (.tuple ds)
  | dic {a : Addr} {kvs : List (Key × V)} {ds : List (PyData × PyData)} : H a = some (.dK kvs) → ds.map (·.1) = kvs.map (fun p => keyD p.1) → DqAll K H (kvs.map (·.2)) (ds.map (·.2)) → Dq K H (.ref a) (.dict ds)
inductive DqAll (K : PySem.W.Frag) (H : Hp) : List V → List PyData → Prop
  | nil : DqAll K H [] []
  | cons {v : V} {vs : List V} {d : PyData} {ds : List PyData} : Dq K H v d → DqAll K H vs ds → DqAll K H (v :: vs) (d :: ds)
end
/-- the system's modules stand in the written part, as a dict -/
def sysB (K : PySem.W.Frag) : Bool := (K.lookup sysModules).isSome
section
variable {X : Cx} {pins : List (Addr × Obj)} {σ : L2.St} {H : Hp} {s : Shared}
theorem pairs_keys {P : Program} {w : World} {h : Heap} : ∀ {es : List DictEntry} {kvs : List (Key × Value)}, Pairs (mixKind P w) es kvs → ReadsAll h (es.map (·.key)) (kvs.map fun p => keyD p.1) [] ∧ es.map (·.val) = kvs.map (·.2)
  | [], [], _ => ⟨.nil, rfl⟩
  | e :: es, (k, v) :: kvs, .cons h1 h2 h3 => by
    obtain ⟨r1, r2⟩ := pairs_keys (h := h) h3
    have hk : Reads h e.key (keyD k) [] := by
      rcases keyIs_shape (show keyIs k e.key = true from h1) with ⟨i, t, rfl, e1⟩ | ⟨x, t, rfl, e1⟩
      · rw [e1]
        exact .int i t
      · rw [e1]
        exact .str x t
    refine ⟨?_, ?_⟩
    · have z := ReadsAll.cons hk r1
      simpa using z
    · simp only [List.map_cons, h2, r2]
theorem kv_vals : ∀ {kvs : List (Key × V)} {vs : List (Key × Value)}, KV kvs vs → Vals (kvs.map (·.2)) (vs.map (·.2)) ∧ (kvs.map fun p => keyD p.1) = vs.map fun p => keyD p.1
  | [], [], _ => ⟨.nil, rfl⟩
  | (k, v) :: kvs, (k', u) :: vs, .cons h1 h2 => by
    obtain ⟨r1, r2⟩ := kv_vals h2
    obtain ⟨e, rv⟩ := h1
    have e' : k = k' := e
    subst e'
    exact ⟨.cons rv r1, by simp only [List.map_cons, r2]⟩
mutual
theorem Dq.reads (I : Inv X pins σ H s) : ∀ (d : PyData) (v : V) (u : Value), Dq X.K H v d → RelV v u → ∃ as, Reads s.heap u d as ∧ ∀ b ∈ as, H b ≠ none
  | .none, _, _, .non, r => ⟨[], by cases r; exact .none, fun _ h => nomatch h⟩
  | .bool b, _, _, .bl _, r => ⟨[], by cases r; exact .bool b, fun _ h => nomatch h⟩
  | .int i, _, _, .int _, r => ⟨[], by obtain ⟨t, rfl⟩ := r; exact .int i t, fun _ h => nomatch h⟩
  | .str x, _, _, .str _, r => ⟨[], by obtain ⟨t, rfl⟩ := r; exact .str x t, fun _ h => nomatch h⟩
  | .list ds, _, _, .lst (a := a) hs ha, r => by
    cases r
    obtain ⟨hz, its, n, rv, ho⟩ := (show ObjOk X.prog X.w H s.heap a (.lst _) from hs.ok I.hok)
    obtain ⟨as, hr, na⟩ := Dq.readsAll I ds _ its ha rv
    refine ⟨_, .list ho rfl rfl (by simpa using hr), fun b hb => ?_⟩
    rcases List.mem_cons.mp hb with rfl | hb
    · rcases hs with e | ⟨o, e⟩
      · rw [e]
        exact fun z => nomatch z
      · rw [e]
        exact fun z => nomatch z
    · exact na b hb
  | .tuple ds, _, _, .tup hs ha, r => by
    cases r
    obtain ⟨its, rv, ⟨o, ho, hc, n, hd⟩, _⟩ := I.tuple hs
    obtain ⟨as, hr, na⟩ := Dq.readsAll I ds _ its ha rv
    exact ⟨_, .tuple ho hc hd hr, na⟩
  | .dict ds, _, _, .dic (a := a) hs hk ha, r => by
    cases r
    obtain ⟨hz, ny, vs, kv, o, es, ep, ho, hx, hd, _, hp, _⟩ := (show ObjOk X.prog X.w H s.heap a (.dK _) from I.hok a _ hs)
    obtain ⟨rk, ev⟩ := pairs_keys (h := s.heap) hp
    obtain ⟨rv, ek⟩ := kv_vals kv
    obtain ⟨bs, hr, nb⟩ := Dq.readsAll2 I ds _ (vs.map (·.2)) ha rv
    rw [← ev] at hr
    rw [← ek, ← hk] at rk
    refine ⟨_, .dict ho hx.1 hd rk hr, fun b hb => ?_⟩
    rcases List.mem_append.mp hb with hb | hb
    · have e : b = a := by simpa using hb
      rw [e, hs]
      exact fun z => nomatch z
    · exact nb b hb
theorem Dq.readsAll (I : Inv X pins σ H s) : ∀ (ds : List PyData) (vs : List V) (us : List Value), DqAll X.K H vs ds → Vals vs us → ∃ as, ReadsAll s.heap us ds as ∧ ∀ b ∈ as, H b ≠ none
  | [], _, _, .nil, r => ⟨[], by cases r; exact .nil, fun _ h => nomatch h⟩
  | d :: ds, _, _, .cons h1 h2, .cons r1 r2 => by
    obtain ⟨as, q1, n1⟩ := Dq.reads I d _ _ h1 r1
    obtain ⟨bs, q2, n2⟩ := Dq.readsAll I ds _ _ h2 r2
    exact ⟨_, .cons q1 q2, fun b hb => (List.mem_append.mp hb).elim (n1 b) (n2 b)⟩
theorem Dq.readsAll2 (I : Inv X pins σ H s) : ∀ (ds : List (PyData × PyData)) (vs : List V) (us : List Value), DqAll X.K H vs (ds.map (·.2)) → Vals vs us → ∃ as, ReadsAll s.heap us (ds.map (·.2)) as ∧ ∀ b ∈ as, H b ≠ none
  | [], _, _, h, r => ⟨[], by cases h; cases r; exact .nil, fun _ h => nomatch h⟩
  | (k, d) :: ds, _, _, .cons h1 h2, .cons r1 r2 => by
    obtain ⟨as, q1, n1⟩ := Dq.reads I d _ _ h1 r1
    obtain ⟨bs, q2, n2⟩ := Dq.readsAll2 I ds _ _ h2 r2
    exact ⟨_, .cons q1 q2, fun b hb => (List.mem_append.mp hb).elim (n1 b) (n2 b)⟩
end
end
/-- repr(x) -/
def rRepr (K : PySem.W.Frag) : List V → Hp → VK → Prop := fun xs H Q => ∃ (x : V) (d : PyData), xs = [x] ∧ Dq K H x d ∧ d.showable = true ∧ d.depth ≤ 20 ∧ d.shown.length ≤ 100000 ∧ Q (.str d.shown) H
theorem cr_repr {X : Cx} {k : Nat} (hG : Clear X.A) (hr : Room k X.A) (hy : sysB X.K = true) : CallR X (.builtin "repr") (rRepr X.K) := by
  intro pins s σ H vs us Q I r h
  obtain ⟨x, d, rfl, hd, hs, h20, hl, q⟩ := h
  obtain ⟨u, rfl, ru⟩ := vals1 r
  have hu := hr.units
  have hz : d.shown.length ≤ sizeLine := Nat.le_trans hl (by rw [sizeLine_eq]; decide)
  obtain ⟨as, hR, na⟩ := Dq.reads I d x u hd ru
  have nsys : H sysModules = none := by
    obtain ⟨o, ho⟩ := Option.isSome_iff_exists.mp hy
    exact (I.bs _ _ (I.ok.mod.kin _ _ ho)).2
  have hsm : d.hasDict = true → sysModules ∉ as := fun _ hm => na _ hm nsys
  have fin : ∀ t, Q (.str d.shown) H → EP X pins σ Q (.str d.shown t) { s with toks := s.toks + 1 } := fun t q => ⟨.str d.shown, H, I.tok _, ⟨t, rfl⟩, q⟩
  cases hd with
  | non =>
    cases ru
    exact PySem.P.repr_of_none (fin _ q)
  | bl b =>
    cases ru
    refine PySem.P.repr_of_bool ?_
    have e : (PyData.shown (.bool b)) = (if b then "True" else "False" : Str) := by simp only [PyData.shown]
    rw [e] at q
    exact ⟨.str _, H, I.tok _, ⟨_, rfl⟩, q⟩
  | int i =>
    obtain ⟨t, rfl⟩ := ru
    exact PySem.P.repr_of_int (by simpa [PyData.showable] using hs) (fin _ q)
  | str y =>
    obtain ⟨t, rfl⟩ := ru
    refine PySem.P.repr_of_str (fin _ q) ?_
    have e : (PyData.shown (.str y)) = reprText y := by simp only [PyData.shown]
    rw [← e]
    exact hz
  | lst _ _ =>
    cases ru
    exact PySem.repr_of_reads' hR hs hsm hG (by omega) (fun _ _ e => e) (fun h' t tk k => ⟨.str _, H, I.kept k, ⟨_, rfl⟩, q⟩) hz
  | tup _ _ =>
    cases ru
    exact PySem.repr_of_reads' hR hs hsm hG (by omega) (fun _ _ e => e) (fun h' t tk k => ⟨.str _, H, I.kept k, ⟨_, rfl⟩, q⟩) hz
  | dic _ _ _ =>
    cases ru
    exact PySem.repr_of_reads' hR hs hsm hG (by omega) (fun _ _ e => e) (fun h' t tk k => ⟨.str _, H, I.kept k, ⟨_, rfl⟩, q⟩) hz
end WkR
/-! Readings, step by step: one lemma a reading, from what follows. -/
namespace WkS
open PySem PySem.Spec PyProof.Rows L2
section
variable {K : PySem.W.Frag} {σ : L2.St} {H H' : Hp} {ta tb tc te : TE} {x y v : V} {Q : VK} {i j : Int} {r : R2} {D : Ends} {t u : TS} {c d : TT} {ar : TA} {n : Nat}
theorem e_var (h : σ[n]? = some (some v)) (q : Q v H) : tVar n σ H Q := ⟨v, h, q⟩
theorem e_c (q : Q v H) : tC v σ H Q := q
theorem e_op (q : ta σ H fun x H1 => tb σ H1 fun y H2 => r x y H2 Q) : tOp r ta tb σ H Q := q
theorem e_un {r : V → Hp → VK → Prop} (q : ta σ H fun x H1 => r x H1 Q) : tUn r ta σ H Q := q
theorem e_I0 {g : Int → Int → V} (q : Q (g i j) H) : rI0 g (.int i) (.int j) H Q := ⟨i, j, rfl, rfl, q⟩
theorem e_I {C : Int → Int → Prop} {g : Int → Int → V} (hc : C i j) (q : Q (g i j) H) : rI C g (.int i) (.int j) H Q := ⟨i, j, rfl, rfl, hc, q⟩
theorem e_mod (hj : 0 < j) (q : ∀ k, 0 ≤ k → k < j → Q (.int k) H) : rI (fun _ j => 0 < j) (fun i j => V.int (i % j)) (.int i) (.int j) H Q := ⟨i, j, rfl, rfl, hj, q _ (Int.emod_nonneg _ (by omega)) (Int.emod_lt_of_pos _ hj)⟩
theorem e_U {g : Int → V} (q : Q (g i) H) : rU g (.int i) H Q := ⟨i, rfl, q⟩
theorem e_eq (h : scal x y = true) (q : Q (.bl (decide (x = y))) H) : rEq x y H Q := ⟨h, q⟩
theorem e_ne (h : scal x y = true) (q : Q (.bl (!decide (x = y))) H) : rNe x y H Q := ⟨h, q⟩
theorem e_test {Q : Bool → Hp → Prop} (q : te σ H fun x H' => ∃ k, x = .bl k ∧ Q k H') : tTest te σ H Q := q
theorem e_tB {Q : Bool → Hp → Prop} (q : te σ H fun x H' => ∃ k, x = .bl k ∧ Q k H') : tB te σ H Q := q
theorem e_bl {b : Bool} {Q : Bool → Prop} (q : Q b) : ∃ k, V.bl b = .bl k ∧ Q k := ⟨b, rfl, q⟩
theorem e_and {Q : Bool → Hp → Prop} (q : c σ H fun k H1 => if k = true then d σ H1 Q else Q false H1) : tAnd c d σ H Q := q
theorem e_or {Q : Bool → Hp → Prop} (q : c σ H fun k H1 => if k = true then Q true H1 else d σ H1 Q) : tOr c d σ H Q := q
theorem e_not {Q : Bool → Hp → Prop} (q : c σ H fun k H1 => Q (!k) H1) : tNot c σ H Q := q
theorem e_if (q : c σ H fun k H1 => if k = true then ta σ H1 Q else tb σ H1 Q) : tIf c ta tb σ H Q := q
theorem e_andV (q : ta σ H fun x H1 => ∃ k, x = .bl k ∧ if k = true then tb σ H1 Q else Q (.bl false) H1) : tAndV ta tb σ H Q := q
theorem e_orV (q : ta σ H fun x H1 => ∃ k, x = .bl k ∧ if k = true then Q (.bl true) H1 else tb σ H1 Q) : tOrV ta tb σ H Q := q
theorem e_notV (q : ta σ H fun x H1 => ∃ k, x = .bl k ∧ Q (.bl (!k)) H1) : tNotV ta σ H Q := q
theorem e_nil {Q : List V → Hp → Prop} (q : Q [] H) : tNil σ H Q := q
theorem e_cons {tr : TA} {Q : List V → Hp → Prop} (q : te σ H fun x H1 => tr σ H1 fun xs H2 => Q (x :: xs) H2) : tCons te tr σ H Q := q
theorem e_CB {r : List V → Hp → VK → Prop} (q : ar σ H fun vs H1 => r vs H1 Q) : tCB r ar σ H Q := q
theorem e_tup (q : ar σ H fun xs H1 => xs.length ≤ sizeLine ∧ ∀ p, H1 p = none → Q (.ref p) (upd H1 p (.tup xs))) : tTup ar σ H Q := q
theorem e_lst (q : ar σ H fun xs H1 => xs.length ≤ sizeLine ∧ ∀ p, H1 p = none → Q (.ref p) (upd H1 p (.lst xs))) : tLst ar σ H Q := q
theorem e_call {sp : Sp} {dvs : List V} {E : XK} (q : ar σ H fun vs H1 => sp (vs ++ dvs) H1 Q E) : tCall sp dvs E ar σ H Q := q
theorem e_ixL {p : Addr} {xs : List V} (h : SqL K H p xs) (ha : atI xs i = some v) (q : Q v H) : rIxL K (.ref p) (.int i) H Q := ⟨p, xs, i, v, rfl, rfl, h, ha, q⟩
theorem e_ixT {p : Addr} {xs : List V} (h : SqT K H p xs) (ha : atI xs i = some v) (q : Q v H) : rIxT K (.ref p) (.int i) H Q := ⟨p, xs, i, v, rfl, rfl, h, ha, q⟩
theorem e_ixl {p : Addr} {xs : List V} (h : H p = some (.lst xs)) (ha : atI xs i = some v) (q : Q v H) : rIxL K (.ref p) (.int i) H Q := e_ixL (SqL.of h) ha q
theorem e_ixt {p : Addr} {xs : List V} (h : H p = some (.tup xs)) (ha : atI xs i = some v) (q : Q v H) : rIxT K (.ref p) (.int i) H Q := e_ixT (SqT.of h) ha q
theorem e_setL {p : Addr} {xs : List V} {j : Nat} {Q : Hp → Prop} (h : H p = some (.lst xs)) (hj : ixN xs.length i = some j) (q : Q (upd H p (.lst (xs.set j v)))) : rSetL (.ref p) (.int i) v H Q := ⟨p, xs, i, j, rfl, rfl, h, hj, q⟩
theorem e_cat {p b : Addr} {xs zs : List V} (h : H p = some (.lst xs)) (h' : H b = some (.lst zs)) (hl : xs.length + zs.length ≤ sizeLine) (q : ∀ l, H l = none → Q (.ref l) (upd H l (.lst (xs ++ zs)))) : rCat (.ref p) (.ref b) H Q := ⟨p, b, xs, zs, rfl, rfl, h, h', hl, q⟩
theorem e_seq (q : t { D with nx := u D } σ H) : tSeq t u D σ H := q
theorem e_next (q : D.nx σ H) : tNext D σ H := q
theorem e_ret (q : te σ H D.rt) : tRet te D σ H := q
theorem e_asg {g : TG} (q : te σ H fun x H1 => g x σ H1 D.nx) : tAsg te g D σ H := q
theorem e_gName {Q : L2.St → Hp → Prop} (q : Q (σ.set n (some v)) H) : gName n v σ H Q := q
theorem e_gSub {ti : TE} {s : TSet} {Q : L2.St → Hp → Prop} (q : ta σ H fun o H1 => ti σ H1 fun i H2 => s o i v H2 fun H3 => Q σ H3) : gSub ta ti s v σ H Q := q
theorem e_ifS (q : c σ H fun k H1 => if k = true then t D σ H1 else u D σ H1) : tIfS c t u D σ H := q
theorem e_drop (q : te σ H fun _ H1 => D.nx σ H1) : tDrop te D σ H := q
theorem e_par {a b : Nat} (q : ar σ H fun vs H1 => ∃ v w, vs = [v, w] ∧ D.nx ((σ.set a (some v)).set b (some w)) H1) : tPar a b ar D σ H := q
theorem e_two {v w : V} {P : V → V → Prop} (q : P v w) : ∃ a b, [v, w] = [a, b] ∧ P a b := ⟨v, w, rfl, q⟩
theorem e_ite {b : Bool} {P R : Prop} (h1 : b = true → P) (h2 : b = false → R) : if b = true then P else R := by
  cases b with
  | true =>
    rw [if_pos rfl]
    exact h1 rfl
  | false =>
    rw [if_neg Bool.false_ne_true]
    exact h2 rfl
theorem e_yes {b : Bool} {P R : Prop} (h : b = true) (p : P) : if b = true then P else R := by
  rw [if_pos h]
  exact p
theorem e_no {b : Bool} {P R : Prop} (h : b = false) (p : R) : if b = true then P else R := by
  rw [h, if_neg Bool.false_ne_true]
  exact p
theorem e_int1 (q : Q (.int i) H) : (∃ i', [V.int i] = [V.int i'] ∧ Q (.int i') H) ∨ ∃ k, [V.int i] = [V.bl k] ∧ Q (.int (if k then 1 else 0)) H := .inl ⟨i, rfl, q⟩
theorem e_one {P : Int → Prop} (q : P i) : ∃ i', [V.int i] = [V.int i'] ∧ P i' := ⟨i, rfl, q⟩
theorem e_lenL {p : Addr} {xs : List V} (h : SqL K H p xs) (q : Q (.int xs.length) H) : ∃ p' ys, [V.ref p] = [V.ref p'] ∧ (SqL K H p' ys ∨ SqT K H p' ys) ∧ Q (.int ys.length) H := ⟨p, xs, rfl, .inl h, q⟩
theorem e_lenT {p : Addr} {xs : List V} (h : SqT K H p xs) (q : Q (.int xs.length) H) : ∃ p' ys, [V.ref p] = [V.ref p'] ∧ (SqL K H p' ys ∨ SqT K H p' ys) ∧ Q (.int ys.length) H := ⟨p, xs, rfl, .inr h, q⟩
theorem e_sl {r : V → Option Int → Option Int → Hp → VK → Prop} {tl th : TO} (q : te σ H fun x H1 => tl σ H1 fun l H2 => th σ H2 fun u H3 => r x l u H3 Q) : tSl r te tl th σ H Q := q
theorem e_noPart {Q : Option Int → Hp → Prop} (q : Q none H) : tNoPart σ H Q := q
theorem e_part {Q : Option Int → Hp → Prop} (q : te σ H fun x H1 => ∃ i, x = .int i ∧ Q (some i) H1) : tPart te σ H Q := q
theorem e_vint {P : Int → Prop} (q : P i) : ∃ i', V.int i = V.int i' ∧ P i' := ⟨i, rfl, q⟩
theorem e_vbl {b : Bool} {P : Bool → Prop} (q : P b) : ∃ i', V.bl b = V.bl i' ∧ P i' := ⟨b, rfl, q⟩
theorem e_BM {T : String} {r : V → List V → Hp → VK → Prop} (q : te σ H fun x H1 => tyV K T x H1 ∧ ar σ H1 fun xs H2 => r x xs H2 Q) : tBM K T r te ar σ H Q := q
theorem e_BM0 {T : String} {r : V → List V → Hp → VK → Prop} (q : te σ H fun x H1 => tyV K T x H1 ∧ r x [] H1 Q) : tBM0 K T r te σ H Q := q
end
theorem call_intI {X : Cx} : CallR X (.type "int") (fun xs H Q => ∃ i, xs = [V.int i] ∧ Q (.int i) H) := fun pins s σ H vs us Q I r h => call_int1 pins s σ H vs us Q I r (.inl h)
theorem sz (n : Nat) (h : n ≤ 100000 := by decide) : n ≤ sizeLine := Nat.le_trans h (by rw [sizeLine_eq]; decide)
end WkS
/-! The errors' own __init__: WorkError's, then the one attribute; their making and raising, told in short. -/
namespace WkE
open PySem PySem.Spec PyProof.Rows L2 WkH
/-! ### the text of such an __init__ -/
def iniPars (f : Str) (q1 q2 : Pos) : Arguments := { posonlyargs := [], args := [{ arg := "self", annotation := none, pos := q1 }, { arg := f, annotation := none, pos := q2 }], vararg := none, kwonlyargs := [], kw_defaults := [], kwarg := none, defaults := [] }
def iniSco (f : Str) : Scope := { kind := .function, names := [(PySem.Str.ofString "self", .local), (f, .local), (PySem.Str.ofString "WorkError", .globalImplicit)], isGenerator := false, isCoroutine := false, more := [] }
def iniBod (f t : Str) (i : Nat) (p1 p2 p3 p4 p5 p6 p7 p8 p9 p10 : Pos) : List Stmt :=
  [.Expr (.Call (.Attribute (.Name "WorkError" p1) "__init__" p2) [.Name "self" p3, .Constant (.str t) i p4] [] p5) p6, .Assign [.Attribute (.Name "self" p7) f p8] (.Name f p9) p10]
def iniPars0 (q1 : Pos) : Arguments := { posonlyargs := [], args := [{ arg := "self", annotation := none, pos := q1 }], vararg := none, kwonlyargs := [], kw_defaults := [], kwarg := none, defaults := [] }
def iniSco0 : Scope := { kind := .function, names := [(PySem.Str.ofString "self", .local), (PySem.Str.ofString "WorkError", .globalImplicit)], isGenerator := false, isCoroutine := false, more := [] }
def iniBod0 (t : Str) (i : Nat) (p1 p2 p3 p4 p5 p6 : Pos) : List Stmt := [.Expr (.Call (.Attribute (.Name "WorkError" p1) "__init__" p2) [.Name "self" p3, .Constant (.str t) i p4] [] p5) p6]
/-- the attributes' names -/
def attrs : List Str := ["given", "count", "name", "told", "line"]
/-! ### promises -/
def spIni (C : Addr) (f : Str) : Sp := fun vs H Q _ => ∃ (a : Addr) (v : V), vs = [.ref a, v] ∧ H a = some (exo a C none) ∧ ∀ d, H d = none → d ≠ a → Q .non (upd (upd H d (exd d [(f, v)])) a (exo a C (some d)))
def spIni0 (C : Addr) : Sp := fun vs H Q _ => ∃ a : Addr, vs = [.ref a] ∧ H a = some (exo a C none) ∧ Q .non H
section
variable {P : Program} {w : World} {K : PySem.W.Frag} {mg : Str → Option Value} {base : Heap} {C B : Addr} {f : Str}
theorem sc_ini (hf : f ∈ attrs) : FnScope ["self", f] ["self", f] (iniSco f) := by
  simp only [attrs, List.mem_cons, List.mem_nil_iff, or_false] at hf
  rcases hf with rfl | rfl | rfl | rfl | rfl
  all_goals exact ⟨rfl, rfl, rfl, by decide +kernel, rfl, by decide +kernel, by decide +kernel⟩
theorem sc_ini0 : FnScope ["self"] ["self"] iniSco0 := ⟨rfl, rfl, rfl, by decide +kernel, rfl, by decide +kernel, by decide +kernel⟩
theorem one_line {x m : Str} {p1 p2 p5 : Pos} {e : Expr} {es : List Expr} {env : Env} (hl : (p2.endLine == p5.line) = true) (hf : methodCallForm ((e :: es).length + ([] : List Keyword).length) (backTo p5 (starEach (e :: es) env)) (backToKw p5 (keywordEach [] env)) = true) :
    eval (.Call (.Attribute (.Name x p1) m p2) (e :: es) [] p5) env = (do
      let ov ← eval (.Name x p1) env
      standAt p2.atName
      let (f, first) ← holding [ov] (getMethod ov m (do return (← importBound (.Name x p1) env).getD true))
      callWith p5 f first (backTo p5 (starEach (e :: es) env)) (backToKw p5 (keywordEach [] env))) := by
  have e1 : methodCallPos true (.Name x p1) env p2 p5 = pure p5 := by
    unfold methodCallPos
    exact if_pos (by rw [hl, Bool.or_true])
  have e2 : ∀ ov, methodCall (.Name x p1) m p2 p5 env ov ((e :: es).length + ([] : List Keyword).length) (backTo p5 (starEach (e :: es) env)) (backToKw p5 (keywordEach [] env)) = (do
      let (f, first) ← holding [ov] (getMethod ov m (do return (← importBound (.Name x p1) env).getD true))
      callWith p5 f first (backTo p5 (starEach (e :: es) env)) (backToKw p5 (keywordEach [] env))) := fun ov => by
    unfold methodCall
    rw [hf, e1]
    rfl
  show (do
    let ov ← eval (.Name x p1) env
    standAt p2.atName
    methodCall (.Name x p1) m p2 p5 env ov ((e :: es).length + ([] : List Keyword).length) (backTo p5 (starEach (e :: es) env)) (backToKw p5 (keywordEach [] env))) = _
  simp only [e2]
theorem ok_ini {d : DefL} {fd : FuncData} {t : Str} {i : Nat} {p1 p2 p3 p4 p5 p6 p7 p8 p9 p10 : Pos} (F : Stands K d fd) (hb : d.bod = iniBod f t i p1 p2 p3 p4 p5 p6 p7 p8 p9 p10) (hs : d.sco = iniSco f) (hf : f ∈ attrs) (hl : (p2.endLine == p5.line) = true)
    (T : BaseC K B) (gB : mg "WorkError" = some (.ref B)) (oex : OexC K C) (no : PySem.W.findIn K (.ref C) f = some none) : FnOk P w K mg base CX0 1 d.adr fd ["self", f] (spIni C f) := by
  have S : FnScope ["self", f] ["self", f] d.sco := by
    rw [hs]
    exact sc_ini hf
  refine FunD.ok F S (fun vs H Q E h => ?_) (fun cdv A outer s H vs Q E hr h => ?_)
  · obtain ⟨a, v, rfl, _⟩ := h
    rfl
  · obtain ⟨a, v, rfl, ha, hQ⟩ := h
    rw [hb]
    revert hr
    rw [hs]
    intro hr
    simp only [attrs, List.mem_cons, List.mem_nil_iff, or_false] at hf
    have key : ∀ {g : Str}, f = g → True := fun _ => trivial
    refine ⟨tSeq (tDrop (tVeI K (tCons (tVar 0) (tCons (tC (.str t)) tNil)))) (tOst K f (tVar 0) (tVar 1)), PSs.nox ?_, ?_⟩
    · rcases hf with rfl | rfl | rfl | rfl | rfl
      all_goals exact pss_cons (ps_expr (pe_binit (B := B) T rfl gB (pa_cons (pv 0) (pa_cons pe_str pa_nil)) (by decide) (one_line hl rfl))) (pss_one (ps_ost (pv 0) (pv 1)))
    · refine ⟨_, rfl, ?_⟩
      refine ⟨a, C, [.str t], rfl, Nat.le_of_ble_eq_true rfl, oex, ha, ?_⟩
      refine ⟨_, rfl, _, rfl, a, C, rfl, oex, no, .inl ⟨ha, fun dx h1 h2 => hQ dx h1 h2⟩⟩
theorem ok_ini0 {d : DefL} {fd : FuncData} {t : Str} {i : Nat} {p1 p2 p3 p4 p5 p6 : Pos} (F : Stands K d fd) (hb : d.bod = iniBod0 t i p1 p2 p3 p4 p5 p6) (hs : d.sco = iniSco0) (hl : (p2.endLine == p5.line) = true) (T : BaseC K B) (gB : mg "WorkError" = some (.ref B)) (oex : OexC K C) :
    FnOk P w K mg base CX0 1 d.adr fd ["self"] (spIni0 C) := by
  have S : FnScope ["self"] ["self"] d.sco := by
    rw [hs]
    exact sc_ini0
  refine FunD.ok F S (fun vs H Q E h => ?_) (fun cdv A outer s H vs Q E hr h => ?_)
  · obtain ⟨a, rfl, _⟩ := h
    rfl
  · obtain ⟨a, rfl, ha, hQ⟩ := h
    rw [hb]
    revert hr
    rw [hs]
    intro hr
    refine ⟨tDrop (tVeI K (tCons (tVar 0) (tCons (tC (.str t)) tNil))), PSs.nox (pss_one (ps_expr (pe_binit (B := B) T rfl gB (pa_cons (pv 0) (pa_cons pe_str pa_nil)) (by decide) (one_line hl rfl)))), ?_⟩
    refine ⟨_, rfl, ?_⟩
    exact ⟨a, C, [.str t], rfl, Nat.le_of_ble_eq_true rfl, oex, ha, hQ⟩
/-! ### a class of the package, whole -/
structure ErrC (P : Program) (w : World) (K : PySem.W.Frag) (mg : Str → Option Value) (base : Heap) (x : Str) (C : Addr) (f : Str) : Prop where
  g : mg x = some (.ref C)
  oex : OexC K C
  ask : AskC K C
  no : PySem.W.findIn K (.ref C) f = some none
  fn : ∃ (fI : Addr) (fd : FuncData), PySem.W.findIn K (.ref C) "__init__" = some (some (.ref fI)) ∧ PySem.W.typeIn K (.ref fI) = some (.type "function") ∧ FnOk P w K mg base CX0 1 fI fd ["self", f] (spIni C f) ∧ Binds K fd ["self", f] [] ∧
    KBn K fd ["self", f] 2 [] (fun us _ => us) (fun vs _ => vs) ∧ KBn K fd ["self", f] 1 [f] (fun us ws => us ++ ws) (fun vs zs => vs ++ zs)
structure ErrC0 (P : Program) (w : World) (K : PySem.W.Frag) (mg : Str → Option Value) (base : Heap) (x : Str) (C : Addr) : Prop where
  g : mg x = some (.ref C)
  oex : OexC K C
  ask : AskC K C
  fn : ∃ (fI : Addr) (fd : FuncData), PySem.W.findIn K (.ref C) "__init__" = some (some (.ref fI)) ∧ PySem.W.typeIn K (.ref fI) = some (.type "function") ∧ FnOk P w K mg base CX0 1 fI fd ["self"] (spIni0 C) ∧ KBn K fd ["self"] 1 [] (fun us _ => us) (fun vs _ => vs)
theorem errC_mk {x : Str} {d : DefL} {t : Str} {i : Nat} {p1 p2 p3 p4 p5 p6 p7 p8 p9 p10 q1 q2 : Pos} (c1 : excB K C = true) (c2 : askB K C = true) (c3 : iniB K C d.adr (some f) = true) (g : mg x = some (.ref C)) (st : ∃ fd, Stands K d fd)
    (hb : d.bod = iniBod f t i p1 p2 p3 p4 p5 p6 p7 p8 p9 p10) (hs : d.sco = iniSco f) (hp : d.pars = iniPars f q1 q2) (hf : f ∈ attrs) (hl : (p2.endLine == p5.line) = true) (T : BaseC K B) (gB : mg "WorkError" = some (.ref B)) : ErrC P w K mg base x C f := by
  have X := excB_ok c1
  have N := iniB_ok c3
  obtain ⟨fd, F⟩ := st
  refine ⟨g, X.oex, askB_ok c2, N.att f rfl, d.adr, fd, N.ini, N.typ, ok_ini F hb hs hf hl T gB X.oex (N.att f rfl), ?_, ⟨?_, fun h _ => h⟩, ⟨?_, fun h1 h2 => h1.append h2⟩⟩
  · refine FunD.bindsN F fun kV doc pm an cdv ct us hl => ?_
    rw [hp, hs, hb]
    simp only [attrs, List.mem_cons, List.mem_nil_iff, or_false] at hf
    match us, hl with
    | [_, _], _ => rcases hf with rfl | rfl | rfl | rfl | rfl <;> rfl
  · intro s us ws _ h1 h2
    have e : ws = [] := List.length_eq_zero_iff.mp h2
    subst e
    refine FunD.bindsA F (fun kV doc pm an cdv ct us hl => ?_) s us h1
    rw [hp, hs, hb]
    simp only [attrs, List.mem_cons, List.mem_nil_iff, or_false] at hf
    match us, hl with
    | [_, _], _ => rcases hf with rfl | rfl | rfl | rfl | rfl <;> rfl
  · intro s us ws _ h1 h2
    obtain ⟨oc, od, dV, kV, doc, pm, an, cdv, ct, osl, rfl, lk, hcd, hD, hK⟩ := F.ex
    rcases hD with ⟨_, rfl⟩ | ⟨e, _⟩
    · refine .of_eq ?_
      rw [hp, hs, hb]
      simp only [attrs, List.mem_cons, List.mem_nil_iff, or_false] at hf
      match us, ws, h1, h2 with
      | [_], [_], _, _ => rcases hf with rfl | rfl | rfl | rfl | rfl <;> rfl
    · exact absurd rfl e
theorem errC0_mk {x : Str} {d : DefL} {t : Str} {i : Nat} {p1 p2 p3 p4 p5 p6 q1 : Pos} (c1 : excB K C = true) (c2 : askB K C = true) (c3 : iniB K C d.adr none = true) (g : mg x = some (.ref C)) (st : ∃ fd, Stands K d fd)
    (hb : d.bod = iniBod0 t i p1 p2 p3 p4 p5 p6) (hs : d.sco = iniSco0) (hp : d.pars = iniPars0 q1) (hl : (p2.endLine == p5.line) = true) (T : BaseC K B) (gB : mg "WorkError" = some (.ref B)) : ErrC0 P w K mg base x C := by
  have X := excB_ok c1
  have N := iniB_ok c3
  obtain ⟨fd, F⟩ := st
  refine ⟨g, X.oex, askB_ok c2, d.adr, fd, N.ini, N.typ, ok_ini0 F hb hs hl T gB X.oex, ⟨?_, fun h _ => h⟩⟩
  intro s us ws _ h1 h2
  have e : ws = [] := List.length_eq_zero_iff.mp h2
  subst e
  refine FunD.bindsA F (fun kV doc pm an cdv ct us hl => ?_) s us h1
  rw [hp, hs, hb]
  match us, hl with
  | [_], _ => rfl
end
/-! ### made, kept as a value -/
section
variable {X : Cx} {C : Addr} {x f : Str} {p pos : Pos} {e : Expr} {es : List Expr} {kws : List Keyword} {t tk : TA}
theorem ini_leaves {H1 : Hp} {a : Addr} {v : V} {Q : VK} (na : H1 a = none) (q : ∀ a H2, H1 a = none → (∀ b o, H1 b = some o → H2 b = some o) → Err1 H2 a C f v → Q (.ref a) H2) :
    spIni C f [.ref a, v] (upd H1 a (exo a C none)) (fun v H2 => v = .non ∧ Q (.ref a) H2) E0 := by
  refine ⟨a, v, rfl, upd_same, fun d hd hda => ⟨rfl, q a _ na (fun b o hb => ?_) ⟨d, upd_same, ?_⟩⟩⟩
  · have hba : b ≠ a := ne_of_none hb na
    have hbd : b ≠ d := by
      rintro rfl
      rw [upd_ne hba, hb] at hd
      cases hd
    rw [upd_ne hba, upd_ne hbd, upd_ne hba]
    exact hb
  · rw [upd_ne hda]
    exact upd_same
/-- C(e) -/
def tE1 (C : Addr) (f : Str) (t : TA) : TE := fun σ H Q => t σ H fun vs H1 => ∃ v, vs = [v] ∧ ∀ a H2, H1 a = none → (∀ b o, H1 b = some o → H2 b = some o) → Err1 H2 a C f v → Q (.ref a) H2
theorem pe_E1 (T : ErrC X.prog X.w X.K X.mg X.base x C f) (hr : Room 2 X.A) (hg : Gl X x) (ha : PA X (e :: es) t) (hd : (x == ("__debug__" : Str)) = false := by decide)
    (he : starEach (e :: es) X.env = (false, eval e X.env) :: starEach es X.env := by rfl) (hpl : (backTo pos (starEach es X.env)).any (·.1) = false := by rfl) : PE X (.Call (.Name x p) (e :: es) [] pos) (tE1 C f t) := by
  obtain ⟨fI, fd, iC, tI, FI, _, hb, _⟩ := T.fn
  refine ⟨fun pins s σ H Q I h => ?_⟩
  refine wpAny_Call_Name_kw (ld_glob I hg T.g ?_ hd)
  refine PySem.W.callWith_K (h₀ := X.base) I.ok.mod.kin T.oex.kC (thn (ha.run pos pins s σ H _ I h) fun us s1 ⟨vs, H1, I1, r1, v, ev, q1⟩ => ⟨I1.kIn, ?_⟩) he hpl
  subst ev
  exact err_made (n := 1) (ks := []) (ws := []) (zs := []) T.oex iC tI FI hr hb pass0 I1 r1 .nil rfl rfl (Nat.le_of_ble_eq_true rfl) fun a na => ini_leaves na q1
/-- C(f = e) -/
def tEK (C : Addr) (f : Str) (t : TA) : TE := tE1 C f t
theorem pe_EK (T : ErrC X.prog X.w X.K X.mg X.base x C f) (hr : Room 2 X.A) (hg : Gl X x) (hkw : PK X kws tk) (hall : (backToKw pos (keywordEach kws X.env)).all (·.1.isSome) = true := by rfl)
    (hks : (backToKw pos (keywordEach kws X.env)).filterMap (·.1) = [f] := by rfl) (hd : (x == ("__debug__" : Str)) = false := by decide)
    (hpl : ((backTo pos (starEach [] X.env)).any (·.1) || (backToKw pos (keywordEach kws X.env)).any (·.1.isNone)) = false := by rfl) : PE X (.Call (.Name x p) [] kws pos) (tE1 C f tk) := by
  obtain ⟨fI, fd, iC, tI, FI, _, _, hb⟩ := T.fn
  refine ⟨fun pins s σ H Q I h => ?_⟩
  refine wpAny_Call_Name_kw (ld_glob I hg T.g ?_ hd)
  refine PySem.W.callWith_KW0 (h₀ := X.base) I.ok.mod.kin T.oex.kC hall (thn (hkw.run pos pins s σ H _ I h) fun ws s2 ⟨zs, H2, I2, rz, v, ev, q2⟩ => ⟨I2.kIn, ?_⟩) hpl
  subst ev
  rw [hks]
  exact err_made (n := 0) (us := []) (vs := []) T.oex iC tI FI hr hb pass0 I2 .nil rz rfl rfl (Nat.zero_le _) fun a na => ini_leaves na q2
/-- C() -/
def tE0 (C : Addr) : TE := fun _ H Q => ∀ a H2, H a = none → (∀ b o, H b = some o → H2 b = some o) → Err0 H2 a C → Q (.ref a) H2
theorem pe_E0 (T : ErrC0 X.prog X.w X.K X.mg X.base x C) (hr : Room 2 X.A) (hg : Gl X x) (hd : (x == ("__debug__" : Str)) = false := by decide) : PE X (.Call (.Name x p) [] [] pos) (tE0 C) := by
  obtain ⟨fI, fd, iC, tI, FI, hb⟩ := T.fn
  refine ⟨fun pins s σ H Q I h => ?_⟩
  refine wpAny_Call_Name_kw (ld_glob I hg T.g ?_ hd)
  refine PySem.W.callWith_K0 I.kIn T.oex.kC (err_made (n := 0) (ks := []) (ws := []) (zs := []) (us := []) (vs := []) T.oex iC tI FI hr hb pass0 I .nil .nil rfl rfl (Nat.zero_le _) fun a na => ?_)
  refine ⟨a, rfl, upd_same, rfl, h a _ na (fun b o hb => ?_) upd_same⟩
  rw [upd_ne (ne_of_none hb na)]
  exact hb
/-! ### raised -/
/-- raise C(e): d, the error's own dict, holds the value -/
def tR1 (C : Addr) (f : Str) (t : TA) : L2.St → Hp → XK → Prop := fun σ H Q => t σ H fun vs H1 => ∃ v, vs = [v] ∧ ∀ d H2, H1 d = none → (∀ b o, H1 b = some o → H2 b = some o) → H2 d = some (.xd [(f, v)]) → Q (.ref C) (some d) H2
theorem pmk_R1 (T : ErrC X.prog X.w X.K X.mg X.base x C f) (hr : Room 2 X.A) (hg : Gl X x) (ha : PA X (e :: es) t) (hd : (x == ("__debug__" : Str)) = false := by decide)
    (he : starEach (e :: es) X.env = (false, eval e X.env) :: starEach es X.env := by rfl) (hpl : (backTo pos (starEach es X.env)).any (·.1) = false := by rfl) : PMk X (.Call (.Name x p) (e :: es) [] pos) (tR1 C f t) := by
  obtain ⟨fI, fd, iC, tI, FI, hb, _, _⟩ := T.fn
  intro pins s σ H Q I h
  obtain ⟨nm, q, N, bs, bm, sn, sub, ab, col, dd, k0, k1, k2, k3, k5, hC, hbm⟩ := T.oex.cls
  refine wpAny_Call_Name_kw (ld_glob I hg T.g ?_ hd)
  refine PySem.W.callWith_K (h₀ := X.base) I.ok.mod.kin T.oex.kC (thn (ha.run pos pins s σ H _ I h) fun us s1 ⟨vs, H1, I1, r1, v, ev, q1⟩ => ⟨I1.kIn, ?_⟩) he hpl
  subst ev
  show wpAny _ _ (call (.ref C) us) _ _ _
  obtain ⟨hp, g, dr, tok, os⟩ := s1
  have up : hp.objs.size ≤ hp.objs.size + 1 := Nat.le_succ _
  have na : H1 (hp.objs.size + 1) = none := I1.hok.fresh up
  have keep : ∀ b o, hp.get? b = some o → ((hp.push (PySem.W.kdv_tup us)).push (PySem.HandSPX.excO C hp.objs.size)).get? b = some o := fun b o e => Heap.get?_push_of_some _ (Heap.get?_push_of_some _ e)
  have at_ : ((hp.push (PySem.W.kdv_tup us)).push (PySem.HandSPX.excO C hp.objs.size)).get? (hp.objs.size + 1) = some (PySem.HandSPX.excO C hp.objs.size) := by heap_get
  have J : Inv X pins σ (upd H1 (hp.objs.size + 1) (exo (hp.objs.size + 1) C none)) ⟨(hp.push (PySem.W.kdv_tup us)).push (PySem.HandSPX.excO C hp.objs.size), g, dr, tok, os⟩ :=
    I1.laid (t' := tok) (a := hp.objs.size + 1) (o := exo (hp.objs.size + 1) C none) (h' := (hp.push (PySem.W.kdv_tup us)).push (PySem.HandSPX.excO C hp.objs.size)) keep up (exo_ok at_)
  have r2 : Vals (V.ref (hp.objs.size + 1) :: [v]) (Value.ref (hp.objs.size + 1) :: us) := .cons rfl r1
  have hus : us.length ≤ sizeLine := by
    rw [← Paired.length r1, sizeLine_eq]
    exact Nat.le_of_ble_eq_true rfl
  have lus : (Value.ref (hp.objs.size + 1) :: us).length = 2 := r2.length.symm
  have bnd := hb ⟨(hp.push (PySem.W.kdv_tup us)).push (PySem.HandSPX.excO C hp.objs.size), g, dr, tok, os⟩ (Value.ref (hp.objs.size + 1) :: us) J.kIn (by rw [List.append_nil]; exact lus)
  rw [List.append_nil] at bnd
  have want : spIni C f [.ref (hp.objs.size + 1), v] (upd H1 (hp.objs.size + 1) (exo (hp.objs.size + 1) C none)) (fun v' H2 => v' = .non ∧ ∃ d, H1 d = none ∧ d ≠ hp.objs.size + 1 ∧ H2 = upd (upd (upd H1 (hp.objs.size + 1) (exo (hp.objs.size + 1) C none)) d (exd d [(f, v)])) (hp.objs.size + 1) (exo (hp.objs.size + 1) C (some d))) E0 :=
    ⟨hp.objs.size + 1, v, rfl, upd_same, fun d hd hda => ⟨rfl, d, by rw [upd_ne hda] at hd; exact hd, hda, rfl⟩⟩
  refine wpAny_call (PySem.HandSPX.call_own PySem.F.excBase_ValueError (fun Y => PySem.HandSPX.refsVE_contains Y bm hbm) (I1.kIn _ _ hC) (PySem.W.looks_findIn I1.kIn iC) (fun self => PySem.W.bind_fn I1.kIn self tI) hus
    (codeAny_mono (FI.run _ X.stack _ _ ⟨Value.ref (hp.objs.size + 1) :: us, []⟩ (Value.ref (hp.objs.size + 1) :: us) _ _ E0 (hr.make C us []) (J.env0.make C us []) bnd r2 want) fun r s' hq => ?_))
  cases r with
  | error er => exact False.elim hq
  | ok fl =>
    cases fl with
    | next => exact False.elim hq
    | brk => exact False.elim hq
    | cont => exact False.elim hq
    | ret u =>
      obtain ⟨v', H2, os2, bare2, un2, hok2, rv, ev, d, hd1, hda, e2⟩ := hq
      subst ev
      obtain ⟨h2, g2, d2, t2, os'⟩ := s'
      refine ⟨rv, mk_end (Q := Q) (fs := [(f, v)]) (d := d) (raises_own T.oex.exC T.oex.tyC) I1 up keep un2 hok2 os2 bare2 ?_ ?_ hd1 (q1 d _ hd1 (fun b o hb => ?_) upd_same)⟩
      · rw [e2]
        exact upd_same
      · rw [e2, upd_ne hda]
        exact upd_same
      · have hba : b ≠ hp.objs.size + 1 := ne_of_none hb na
        have hbd : b ≠ d := ne_of_none hb hd1
        rw [upd_ne hbd, del_ne hba, e2, upd_ne hba, upd_ne hbd, upd_ne hba]
        exact hb
/-- raise C(), a class without attributes: the error has no dict -/
def tR0 (C : Addr) : L2.St → Hp → XK → Prop := fun _ H Q => Q (.ref C) none H
theorem let_go {pins : List (Addr × Obj)} {σ : L2.St} {H1 : Hp} {hp hp2 h2 : Heap} {g1 g2 : Array GenState} {d1 d2 : Drawn} {t1 t2 : Nat} {os1 os2 : OsState} {a : Addr} (I1 : Inv X pins σ H1 ⟨hp, g1, d1, t1, os1⟩) (ha : hp.objs.size ≤ a)
    (k : ∀ b o, hp.get? b = some o → hp2.get? b = some o) (un : Un (frs X.stack) [] (upd H1 a (exo a C none)) (upd H1 a (exo a C none)) hp2 h2) (hok : HOk X.prog X.w (upd H1 a (exo a C none)) h2) (ho : os2 = os1) (hb : AllBare g2) :
    ∃ (t0 : Addr) (G : Heap), Inv X pins σ H1 ⟨G, g2, d2, t2, os2⟩ ∧ (∀ b o, G.get? b = some o → h2.get? b = some o) ∧ G.get? a = none ∧ h2.get? a = some ({ cls := .ref C, dict := none, data := .fields #[.ref t0, .none, .none, .none, .bool false, .none] } : Obj) ∧ H1 a = none := by
  obtain ⟨t0, hoe⟩ := exo_at hok (upd_same (H := H1))
  have hn : H1 a = none := I1.hok.fresh ha
  obtain ⟨G, in1, out1⟩ := restrict h2 fun b => decide (b ≠ a)
  have gk : ∀ b, b ≠ a → G.get? b = h2.get? b := fun b hb => in1 b (decide_eq_true hb)
  have ge : G.get? a = none := out1 a (by simp)
  have na : ∀ {b : Addr} {o : Obj}, hp.get? b = some o → b ≠ a := fun {b o} z => Nat.ne_of_lt (Nat.lt_of_lt_of_le (Heap.lt_size z) ha)
  have up : ∀ {b : Addr}, b ≠ a → H1 b = none → upd H1 a (exo a C none) b = none := fun {b} hb n => by
    rw [upd_ne hb]
    exact n
  have U : Un (frs X.stack) [] H1 H1 hp G := by
    refine ⟨fun b o z n hf hx => ?_, fun b o z n hf hx => ?_, fun b o z n hx => n, fun b o z hx => ?_, fun b xs z => z, fun b o v z => z, fun b ps z => ⟨#[], by rw [z]; simp⟩⟩
    · rw [gk b (na z)]
      exact un.keep b o (k b o z) (up (na z) n) hf hx
    · rw [gk b (na z)]
      exact un.slot b o (k b o z) (up (na z) n) hf hx
    · rw [gk b (na z)]
      exact un.there b o (k b o z) hx
  have hok1 : HOk X.prog X.w H1 G := fun b o z => by
    have hba : b ≠ a := ne_of_none z hn
    refine (hok b o (by rw [upd_ne hba]; exact z)).stay (fun c v hc y => ?_) (fun c hc => ?_) fun c xs hc => ?_
    · rcases hc with rfl | hc
      · rw [gk c hba]
        exact y
      · have hca : c ≠ a := at_ne upd_same hc exo_own
        rw [gk c hca]
        exact y
    · have hca : c ≠ a := at_ne upd_same hc exo_own
      rw [upd_ne hca] at hc
      exact hc
    · have hca : c ≠ a := at_ne upd_same hc exo_tup
      rw [upd_ne hca] at hc
      exact hc
  refine ⟨t0, G, I1.call' (s' := ⟨G, g2, d2, t2, os2⟩) (ch := []) ho U hok1 hb (fun b z => absurd z (by simp)), fun b o z => ?_, ge, hoe, hn⟩
  by_cases hba : b = a
  · rw [hba, ge] at z
    cases z
  · exact (gk b hba).symm.trans z
theorem pmk_R0 (T : ErrC0 X.prog X.w X.K X.mg X.base x C) (hr : Room 2 X.A) (hg : Gl X x) (hd : (x == ("__debug__" : Str)) = false := by decide) : PMk X (.Call (.Name x p) [] [] pos) (tR0 C) := by
  obtain ⟨fI, fd, iC, tI, FI, hb⟩ := T.fn
  intro pins s σ H1 Q I1 h
  obtain ⟨nm, q, N, bs, bm, sn, sub, ab, col, dd, k0, k1, k2, k3, k5, hC, hbm⟩ := T.oex.cls
  refine wpAny_Call_Name_kw (ld_glob I1 hg T.g ?_ hd)
  refine PySem.W.callWith_K0 I1.kIn T.oex.kC ?_
  show wpAny _ _ (call (.ref C) []) _ _ _
  obtain ⟨hp, g, dr, tok, os⟩ := s
  have up : hp.objs.size ≤ hp.objs.size + 1 := Nat.le_succ _
  have na : H1 (hp.objs.size + 1) = none := I1.hok.fresh up
  have keep : ∀ b o, hp.get? b = some o → ((hp.push (PySem.W.kdv_tup [])).push (PySem.HandSPX.excO C hp.objs.size)).get? b = some o := fun b o e => Heap.get?_push_of_some _ (Heap.get?_push_of_some _ e)
  have at_ : ((hp.push (PySem.W.kdv_tup [])).push (PySem.HandSPX.excO C hp.objs.size)).get? (hp.objs.size + 1) = some (PySem.HandSPX.excO C hp.objs.size) := by heap_get
  have J : Inv X pins σ (upd H1 (hp.objs.size + 1) (exo (hp.objs.size + 1) C none)) ⟨(hp.push (PySem.W.kdv_tup [])).push (PySem.HandSPX.excO C hp.objs.size), g, dr, tok, os⟩ :=
    I1.laid (t' := tok) (a := hp.objs.size + 1) (o := exo (hp.objs.size + 1) C none) (h' := (hp.push (PySem.W.kdv_tup [])).push (PySem.HandSPX.excO C hp.objs.size)) keep up (exo_ok at_)
  have r2 : Vals [V.ref (hp.objs.size + 1)] [Value.ref (hp.objs.size + 1)] := .cons rfl .nil
  have bnd := hb.to ⟨(hp.push (PySem.W.kdv_tup [])).push (PySem.HandSPX.excO C hp.objs.size), g, dr, tok, os⟩ [Value.ref (hp.objs.size + 1)] [] J.kIn rfl rfl
  have want : spIni0 C [.ref (hp.objs.size + 1)] (upd H1 (hp.objs.size + 1) (exo (hp.objs.size + 1) C none)) (fun v' H2 => v' = .non ∧ H2 = upd H1 (hp.objs.size + 1) (exo (hp.objs.size + 1) C none)) E0 := ⟨hp.objs.size + 1, rfl, upd_same, rfl, rfl⟩
  refine wpAny_call (PySem.HandSPX.call_own PySem.F.excBase_ValueError (fun Y => PySem.HandSPX.refsVE_contains Y bm hbm) (I1.kIn _ _ hC) (PySem.W.looks_findIn I1.kIn iC) (fun self => PySem.W.bind_fn I1.kIn self tI) (Nat.zero_le _)
    (codeAny_mono (FI.run _ X.stack _ _ ⟨[Value.ref (hp.objs.size + 1)], []⟩ [Value.ref (hp.objs.size + 1)] _ _ E0 (hr.make C [] []) (J.env0.make C [] []) bnd r2 want) fun r s' hq => ?_))
  cases r with
  | error er => exact False.elim hq
  | ok fl =>
    cases fl with
    | next => exact False.elim hq
    | brk => exact False.elim hq
    | cont => exact False.elim hq
    | ret u =>
      obtain ⟨v', H2, os2, bare2, un2, hok2, rv, ev, e2⟩ := hq
      subst ev
      subst e2
      obtain ⟨h2, g2, d2, t2, os'⟩ := s'
      obtain ⟨t0, G, JG, kG, ge, hoe, n1⟩ := let_go (d2 := d2) (t2 := t2) I1 up keep un2 hok2 os2 bare2
      exact ⟨rv, hp.objs.size + 1, _, _, ⟨G, g2, d2, t2, os'⟩, H1, .ref C, none, rfl, JG, kG, ge, hoe, ⟨rfl, rfl⟩, rfl, rfl, n1, rfl, bare2, raises_own T.oex.exC T.oex.tyC, h⟩
end
end WkE
/-! A def called within an except suite with the caught error as its argument: the error's object is known by the suite's pin. -/
namespace WkP
open PySem PySem.Spec PyProof.Rows L2 L2H WkH WkE
/-- isinstance(e, c), e told by W -/
def rIsiW (W : Hp → Addr → Addr → Prop) (K : PySem.W.Frag) : List V → Hp → VK → Prop := fun xs H Q => ∃ (a C : Addr) (c : V) (u : Value) (b : Bool), xs = [.ref a, c] ∧ ClsV c u ∧ AskC K C ∧ W H a C ∧ PySem.W.kitOne K (.ref C) u = some b ∧ Q (.bl b) H
theorem call_isiW {X : Cx} : CallR X (.builtin "isinstance") (rIsiW ErrAt X.K) := call_isiE
/-- the error caught, as the pin p has it -/
def PinE (p : Addr × Obj) : Hp → Addr → Addr → Prop := fun H a C => a = p.1 ∧ p.2.cls = .ref C ∧ (∃ vs, p.2.data = .fields vs) ∧ ∀ d, p.2.dict = some d → ∃ fs, H d = some (.xd fs)
theorem PinE.mono {p : Addr × Obj} {H H' : Hp} {a C : Addr} (e : ∀ b o, H b = some o → H' b = some o) (h : PinE p H a C) : PinE p H' a C :=
  ⟨h.1, h.2.1, h.2.2.1, fun d hd => let ⟨fs, z⟩ := h.2.2.2 d hd; ⟨fs, e _ _ z⟩⟩
theorem call_isiP {X : Cx} {p : Addr × Obj} (hp : p ∈ X.pn) : CallR X (.builtin "isinstance") (rIsiW (PinE p) X.K) := by
  intro pins s σ H xs us Q I r h
  obtain ⟨a, C, c, u, b, rfl, k, T, ⟨rfl, hc, ⟨vs, hv⟩, hd⟩, e, q⟩ := h
  obtain ⟨u1, u2, rfl, r1, r2⟩ := vals2 r
  cases (show u1 = Value.ref p.1 from r1)
  have e2 := k.eq r2
  subst e2
  have at_ := (I.pin p (List.mem_append_left _ hp)).1
  have J : ∃ od, PySem.W.InstAt s.heap p.1 p.2 C od := by
    cases ed : p.2.dict with
    | none => exact ⟨none, at_, hc, by unfold PySem.W.notCls; rw [hv], by rw [ed]; trivial⟩
    | some d =>
      obtain ⟨fs, hx⟩ := hd d ed
      obtain ⟨mA, ⟨od, es, ep, ho, _⟩, _⟩ := (show ObjOk X.prog X.w H s.heap d (.xd fs) from I.hok d _ hx)
      exact ⟨some od, at_, hc, by unfold PySem.W.notCls; rw [hv], by rw [ed]; exact ho⟩
  obtain ⟨od, J⟩ := J
  exact PySem.W.kia_one (PySem.W.kitx_exc T.cl T.ga T.gt T.ex T.ca T.sg T.tk T.mo) I.kIn J e (fun z => nomatch z) fun tk => ⟨.bl b, H, I.tok tk, rfl, q⟩
/-! ### the def's promise, the pin among its data -/
structure FnP (P : Program) (w : World) (K : PySem.W.Frag) (mg : Str → Option Value) (base : Heap) (k : Nat) (f : Addr) (fd : FuncData) (ps : List Str) (sp : Addr × Obj → Sp) : Prop where
  len : ∀ p vs H Q E, sp p vs H Q E → vs.length = ps.length
  run : ∀ (A : Around) (outer : List Env) (s : Shared) (H : Hp) (args : Args) (us : List Value) (vs : List V) (Q : VK) (p : Addr × Obj), RoomH k A → PinOk outer H s p → Env0 P w K mg base A outer s H → BindsTo s fd args (ps.zip us) → Vals vs us → sp p vs H Q E0 →
    codeAny (model P w) A (.call (.ref f) args) (CR CX0 outer P w H s Q E0) s
section
variable {P : Program} {w : World} {K : PySem.W.Frag} {mg : Str → Option Value} {base : Heap} {k : Nat} {N ps : List Str} {sp : Addr × Obj → Sp}
theorem okP {d : DefL} {fd : FuncData} (F : Stands K d fd) (S : FnScope N ps d.sco) (len : ∀ p vs H Q E, sp p vs H Q E → vs.length = ps.length)
    (hbody : ∀ (cdv : Value) (A : Around) (outer : List Env) (s : Shared) (H : Hp) (vs : List V) (Q : VK) (p : Addr × Obj), RoomH k (A.deeper (envOfC d.qual d.sco s.heap.objs.size d.adr cdv)) → sp p vs H Q E0 →
      ∃ t, PSs (cxH CX0 P w K mg base N d.qual d.sco d.adr cdv A outer s H E0 p) d.bod t ∧ t { nx := fun _ H' => Q .non H', rt := Q } (L2.start N vs) H) : FnP P w K mg base (k + 1) d.adr fd ps sp := by
  obtain ⟨oc, od, dV, kV, doc, pm, an, cdv, ct, osl, rfl, lk, hcd, _, _⟩ := F.ex
  refine ⟨len, fun A outer s H args us vs Q p hr hpin e0 hb r hsp => ?_⟩
  have KX : K.In s.heap := e0.mod.kin.keeps fun b o e => (e0.bs b o e).1
  have lim : s.heap.NoLimit := e0.mod.nolimit.keeps fun b o e => (e0.bs b o e).1
  have kinds : ∀ y ∈ ps.zip us, d.sco.names.lookup y.1 = some .local ∨ (d.sco.names.lookup y.1 = some .cell ∧ ((cellsFrom (s.heap.objs.size + 1) d.sco.names []).lookup y.1).isSome = true) := fun ⟨n, v⟩ hy => by
    rcases S.par n (List.of_mem_zip hy).1 with q | q
    · exact .inl q
    · exact .inr ⟨q, PySem.W.cellsFrom_some _ _ _ (.inl q)⟩
  refine codeAny_call_function hr.depth (KX _ _ lk) rfl S.co S.gen rfl (PySem.W.codeRec_of KX hcd) (hb _ _ _ _ (wpAny_newFunctionEnv_cells S.kind kinds fun env he s1 x => ?_))
  subst he
  obtain ⟨t, ht, hq⟩ := hbody cdv A outer s H vs Q p (hr.deeper _) hsp
  refine ⟨lim.keeps x.toInCall.keep, codeAny_func ?_⟩
  have J := inv_startH (CX := CX0) (E := E0) S hpin e0 (len _ _ _ _ _ hsp) r x
  refine wpAny_mono (ht.run [] s1 (L2.start N vs) H _ J hq) (fun fl s' hs => ?_) fun e s' hs => hs
  cases fl with
  | ret u =>
    obtain ⟨v, σ', H', J', rv, q⟩ := hs
    exact ⟨v, H', J'.os, J'.bare, J'.base, J'.hok, rv, q⟩
  | next =>
    obtain ⟨σ', H', J', q⟩ := hs
    exact ⟨V.non, H', J'.os, J'.bare, J'.base, J'.hok, rfl, q⟩
  | brk =>
    obtain ⟨_, _, _, q⟩ := hs
    exact False.elim q
  | cont =>
    obtain ⟨_, _, _, q⟩ := hs
    exact False.elim q
end
/-! ### its call -/
section
variable {X : Cx} {k : Nat} {f : Addr} {fd : FuncData} {ps : List Str} {sp : Addr × Obj → Sp} {x : Str} {q pos : Pos} {e : Expr} {es : List Expr} {t : TA} {p : Addr × Obj}
def tCallP (sp : Addr × Obj → Sp) (p : Addr × Obj) (t : TA) : TE := fun σ H Q => t σ H fun vs H1 => sp p vs H1 Q E0
theorem pe_callP (F : FnP X.prog X.w X.K X.mg X.base k f fd ps sp) (hr : RoomH k X.A) (hp : p ∈ X.pn) (hg : Gl X x) (hm : X.mg x = some (.ref f)) (hk : PySem.W.keepIn X.K (.ref f) = true) (hb : Binds X.K fd ps []) (ha : PA X (e :: es) t)
    (hd : (x == ("__debug__" : Str)) = false := by decide) (he : starEach (e :: es) X.env = (false, eval e X.env) :: starEach es X.env := by rfl) (hpl : (backTo pos (starEach es X.env)).any (·.1) = false := by rfl) :
    PE X (.Call (.Name x q) (e :: es) [] pos) (tCallP sp p t) := by
  refine ⟨fun pins s σ H Q I h => ?_⟩
  refine wpAny_Call_Name_kw (ld_glob I hg hm ?_ hd)
  refine PySem.W.callWith_K (h₀ := X.base) I.ok.mod.kin hk (thn (ha.run pos pins s σ H _ I h) fun us s1 ⟨vs, H1, I1, r, h1⟩ => ⟨I1.kIn, ?_⟩) he hpl
  have hl : us.length = ps.length := by
    rw [← r.length]
    exact F.len _ _ _ _ _ h1
  have b := hb s1 us I1.kIn (by rw [List.append_nil]; exact hl)
  rw [List.append_nil] at b
  have P1 := I1.pin p (List.mem_append_left _ hp)
  have hpin : PinOk X.stack H1 s1 p := ⟨P1.1, P1.2.1, fun hm => (List.mem_cons.mp (I1.stkSub p.1 hm)).elim P1.2.2.1 P1.2.2.2.1, P1.2.2.2.2⟩
  show wpAny _ _ (call (.ref f) us) _ _ _
  refine wpAny_call (codeAny_mono (F.run X.A X.stack s1 H1 ⟨us, []⟩ us vs Q p hr hpin I1.env0 b r h1) fun r s' hq => ?_)
  cases r with
  | error er => exact False.elim hq
  | ok fl =>
    cases fl with
    | ret u => exact I1.after hq
    | next => exact False.elim hq
    | brk => exact False.elim hq
    | cont => exact False.elim hq
end
end WkP
/-! what the built-in names name -/
namespace WkB
open PySem
theorem b_bool : bootBuiltins "bool" = some (.type "bool") := by decide +kernel
theorem b_dict : bootBuiltins "dict" = some (.type "dict") := by decide +kernel
theorem b_int : bootBuiltins "int" = some (.type "int") := by decide +kernel
theorem b_list : bootBuiltins "list" = some (.type "list") := by decide +kernel
theorem b_range : bootBuiltins "range" = some (.type "range") := by decide +kernel
theorem b_str : bootBuiltins "str" = some (.type "str") := by decide +kernel
theorem b_tuple : bootBuiltins "tuple" = some (.type "tuple") := by decide +kernel
theorem b_set : bootBuiltins "set" = some (.type "set") := by decide +kernel
theorem b_ValueError : bootBuiltins "ValueError" = some (.type "ValueError") := by decide +kernel
theorem b_LookupError : bootBuiltins "LookupError" = some (.type "LookupError") := by decide +kernel
theorem b_ArithmeticError : bootBuiltins "ArithmeticError" = some (.type "ArithmeticError") := by decide +kernel
theorem b_bytes : bootBuiltins "bytes" = some (.type "bytes") := by decide +kernel
theorem b_type : bootBuiltins "type" = some (.type "type") := by decide +kernel
theorem b_zip : bootBuiltins "zip" = some (.type "zip") := by decide +kernel
theorem b_enumerate : bootBuiltins "enumerate" = some (.type "enumerate") := by decide +kernel
theorem b_reversed : bootBuiltins "reversed" = some (.type "reversed") := by decide +kernel
theorem b_Exception : bootBuiltins "Exception" = some (.type "Exception") := by decide +kernel
theorem b_KeyError : bootBuiltins "KeyError" = some (.type "KeyError") := by decide +kernel
theorem b_TypeError : bootBuiltins "TypeError" = some (.type "TypeError") := by decide +kernel
theorem b_ZeroDivisionError : bootBuiltins "ZeroDivisionError" = some (.type "ZeroDivisionError") := by decide +kernel
theorem b_IndexError : bootBuiltins "IndexError" = some (.type "IndexError") := by decide +kernel
theorem b_abs : bootBuiltins "abs" = some (.builtin "abs") := by decide +kernel
theorem b_isinstance : bootBuiltins "isinstance" = some (.builtin "isinstance") := by decide +kernel
theorem b_len : bootBuiltins "len" = some (.builtin "len") := by decide +kernel
theorem b_max : bootBuiltins "max" = some (.builtin "max") := by decide +kernel
theorem b_min : bootBuiltins "min" = some (.builtin "min") := by decide +kernel
theorem b_repr : bootBuiltins "repr" = some (.builtin "repr") := by decide +kernel
theorem b_sum : bootBuiltins "sum" = some (.builtin "sum") := by decide +kernel
theorem b_sorted : bootBuiltins "sorted" = some (.builtin "sorted") := by decide +kernel
theorem b_divmod : bootBuiltins "divmod" = some (.builtin "divmod") := by decide +kernel
theorem b_all : bootBuiltins "all" = some (.builtin "all") := by decide +kernel
theorem b_any : bootBuiltins "any" = some (.builtin "any") := by decide +kernel
end WkB
/-! A def of the module by its name, with its promise: calm, under clear guards, within an except suite. -/
namespace WkF
open PySem PySem.Spec PyProof.Rows L2 L2H WkH WkG WkP
section
variable (P : Program) (w : World) (K : PySem.W.Frag) (mg : Str → Option Value) (base : Heap)
structure Fn (CX : CXT) (k : Nat) (x : Str) (ps : List Str) (sp : Sp) : Prop where
  ex : ∃ f fd, mg x = some (.ref f) ∧ PySem.W.keepIn K (.ref f) = true ∧ Binds K fd ps [] ∧ FnOk P w K mg base CX k f fd ps sp
structure FnC (CX : CXT) (k : Nat) (x : Str) (ps : List Str) (sp : Sp) : Prop where
  ex : ∃ f fd, mg x = some (.ref f) ∧ PySem.W.keepIn K (.ref f) = true ∧ Binds K fd ps [] ∧ FnG P w K mg base CX k f fd ps sp
structure FnH (k : Nat) (x : Str) (ps : List Str) (sp : Addr × Obj → Sp) : Prop where
  ex : ∃ f fd, mg x = some (.ref f) ∧ PySem.W.keepIn K (.ref f) = true ∧ Binds K fd ps [] ∧ FnP P w K mg base k f fd ps sp
end
section
variable {P : Program} {w : World} {K : PySem.W.Frag} {mg : Str → Option Value} {base : Heap} {CX : CXT} {k j : Nat} {x : Str} {ps : List Str} {sp : Sp}
theorem Fn.mk' {d : DefL} {fd : FuncData} (F : Stands K d fd) (g : mg x = some (.ref d.adr)) (b : Binds K fd ps []) (ok : FnOk P w K mg base CX k d.adr fd ps sp) : Fn P w K mg base CX k x ps sp := ⟨_, _, g, F.kp, b, ok⟩
theorem FnC.mk' {d : DefL} {fd : FuncData} (F : Stands K d fd) (g : mg x = some (.ref d.adr)) (b : Binds K fd ps []) (ok : FnG P w K mg base CX k d.adr fd ps sp) : FnC P w K mg base CX k x ps sp := ⟨_, _, g, F.kp, b, ok⟩
theorem FnH.mk' {d : DefL} {fd : FuncData} {sp : Addr × Obj → Sp} (F : Stands K d fd) (g : mg x = some (.ref d.adr)) (b : Binds K fd ps []) (ok : FnP P w K mg base k d.adr fd ps sp) : FnH P w K mg base k x ps sp := ⟨_, _, g, F.kp, b, ok⟩
theorem bind1 {d : DefL} {fd : FuncData} {a : Str} (F : Stands K d fd)
    (h : ∀ (kV doc pm : Value) (an : Option Addr) (cdv ct : Value) (u : Value), bindArgs (PySem.W.fnOf d.nm d.qual d.pars d.bod d.sco .none kV doc pm an cdv ct) ⟨[u], []⟩ = pure [(a, u)]) : Binds K fd [a] [] :=
  FunD.bindsN F fun kV doc pm an cdv ct us hl => by
    match us, hl with
    | [u], _ => exact h kV doc pm an cdv ct u
theorem bind2 {d : DefL} {fd : FuncData} {a b : Str} (F : Stands K d fd)
    (h : ∀ (kV doc pm : Value) (an : Option Addr) (cdv ct : Value) (u v : Value), bindArgs (PySem.W.fnOf d.nm d.qual d.pars d.bod d.sco .none kV doc pm an cdv ct) ⟨[u, v], []⟩ = pure [(a, u), (b, v)]) : Binds K fd [a, b] [] :=
  FunD.bindsN F fun kV doc pm an cdv ct us hl => by
    match us, hl with
    | [u, v], _ => exact h kV doc pm an cdv ct u v
theorem bind3 {d : DefL} {fd : FuncData} {a b c : Str} (F : Stands K d fd)
    (h : ∀ (kV doc pm : Value) (an : Option Addr) (cdv ct : Value) (u v w : Value), bindArgs (PySem.W.fnOf d.nm d.qual d.pars d.bod d.sco .none kV doc pm an cdv ct) ⟨[u, v, w], []⟩ = pure [(a, u), (b, v), (c, w)]) : Binds K fd [a, b, c] [] :=
  FunD.bindsN F fun kV doc pm an cdv ct us hl => by
    match us, hl with
    | [u, v, w], _ => exact h kV doc pm an cdv ct u v w
theorem bind4 {d : DefL} {fd : FuncData} {a b c e : Str} (F : Stands K d fd)
    (h : ∀ (kV doc pm : Value) (an : Option Addr) (cdv ct : Value) (u v w x : Value), bindArgs (PySem.W.fnOf d.nm d.qual d.pars d.bod d.sco .none kV doc pm an cdv ct) ⟨[u, v, w, x], []⟩ = pure [(a, u), (b, v), (c, w), (e, x)]) : Binds K fd [a, b, c, e] [] :=
  FunD.bindsN F fun kV doc pm an cdv ct us hl => by
    match us, hl with
    | [u, v, w, x], _ => exact h kV doc pm an cdv ct u v w x
end
section
variable {X : Cx} {CX : CXT} {k j : Nat} {ps : List Str} {sp : Sp} {E : XK} {x : Str} {p pos : Pos} {e : Expr} {es : List Expr} {t : TA}
theorem pe_fn (F : Fn X.prog X.w X.K X.mg X.base CX0 k x ps sp) (hr : Room j X.A) (hg : Gl X x) (ha : PA X (e :: es) t) (hj : k ≤ j := by decide)
    (hdb : (x == ("__debug__" : Str)) = false := by decide) (he : starEach (e :: es) X.env = (false, eval e X.env) :: starEach es X.env := by rfl) (hpl : (backTo pos (starEach es X.env)).any (·.1) = false := by rfl) :
    PE X (.Call (.Name x p) (e :: es) [] pos) (tCall sp [] E0 t) := by
  obtain ⟨f, fd, g, kp, b, ok⟩ := F.ex
  exact pe_call ok (hr.mono hj) hg g kp b .nil pass0 ha hdb he hpl
theorem pe_fnX (F : Fn X.prog X.w X.K X.mg X.base CX k x ps sp) (hx : Passes CX X E) (hr : Room j X.A) (hg : Gl X x) (ha : PA X (e :: es) t) (hj : k ≤ j := by decide)
    (hdb : (x == ("__debug__" : Str)) = false := by decide) (he : starEach (e :: es) X.env = (false, eval e X.env) :: starEach es X.env := by rfl) (hpl : (backTo pos (starEach es X.env)).any (·.1) = false := by rfl) :
    PE X (.Call (.Name x p) (e :: es) [] pos) (tCall sp [] E t) := by
  obtain ⟨f, fd, g, kp, b, ok⟩ := F.ex
  exact pe_call ok (hr.mono hj) hg g kp b .nil hx ha hdb he hpl
theorem pe_fnS {E : L2.St → XK} (F : Fn X.prog X.w X.K X.mg X.base CX k x ps sp) (hx : ∀ σ, PassesAt CX X σ (E σ)) (hr : Room j X.A) (hg : Gl X x) (ha : PA X (e :: es) t) (hj : k ≤ j := by decide)
    (hdb : (x == ("__debug__" : Str)) = false := by decide) (he : starEach (e :: es) X.env = (false, eval e X.env) :: starEach es X.env := by rfl) (hpl : (backTo pos (starEach es X.env)).any (·.1) = false := by rfl) :
    PE X (.Call (.Name x p) (e :: es) [] pos) (tCallS sp E t) := by
  obtain ⟨f, fd, g, kp, b, ok⟩ := F.ex
  exact pe_callS ok (hr.mono hj) hg g kp b hx ha hdb he hpl
/-- one reading of many -/
theorem pss_any {β : Type} {ss : List Stmt} {p : β → Prop} {ts : β → TS} (b : β) (hp : p b) (h : PSs X ss (ts b)) : PSs X ss (fun D σ H => ∀ b, p b → ts b D σ H) :=
  ⟨fun pins s σ H D I q => h.run pins s σ H D I (q b hp)⟩
theorem e_callS {E : L2.St → XK} {σ : L2.St} {H : Hp} {Q : VK} (q : t σ H fun vs H1 => sp vs H1 Q (E σ)) : tCallS sp E t σ H Q := q
theorem e_callP {sp : Addr × Obj → Sp} {q : Addr × Obj} {σ : L2.St} {H : Hp} {Q : VK} (h : t σ H fun vs H1 => sp q vs H1 Q E0) : tCallP sp q t σ H Q := h
theorem pe_fnC (F : FnC X.prog X.w X.K X.mg X.base CX0 k x ps sp) (hG : Clear X.A) (hr : Room j X.A) (hg : Gl X x) (ha : PA X (e :: es) t) (hj : k ≤ j := by decide)
    (hdb : (x == ("__debug__" : Str)) = false := by decide) (he : starEach (e :: es) X.env = (false, eval e X.env) :: starEach es X.env := by rfl) (hpl : (backTo pos (starEach es X.env)).any (·.1) = false := by rfl) :
    PE X (.Call (.Name x p) (e :: es) [] pos) (tCall sp [] E0 t) := by
  obtain ⟨f, fd, g, kp, b, ok⟩ := F.ex
  exact pe_callG ok hG (hr.mono hj) hg g kp b pass0 ha hdb he hpl
theorem pe_fnH {sp : Addr × Obj → Sp} {q : Addr × Obj} (F : FnH X.prog X.w X.K X.mg X.base k x ps sp) (hr : RoomH j X.A) (hq : q ∈ X.pn) (hg : Gl X x) (ha : PA X (e :: es) t) (hj : k ≤ j := by decide)
    (hdb : (x == ("__debug__" : Str)) = false := by decide) (he : starEach (e :: es) X.env = (false, eval e X.env) :: starEach es X.env := by rfl) (hpl : (backTo pos (starEach es X.env)).any (·.1) = false := by rfl) :
    PE X (.Call (.Name x p) (e :: es) [] pos) (tCallP sp q t) := by
  obtain ⟨f, fd, g, kp, b, ok⟩ := F.ex
  exact pe_callP ok (hr.mono hj) hq hg g kp b ha hdb he hpl
end
end WkF
/-! The length of what repr shows. -/
namespace WkW
open PySem
theorem l_list0 : (listText []).length = 2 := rfl
theorem l_list1 (a : Str) : (listText [a]).length = a.length + 2 := by
  show ((("[" : String) : Str) ++ (("" : String) : Str) ++ a ++ (("]" : String) : Str)).length = _
  rw [strLen_append, strLen_append, strLen_append]
  show 1 + 0 + a.length + 1 = _
  omega
theorem l_list2 (a b : Str) : (listText [a, b]).length = a.length + b.length + 4 := by
  show ((("[" : String) : Str) ++ (("" : String) : Str) ++ a ++ ((", " : String) : Str) ++ b ++ (("]" : String) : Str)).length = _
  rw [strLen_append, strLen_append, strLen_append, strLen_append, strLen_append]
  show 1 + 0 + a.length + 2 + b.length + 1 = _
  omega
theorem l_tup0 : (tupleText []).length = 2 := rfl
theorem l_tup2 (a b : Str) : (tupleText [a, b]).length = a.length + b.length + 4 := by
  show ((("(" : String) : Str) ++ (a ++ ((", " : String) : Str) ++ b) ++ ((")" : String) : Str)).length = _
  rw [strLen_append, strLen_append, strLen_append, strLen_append]
  show 1 + (a.length + 2 + b.length) + 1 = _
  omega
theorem l_dict0 : (dictText []).length = 2 := rfl
theorem l_dict1 (a : Str) : (dictText [a]).length = a.length + 2 := by
  show ((("{" : String) : Str) ++ a ++ (("}" : String) : Str)).length = _
  rw [strLen_append, strLen_append]
  show 1 + a.length + 1 = _
  omega
theorem l_int {i : Int} {k : Nat} (hk : 0 < k) (h : i.natAbs < 10 ^ k) : (PyData.shown (.int i)).length ≤ k + 1 := by
  simp only [PyData.shown]
  rw [ofString_length]
  exact int_text_length_le10 hk h
theorem l_str (s : String) : (PyData.shown (.str (Str.ofString s))).length ≤ 10 * s.length + 2 := by
  simp only [PyData.shown]
  refine Nat.le_trans (StrLaws.reprText_len _ fun c hc => ?_) ?_
  · rw [Str.ofString_eq_toList] at hc
    simp only [List.mem_map] at hc
    obtain ⟨d, _, rfl⟩ := hc
    have h := d.val.toNat_lt
    exact h
  · rw [ofString_length]
    exact Nat.le_refl _
structure Good (d : PyData) : Prop where
  sh : d.showable = true
  dp : d.depth ≤ 20
  ln : d.shown.length ≤ 100000
end WkW
namespace K00
open PySem PySem.Spec PyProof.Rows L2 WkH WkE WkR
def top (i : Nat) : Stmt := PySem.Challenge.pw_workwide_k00_errors.main.body.getD i (.Pass ⟨0, 0, 0, 0⟩)
abbrev R : PySem.W.OpenRow := PySem.W.OpenLaw.row PySem.Challenge.rw_workwide_k00_errors
abbrev vw : PySem.Program := PySem.W.view R.prog [70]
def seen : List Addr := ([3, 1, 2, 24, 23, 44, 43, 41, 40, 63, 62, 60, 59, 82, 81, 79, 78, 101, 100, 98, 97, 120, 119, 117, 116, 139, 138, 136, 135, 158, 157, 155, 154, 177, 176, 174, 173, 196, 195, 193] : List Addr) ++ ([192, 215, 214, 212, 211, 234, 233, 231, 230, 253, 252, 250, 249, 272, 271, 269, 268, 291, 290, 288, 287, 310, 309, 307, 306, 329, 328, 326, 325, 348, 347, 345, 344, 367, 366, 364, 363, 386, 385, 383] : List Addr) ++ ([382, 405, 404, 402, 401, 424, 423, 421, 420, 443, 442, 440, 439, 462, 461, 459, 458, 481, 480, 478, 477, 500, 499, 497, 496, 519, 518, 516, 515, 538, 537, 535, 534, 557, 556, 554, 553, 576, 575, 573] : List Addr) ++ ([572, 595, 594, 592, 591, 614, 613, 611, 610, 633, 632, 630, 629, 652, 651, 649, 648, 671, 670, 668, 667, 861, 860, 858, 857, 880, 879, 877, 876, 899, 898, 896, 895, 918, 917, 915, 914, 937, 936, 934] : List Addr) ++ ([933, 956, 955, 953, 952, 975, 974, 972, 971, 994, 993, 991, 990, 690, 689, 687, 686, 709, 708, 706, 705, 728, 727, 725, 724, 747, 746, 744, 743, 785, 784, 782, 781, 823, 822, 820, 819, 766, 765, 763] : List Addr) ++ ([762, 804, 803, 801, 800, 842, 841, 839, 838, 1003, 1002, 1010, 1009, 1017, 1016, 1024, 1023, 1031, 1030, 1038, 1037, 1045, 1044, 1052, 1051, 1059, 1058, 1066, 1065, 1073, 1072, 1080, 1079, 1087, 1086, 1094, 1093, 1101, 1100, 1106] : List Addr) ++ ([1105, 1113, 1112] : List Addr)
def d_cell : DefL := ⟨1003, "_law_cell", "_law_cell", defArgs (top 54), defBody (top 54), defScope (top 54)⟩
def d_box : DefL := ⟨1010, "_law_box", "_law_box", defArgs (top 55), defBody (top 55), defScope (top 55)⟩
def d_take : DefL := ⟨1017, "_law_take", "_law_take", defArgs (top 56), defBody (top 56), defScope (top 56)⟩
def d_thing : DefL := ⟨1024, "_law_thing", "_law_thing", defArgs (top 57), defBody (top 57), defScope (top 57)⟩
def d_made_a : DefL := ⟨1031, "_law_made_a", "_law_made_a", defArgs (top 58), defBody (top 58), defScope (top 58)⟩
def d_made_b : DefL := ⟨1038, "_law_made_b", "_law_made_b", defArgs (top 59), defBody (top 59), defScope (top 59)⟩
def d_made_c : DefL := ⟨1045, "_law_made_c", "_law_made_c", defArgs (top 60), defBody (top 60), defScope (top 60)⟩
def d_made : DefL := ⟨1052, "_law_made", "_law_made", defArgs (top 61), defBody (top 61), defScope (top 61)⟩
def d_kinds : DefL := ⟨1059, "_law_kinds", "_law_kinds", defArgs (top 62), defBody (top 62), defScope (top 62)⟩
def d_field : DefL := ⟨1066, "_law_field", "_law_field", defArgs (top 63), defBody (top 63), defScope (top 63)⟩
def d_alike : DefL := ⟨1073, "_law_alike", "_law_alike", defArgs (top 64), defBody (top 64), defScope (top 64)⟩
def d_raised_a : DefL := ⟨1080, "_law_raised_a", "_law_raised_a", defArgs (top 65), defBody (top 65), defScope (top 65)⟩
def d_raised_b : DefL := ⟨1087, "_law_raised_b", "_law_raised_b", defArgs (top 66), defBody (top 66), defScope (top 66)⟩
def d_raised_c : DefL := ⟨1094, "_law_raised_c", "_law_raised_c", defArgs (top 67), defBody (top 67), defScope (top 67)⟩
def d_caught : DefL := ⟨1101, "_law_caught", "_law_caught", defArgs (top 68), defBody (top 68), defScope (top 68)⟩
def d_right : DefL := ⟨1106, "_law_right", "_law_right", defArgs (top 69), defBody (top 69), defScope (top 69)⟩
def dlaw : DefL := ⟨1113, "law", "law", defArgs (top 70), defBody (top 70), defScope (top 70)⟩
def inis : List DefL := ([⟨41, "__init__", "InvalidNumber.__init__", defArgs (inClass (top 2) 0), defBody (inClass (top 2) 0), defScope (inClass (top 2) 0)⟩, ⟨60, "__init__", "InvalidFraction.__init__", defArgs (inClass (top 3) 0), defBody (inClass (top 3) 0), defScope (inClass (top 3) 0)⟩, ⟨79, "__init__", "InvalidChance.__init__", defArgs (inClass (top 4) 0), defBody (inClass (top 4) 0), defScope (inClass (top 4) 0)⟩, ⟨98, "__init__", "InvalidDiscount.__init__", defArgs (inClass (top 5) 0), defBody (inClass (top 5) 0), defScope (inClass (top 5) 0)⟩, ⟨117, "__init__", "InvalidStates.__init__", defArgs (inClass (top 6) 0), defBody (inClass (top 6) 0), defScope (inClass (top 6) 0)⟩, ⟨136, "__init__", "InvalidState.__init__", defArgs (inClass (top 7) 0), defBody (inClass (top 7) 0), defScope (inClass (top 7) 0)⟩, ⟨155, "__init__", "InvalidProject.__init__", defArgs (inClass (top 8) 0), defBody (inClass (top 8) 0), defScope (inClass (top 8) 0)⟩, ⟨174, "__init__", "InvalidText.__init__", defArgs (inClass (top 9) 0), defBody (inClass (top 9) 0), defScope (inClass (top 9) 0)⟩, ⟨193, "__init__", "InvalidPlan.__init__", defArgs (inClass (top 10) 0), defBody (inClass (top 10) 0), defScope (inClass (top 10) 0)⟩, ⟨212, "__init__", "InvalidSure.__init__", defArgs (inClass (top 11) 0), defBody (inClass (top 11) 0), defScope (inClass (top 11) 0)⟩, ⟨231, "__init__", "InvalidGoing.__init__", defArgs (inClass (top 12) 0), defBody (inClass (top 12) 0), defScope (inClass (top 12) 0)⟩, ⟨250, "__init__", "InvalidBox.__init__", defArgs (inClass (top 13) 0), defBody (inClass (top 13) 0), defScope (inClass (top 13) 0)⟩, ⟨269, "__init__", "InvalidBoxes.__init__", defArgs (inClass (top 14) 0), defBody (inClass (top 14) 0), defScope (inClass (top 14) 0)⟩, ⟨288, "__init__", "InvalidCollection.__init__", defArgs (inClass (top 15) 0), defBody (inClass (top 15) 0), defScope (inClass (top 15) 0)⟩, ⟨307, "__init__", "InvalidOthers.__init__", defArgs (inClass (top 16) 0), defBody (inClass (top 16) 0), defScope (inClass (top 16) 0)⟩, ⟨326, "__init__", "InvalidCount.__init__", defArgs (inClass (top 17) 0), defBody (inClass (top 17) 0), defScope (inClass (top 17) 0)⟩, ⟨345, "__init__", "InvalidFrame.__init__", defArgs (inClass (top 18) 0), defBody (inClass (top 18) 0), defScope (inClass (top 18) 0)⟩] : List DefL) ++ ([⟨364, "__init__", "InvalidProjects.__init__", defArgs (inClass (top 19) 0), defBody (inClass (top 19) 0), defScope (inClass (top 19) 0)⟩, ⟨383, "__init__", "InvalidSlot.__init__", defArgs (inClass (top 20) 0), defBody (inClass (top 20) 0), defScope (inClass (top 20) 0)⟩, ⟨402, "__init__", "InvalidOrder.__init__", defArgs (inClass (top 21) 0), defBody (inClass (top 21) 0), defScope (inClass (top 21) 0)⟩, ⟨421, "__init__", "InvalidRange.__init__", defArgs (inClass (top 22) 0), defBody (inClass (top 22) 0), defScope (inClass (top 22) 0)⟩, ⟨440, "__init__", "InvalidChoices.__init__", defArgs (inClass (top 23) 0), defBody (inClass (top 23) 0), defScope (inClass (top 23) 0)⟩, ⟨459, "__init__", "InvalidTokens.__init__", defArgs (inClass (top 24) 0), defBody (inClass (top 24) 0), defScope (inClass (top 24) 0)⟩, ⟨478, "__init__", "InvalidDeadline.__init__", defArgs (inClass (top 25) 0), defBody (inClass (top 25) 0), defScope (inClass (top 25) 0)⟩, ⟨497, "__init__", "InvalidCost.__init__", defArgs (inClass (top 26) 0), defBody (inClass (top 26) 0), defScope (inClass (top 26) 0)⟩, ⟨516, "__init__", "InvalidAnswers.__init__", defArgs (inClass (top 27) 0), defBody (inClass (top 27) 0), defScope (inClass (top 27) 0)⟩, ⟨535, "__init__", "InvalidList.__init__", defArgs (inClass (top 28) 0), defBody (inClass (top 28) 0), defScope (inClass (top 28) 0)⟩, ⟨554, "__init__", "InvalidOffers.__init__", defArgs (inClass (top 29) 0), defBody (inClass (top 29) 0), defScope (inClass (top 29) 0)⟩, ⟨573, "__init__", "InvalidPurse.__init__", defArgs (inClass (top 30) 0), defBody (inClass (top 30) 0), defScope (inClass (top 30) 0)⟩, ⟨592, "__init__", "InvalidAmount.__init__", defArgs (inClass (top 31) 0), defBody (inClass (top 31) 0), defScope (inClass (top 31) 0)⟩, ⟨611, "__init__", "InvalidName.__init__", defArgs (inClass (top 32) 0), defBody (inClass (top 32) 0), defScope (inClass (top 32) 0)⟩, ⟨630, "__init__", "InvalidNames.__init__", defArgs (inClass (top 33) 0), defBody (inClass (top 33) 0), defScope (inClass (top 33) 0)⟩, ⟨649, "__init__", "InvalidLine.__init__", defArgs (inClass (top 34) 0), defBody (inClass (top 34) 0), defScope (inClass (top 34) 0)⟩, ⟨668, "__init__", "InvalidFactor.__init__", defArgs (inClass (top 35) 0), defBody (inClass (top 35) 0), defScope (inClass (top 35) 0)⟩] : List DefL) ++ ([⟨858, "__init__", "InvalidWays.__init__", defArgs (inClass (top 45) 0), defBody (inClass (top 45) 0), defScope (inClass (top 45) 0)⟩, ⟨877, "__init__", "InvalidSteps.__init__", defArgs (inClass (top 46) 0), defBody (inClass (top 46) 0), defScope (inClass (top 46) 0)⟩, ⟨896, "__init__", "InvalidJoint.__init__", defArgs (inClass (top 47) 0), defBody (inClass (top 47) 0), defScope (inClass (top 47) 0)⟩, ⟨915, "__init__", "InvalidCourse.__init__", defArgs (inClass (top 48) 0), defBody (inClass (top 48) 0), defScope (inClass (top 48) 0)⟩, ⟨934, "__init__", "InvalidToken.__init__", defArgs (inClass (top 49) 0), defBody (inClass (top 49) 0), defScope (inClass (top 49) 0)⟩, ⟨953, "__init__", "InvalidGroups.__init__", defArgs (inClass (top 50) 0), defBody (inClass (top 50) 0), defScope (inClass (top 50) 0)⟩, ⟨972, "__init__", "InvalidTests.__init__", defArgs (inClass (top 51) 0), defBody (inClass (top 51) 0), defScope (inClass (top 51) 0)⟩, ⟨991, "__init__", "InvalidNumbers.__init__", defArgs (inClass (top 52) 0), defBody (inClass (top 52) 0), defScope (inClass (top 52) 0)⟩, ⟨687, "__init__", "TooMany.__init__", defArgs (inClass (top 36) 0), defBody (inClass (top 36) 0), defScope (inClass (top 36) 0)⟩, ⟨706, "__init__", "NoProject.__init__", defArgs (inClass (top 37) 0), defBody (inClass (top 37) 0), defScope (inClass (top 37) 0)⟩, ⟨725, "__init__", "NoWorks.__init__", defArgs (inClass (top 38) 0), defBody (inClass (top 38) 0), defScope (inClass (top 38) 0)⟩, ⟨744, "__init__", "Taken.__init__", defArgs (inClass (top 39) 0), defBody (inClass (top 39) 0), defScope (inClass (top 39) 0)⟩, ⟨782, "__init__", "Harmful.__init__", defArgs (inClass (top 41) 0), defBody (inClass (top 41) 0), defScope (inClass (top 41) 0)⟩, ⟨820, "__init__", "NotNow.__init__", defArgs (inClass (top 43) 0), defBody (inClass (top 43) 0), defScope (inClass (top 43) 0)⟩, ⟨763, "__init__", "Full.__init__", defArgs (inClass (top 40) 0), defBody (inClass (top 40) 0), defScope (inClass (top 40) 0)⟩, ⟨801, "__init__", "NothingToUndo.__init__", defArgs (inClass (top 42) 0), defBody (inClass (top 42) 0), defScope (inClass (top 42) 0)⟩, ⟨839, "__init__", "Unlike.__init__", defArgs (inClass (top 44) 0), defBody (inClass (top 44) 0), defScope (inClass (top 44) 0)⟩] : List DefL)
def laws : List DefL := [d_cell, d_box, d_take, d_thing, d_made_a, d_made_b, d_made_c, d_made, d_kinds, d_field, d_alike, d_raised_a, d_raised_b, d_raised_c, d_caught, d_right, dlaw]
def fn : List DefL := laws ++ inis
def clss : List (Str × Addr × Addr × Option Str) := ([("InvalidNumber", 44, 41, some "given"), ("InvalidFraction", 63, 60, some "given"), ("InvalidChance", 82, 79, some "given"), ("InvalidDiscount", 101, 98, some "given"), ("InvalidStates", 120, 117, some "given"), ("InvalidState", 139, 136, some "given"), ("InvalidProject", 158, 155, some "given"), ("InvalidText", 177, 174, some "given"), ("InvalidPlan", 196, 193, some "given"), ("InvalidSure", 215, 212, some "given"), ("InvalidGoing", 234, 231, some "given"), ("InvalidBox", 253, 250, some "given"), ("InvalidBoxes", 272, 269, some "given"), ("InvalidCollection", 291, 288, some "given"), ("InvalidOthers", 310, 307, some "given"), ("InvalidCount", 329, 326, some "given"), ("InvalidFrame", 348, 345, some "given")] : List (Str × Addr × Addr × Option Str)) ++ ([("InvalidProjects", 367, 364, some "given"), ("InvalidSlot", 386, 383, some "given"), ("InvalidOrder", 405, 402, some "given"), ("InvalidRange", 424, 421, some "given"), ("InvalidChoices", 443, 440, some "given"), ("InvalidTokens", 462, 459, some "given"), ("InvalidDeadline", 481, 478, some "given"), ("InvalidCost", 500, 497, some "given"), ("InvalidAnswers", 519, 516, some "given"), ("InvalidList", 538, 535, some "given"), ("InvalidOffers", 557, 554, some "given"), ("InvalidPurse", 576, 573, some "given"), ("InvalidAmount", 595, 592, some "given"), ("InvalidName", 614, 611, some "given"), ("InvalidNames", 633, 630, some "given"), ("InvalidLine", 652, 649, some "given"), ("InvalidFactor", 671, 668, some "given")] : List (Str × Addr × Addr × Option Str)) ++ ([("InvalidWays", 861, 858, some "given"), ("InvalidSteps", 880, 877, some "given"), ("InvalidJoint", 899, 896, some "given"), ("InvalidCourse", 918, 915, some "given"), ("InvalidToken", 937, 934, some "given"), ("InvalidGroups", 956, 953, some "given"), ("InvalidTests", 975, 972, some "given"), ("InvalidNumbers", 994, 991, some "given"), ("TooMany", 690, 687, some "count"), ("NoProject", 709, 706, some "name"), ("NoWorks", 728, 725, some "name"), ("Taken", 747, 744, some "name"), ("Harmful", 785, 782, some "told"), ("NotNow", 823, 820, some "line"), ("Full", 766, 763, none), ("NothingToUndo", 804, 801, none), ("Unlike", 842, 839, none)] : List (Str × Addr × Addr × Option Str))
def globs : List (Str × Addr) := (([("_law_cell", 1003), ("_law_box", 1010), ("_law_take", 1017), ("_law_thing", 1024), ("_law_made_a", 1031), ("_law_made_b", 1038), ("_law_made_c", 1045), ("_law_made", 1052), ("_law_kinds", 1059), ("_law_field", 1066), ("_law_alike", 1073), ("_law_raised_a", 1080), ("_law_raised_b", 1087), ("_law_raised_c", 1094), ("_law_caught", 1101), ("_law_right", 1106), ("law", 1113)] : List (Str × Addr))) ++ ([("WorkError", 24)] : List (Str × Addr))
def bltn : List Str := (["ArithmeticError", "LookupError", "ValueError", "abs", "bool", "dict", "int", "isinstance", "len", "list", "max", "min", "range", "repr", "str", "sum"] : List Str)
def loose : List PySem.Str := (["WorkError", "InvalidNumber", "InvalidFraction", "InvalidChance", "InvalidDiscount", "InvalidStates", "InvalidState", "InvalidProject", "InvalidText", "InvalidPlan", "InvalidSure", "InvalidGoing", "InvalidBox", "InvalidBoxes", "InvalidCollection", "InvalidOthers", "InvalidCount", "InvalidFrame", "InvalidProjects", "InvalidSlot", "InvalidOrder", "InvalidRange", "InvalidChoices", "InvalidTokens", "InvalidDeadline", "InvalidCost", "InvalidAnswers", "InvalidList", "InvalidOffers", "InvalidPurse"] : List PySem.Str) ++ (["InvalidAmount", "InvalidName", "InvalidNames", "InvalidLine", "InvalidFactor", "TooMany", "NoProject", "NoWorks", "Taken", "Full", "Harmful", "NothingToUndo", "NotNow", "Unlike", "InvalidWays", "InvalidSteps", "InvalidJoint", "InvalidCourse", "InvalidToken", "InvalidGroups", "InvalidTests", "InvalidNumbers", "_law_cell", "_law_box", "_law_take", "_law_thing", "_law_made_a", "_law_made_b", "_law_made_c", "_law_made"] : List PySem.Str) ++ (["_law_kinds", "_law_field", "_law_alike", "_law_raised_a", "_law_raised_b", "_law_raised_c", "_law_caught", "_law_right"] : List PySem.Str)
def kitV (K : PySem.W.Frag) (t c : Value) (b : Bool) : Bool := decide (PySem.W.kitOne K t c = some b)
def exA (K : PySem.W.Frag) : Bool := globs.all (fun q => gloB K q.1 q.2) && (bltn.all (fun x => freeB K x) && (baseB K 24 && (sysB K && (["int", "str", "NoneType", "bool", "tuple"] : List String).all (fun t => kitV K (.type t) (.ref 24) false))))
def exB (K : PySem.W.Frag) : Bool := clss.all fun q => gloB K q.1 q.2.1 && (excB K q.2.1 && (askB K q.2.1 && iniB K q.2.1 q.2.2.1 q.2.2.2))
def exC (K : PySem.W.Frag) : Bool := clss.all fun q => clss.all (fun r => kitB K q.2.1 (.ref r.2.1) (Nat.beq q.2.1 r.2.1)) && (kitB K q.2.1 (.ref 24) true && (decide (PySem.W.exmOne K (.ref q.2.1) (.ref 24) = some true) && (kitB K q.2.1 (.type "ValueError") true &&
  (kitB K q.2.1 (.type "LookupError") false && (kitB K q.2.1 (.type "ArithmeticError") false && (kitB K q.2.1 (.type "list") false && kitB K q.2.1 (.type "dict") false))))))
end K00
namespace K00
open PySem PySem.Spec PyProof.Rows L2 WkH WkE WkR

def obA (s : PySem.W.SharedT) : AlL := obL seen exA laws s
theorem runA (w : World) : ∀ os : OsState, (HandSHeadRun.endF (HandSHeadRun.stepQ (HandSHeadRun.denQ HandSHeadRun.tabQ) R.prog w) 20000 R.prog w os).map obA = some (wantL laws) := by
  intro os
  kernel_rfl
end K00
namespace K00
open PySem PySem.Spec PyProof.Rows L2 WkH WkE WkR

def obB (s : PySem.W.SharedT) : AlL := obL seen exB inis s
theorem runB (w : World) : ∀ os : OsState, (HandSHeadRun.endF (HandSHeadRun.stepQ (HandSHeadRun.denQ HandSHeadRun.tabQ) R.prog w) 20000 R.prog w os).map obB = some (wantL inis) := by
  intro os
  kernel_rfl
end K00
namespace K00
open PySem PySem.Spec PyProof.Rows L2 WkH WkE WkR

def obC (s : PySem.W.SharedT) : AlL := obL seen exC [] s
theorem runC (w : World) : ∀ os : OsState, (HandSHeadRun.endF (HandSHeadRun.stepQ (HandSHeadRun.denQ HandSHeadRun.tabQ) R.prog w) 20000 R.prog w os).map obC = some (wantL []) := by
  intro os
  kernel_rfl
end K00
namespace K00
open PySem PySem.Spec PyProof.Rows L2 WkH WkE WkR

theorem runL (w : World) : ∀ os : OsState, (HandSHeadRun.endF (HandSHeadRun.stepQ (HandSHeadRun.denQ HandSHeadRun.tabQ) R.prog w) 20000 R.prog w os).map (fun s => HandSHeadRun.looksF R.prog (PySem.W.boot_heap w.params) s.abs) = some true := by
  intro os
  kernel_rfl
end K00
namespace K00
open PySem PySem.Spec PyProof.Rows L2 WkH WkE WkR

theorem runS (w : World) : ∀ os : OsState, (HandSHeadRun.endF (HandSHeadRun.stepQ (HandSHeadRun.denQ HandSHeadRun.tabQ) R.prog w) 20000 R.prog w os).map (fun s => HandSHeadRun.seenQ vw loose (importedModules R.prog.main.body) (fun s => PySem.W.xlAt vw [] s && PySem.W.recOk R.toRowW.records s) s.abs) = some (PySem.W.openGood vw loose) := by
  intro os
  kernel_rfl
end K00
/-! the steps that need no thought -/
local macro_rules | `(tactic| walk_at "go") => `(tactic| repeat (first
  | ((with_reducible refine' WkS.e_var ?hv ?_); (case hv => exact rfl)) | with_reducible refine WkS.e_c ?_ | with_reducible refine WkS.e_op ?_ | with_reducible refine WkS.e_un ?_ | with_reducible refine WkS.e_I0 ?_ | with_reducible refine WkS.e_U ?_
  | ((with_reducible refine WkS.e_eq ?hs ?_); (case hs => exact rfl)) | ((with_reducible refine WkS.e_ne ?hs ?_); (case hs => exact rfl))
  | with_reducible refine WkS.e_test ?_ | with_reducible refine WkS.e_tB ?_ | with_reducible refine WkS.e_bl ?_ | with_reducible refine WkS.e_and ?_ | with_reducible refine WkS.e_or ?_ | with_reducible refine WkS.e_not ?_ | with_reducible refine WkS.e_if ?_
  | with_reducible refine WkS.e_andV ?_ | with_reducible refine WkS.e_orV ?_ | with_reducible refine WkS.e_notV ?_ | with_reducible refine WkS.e_nil ?_ | with_reducible refine WkS.e_cons ?_ | with_reducible refine WkS.e_CB ?_ | with_reducible refine WkS.e_tup ?_
  | with_reducible refine WkS.e_lst ?_ | with_reducible refine WkS.e_call ?_ | with_reducible refine WkS.e_seq ?_ | with_reducible refine WkS.e_next ?_ | with_reducible refine WkS.e_ret ?_ | with_reducible refine WkS.e_asg ?_ | with_reducible refine WkS.e_gName ?_
  | with_reducible refine WkS.e_gSub ?_ | with_reducible refine WkS.e_ifS ?_ | with_reducible refine WkS.e_drop ?_ | with_reducible refine WkS.e_par ?_ | with_reducible refine WkS.e_two ?_ | with_reducible refine WkS.e_int1 ?_ | with_reducible refine WkS.e_one ?_ | with_reducible refine WkS.e_sl ?_ | with_reducible refine WkS.e_noPart ?_ | with_reducible refine WkS.e_part ?_ | with_reducible refine WkS.e_vint ?_ | with_reducible refine WkS.e_vbl ?_ | with_reducible refine WkS.e_BM ?_ | with_reducible refine WkS.e_BM0 ?_
  | ((with_reducible refine' WkS.e_ixl ?ha ?hb ?_); (case ha => first | assumption | exact L2.upd_same); (case hb => exact rfl)) | ((with_reducible refine' WkS.e_ixt ?ha ?hb ?_); (case ha => first | assumption | exact L2.upd_same); (case hb => exact rfl))
  | ((with_reducible refine' WkS.e_setL ?ha ?hb ?_); (case ha => first | assumption | exact L2.upd_same); (case hb => exact rfl))))


namespace K00
open PySem PySem.Spec PyProof.Rows L2 WkH WkE WkG WkR WkS
structure Bl (mg : Str → Option Value) : Prop where
  ArithmeticError : mg "ArithmeticError" = none
  LookupError : mg "LookupError" = none
  ValueError : mg "ValueError" = none
  abs : mg "abs" = none
  bool : mg "bool" = none
  dict : mg "dict" = none
  int : mg "int" = none
  isinstance : mg "isinstance" = none
  len : mg "len" = none
  list : mg "list" = none
  max : mg "max" = none
  min : mg "min" = none
  range : mg "range" = none
  repr : mg "repr" = none
  str : mg "str" = none
  sum : mg "sum" = none
section
variable {P : Program} {w : World} {K : PySem.W.Frag} {mg : Str → Option Value} {base : Heap}
theorem cut_ints (ns : List Int) (lo hi : Option Int) : cutV (ns.map V.int) lo hi = (((ns.drop (HT.sIx ns.length 0 lo)).take (HT.sIx ns.length ns.length hi - HT.sIx ns.length 0 lo))).map V.int := by
  unfold cutV
  rw [List.length_map, List.map_take, List.map_drop]
/-! ### a cell of the script -/
def spCell (K : PySem.W.Frag) : Sp := fun vs H Q _ => ∃ (a : Addr) (ns : List Int) (k : Nat), vs = [.ref a, .int k] ∧ SqL K H a (ns.map V.int) ∧ k < 100 ∧ ∀ i H', Same H H' → Q (.int i) H'
theorem sc_cell : FnScope ["script", "k"] ["script", "k"] d_cell.sco := ⟨rfl, rfl, rfl, by decide +kernel, rfl, by decide +kernel, by decide +kernel⟩
theorem ok_cell {fd : FuncData} (F : Stands K d_cell fd) (T : Bl mg) : FnOk P w K mg base CX0 1 d_cell.adr fd ["script", "k"] (spCell K) := by
  refine FunD.ok F sc_cell (fun vs H Q E h => ?_) (fun cdv A outer s H vs Q E hr h => ⟨_, PSs.nox (pss_one (ps_ret (pe_ifExp (pt_cmpR op_lt (pv 1) (pe_callB call_len_seq rfl T.len PySem.boot_len (pa_cons (pv 0) pa_nil)) (nomark _)) (pe_ix ix_list (pv 0) (pv 1) (fun _ _ => rfl)) (pe_op op_add (pe_op op_mul pe_int (pv 1)) (pe_op op_mod (pe_callTy call_intI rfl T.int (by decide +kernel) (pa_cons (pe_callB (cr_sum rfl) rfl T.sum (by decide +kernel) (pa_cons (pe_slice sl_list (pv 0) po_none (po_some pe_int)) pa_nil)) pa_nil)) pe_int))))), ?_⟩)
  · obtain ⟨a, ns, k, rfl, _⟩ := h
    rfl
  · obtain ⟨a, ns, k, rfl, hS, hk, hQ⟩ := h
    with_reducible refine e_ret ?_
    try dsimp only [cxOf, Cx.nox, Cx.wish]
    walk_at "go"
    refine ⟨_, _, rfl, Or.inl hS, ?_⟩
    walk_at "go"
    rw [List.length_map]
    refine e_ite (fun h => ?_) (fun h => ?_)
    · have h' : (k : Int) < ns.length := of_decide_eq_true h
      have hk2 : k < ns.length := by omega
      walk_at "go"
      exact e_ixL hS (atI_nat (by rw [List.getElem?_map, List.getElem?_eq_getElem hk2]; rfl)) (hQ _ _ (Same.refl _))
    · walk_at "go"
      refine e_I (.inl (by decide)) ?_
      walk_at "go"
      refine ⟨a, _, rfl, hS, fun p np => ?_⟩
      walk_at "go"
      rw [cut_ints]
      refine ⟨p, _, rfl, SqL.of upd_same, ?_⟩
      walk_at "go"
      refine e_I ?hc ?_
      case hc => show (0 : Int) < _; decide
      walk_at "go"
      exact hQ _ _ (fun b o e => by rw [upd_ne (ne_of_none e np)]; exact e)
/-! ### the draws -/
/-- what stands in a box of draws: the number that gives digits, whether it is great, the seed, how many draws were mixed -/
def bx (g : Int) (big : Bool) (m c : Int) : List V := [.int g, .bl big, .int m, .int c]
structure BxOk (g m c : Int) (n : Nat) : Prop where
  g0 : 0 ≤ g
  m0 : 0 ≤ m
  m1 : m < 2147483629
  c0 : 0 ≤ c
  c1 : c ≤ n
def BoxAt (H : Hp) (b : Addr) (n : Nat) : Prop := ∃ g big m c, H b = some (.lst (bx g big m c)) ∧ BxOk g m c n
def spBox : Sp := fun vs H Q _ => ∃ i : Int, vs = [.int i] ∧ ∀ p H', H p = none → Same H H' → BoxAt H' p 0 → Q (.ref p) H'
theorem sc_box : FnScope ["great"] ["great"] d_box.sco := ⟨rfl, rfl, rfl, by decide +kernel, rfl, by decide +kernel, by decide +kernel⟩
theorem ok_box {fd : FuncData} (F : Stands K d_box fd) (T : Bl mg) : FnOk P w K mg base CX0 1 d_box.adr fd ["great"] spBox := by
  refine FunD.ok F sc_box (fun vs H Q E h => ?_) (fun cdv A outer s H vs Q E hr h => ⟨_, PSs.nox (pss_one (ps_ret (pe_lst (pa_cons (pe_callB call_abs rfl T.abs (by decide +kernel) (pa_cons (pv 0) pa_nil)) (pa_cons (pe_cmpR op_ge (pe_callB call_abs rfl T.abs (by decide +kernel) (pa_cons (pv 0) pa_nil)) (pe_op op_pow pe_int pe_int) (nomark _)) (pa_cons (pe_op op_mod (pe_callTy call_intI rfl T.int (by decide +kernel) (pa_cons (pe_callB call_abs rfl T.abs (by decide +kernel) (pa_cons (pv 0) pa_nil)) pa_nil)) pe_int) (pa_cons pe_int pa_nil))))))), ?_⟩)
  · obtain ⟨i, rfl, _⟩ := h
    rfl
  · obtain ⟨i, rfl, hQ⟩ := h
    try dsimp only [cxOf, Cx.nox, Cx.wish]
    walk_at "go"
    refine e_I ?hp ?_
    case hp => exact ⟨by decide, by decide, by decide⟩
    walk_at "go"
    refine e_I ?hc ?_
    case hc => show (0 : Int) < _; decide
    walk_at "go"
    refine ⟨sz 4, fun p hp => ?_⟩
    refine hQ p _ hp (fun b o e => by rw [upd_ne (ne_of_none e hp)]; exact e) ⟨_, _, _, _, upd_same, ?_, ?_, ?_, ?_, ?_⟩
    · split <;> omega
    · exact Int.emod_nonneg _ (by decide)
    · exact Int.emod_lt_of_pos _ (by decide)
    · exact Int.le_refl _
    · exact Int.le_refl _
def spTake : Sp := fun vs H Q _ => ∃ (b : Addr) (n : Nat) (many : Int), vs = [.ref b, .int many] ∧ BoxAt H b n ∧ n ≤ 100000 ∧ 1 ≤ many ∧ many < 1073741824 ∧
  ∀ (r : Int) (ys : List V), 0 ≤ r → r < many → BoxAt (upd H b (.lst ys)) b (n + 1) → Q (.int r) (upd H b (.lst ys))
theorem sc_take : FnScope ["box", "many", "mixed", "digit"] ["box", "many"] d_take.sco := ⟨rfl, rfl, rfl, by decide +kernel, rfl, by decide +kernel, by decide +kernel⟩
theorem ok_take {fd : FuncData} (F : Stands K d_take fd) (T : Bl mg) : FnOk P w K mg base CX0 1 d_take.adr fd ["box", "many"] spTake := by
  refine FunD.ok F sc_take (fun vs H Q E h => ?_) (fun cdv A outer s H vs Q E hr h => ⟨_, PSs.nox (pss_cons (ps_if (PW.pt (pw_and (pt_val (pe_ix ix_list (pv 0) pe_int (fun _ _ => rfl))) (pw_and1 (pt_cmpR op_gt (pe_ix ix_list (pv 0) pe_int (fun _ _ => rfl)) pe_int (nomark _))))) (pss_cons (ps_set (i := 3) sc_take.nd rfl (by first | exact Or.inl rfl | exact Or.inr rfl) (pe_op op_mod (pe_callTy call_intI rfl T.int (by decide +kernel) (pa_cons (pe_ix ix_list (pv 0) pe_int (fun _ _ => rfl)) pa_nil)) (pv 1)))
  (pss_cons (ps_asg (pe_op op_fdiv (pe_ix ix_list (pv 0) pe_int (fun _ _ => rfl)) (pv 1)) (pg_sub (pv 0) pe_int set_list))
  (pss_one (ps_ret (pv 3))))) pss_nil)
  (pss_cons (ps_asg (pe_op op_add (pe_ix ix_list (pv 0) pe_int (fun _ _ => rfl)) pe_int) (pg_sub (pv 0) pe_int set_list))
  (pss_cons (ps_set (i := 2) sc_take.nd rfl (by first | exact Or.inl rfl | exact Or.inr rfl) (pe_op op_mod (pe_callTy call_intI rfl T.int (by decide +kernel) (pa_cons (pe_op op_pow (pe_op op_add (pe_op op_add (pe_ix ix_list (pv 0) pe_int (fun _ _ => rfl)) (pe_op op_mul pe_int (pe_ix ix_list (pv 0) pe_int (fun _ _ => rfl)))) pe_int) pe_int) pa_nil)) pe_int))
  (pss_one (ps_ret (pe_op op_mod (pe_callTy call_intI rfl T.int (by decide +kernel) (pa_cons (pe_op op_fdiv (pe_op op_mod (pe_callTy call_intI rfl T.int (by decide +kernel) (pa_cons (pe_op op_pow (pe_op op_add (pe_op op_mul (pv 2) pe_int) (pe_op op_mul pe_int (pe_ix ix_list (pv 0) pe_int (fun _ _ => rfl)))) pe_int) pa_nil)) pe_int) pe_int) pa_nil)) (pv 1))))))), ?_⟩)
  · obtain ⟨b, n, many, rfl, _⟩ := h
    rfl
  · obtain ⟨b, n, many, rfl, ⟨g, big, m, c, hb, hok⟩, hn, m1, m2, hQ⟩ := h
    obtain ⟨g0, m0, m3, c0, c1⟩ := hok
    try dsimp only [cxOf, Cx.nox, Cx.wish]
    walk_at "go"
    have fin : ∀ (r : Int), 0 ≤ r → r < many → Q (.int r) (upd H b (.lst (bx g big m (c + 1)))) := fun r r0 r1 =>
      hQ r _ r0 r1 ⟨g, big, m, c + 1, upd_same, g0, m0, m3, by omega, by omega⟩
    have down : ∀ (r : Int), 0 ≤ r → r < many → Q (.int r) (upd H b (.lst (bx (g / many) big m c))) := fun r r0 r1 =>
      hQ r _ r0 r1 ⟨g / many, big, m, c, upd_same, Int.ediv_nonneg g0 (by omega), m0, m3, c0, by omega⟩
    have pos : 0 < many := by omega
    refine e_ite (fun hb1 => ?_) (fun hb1 => ?_)
    · walk_at "go"
      refine e_ite (fun hg => ?_) (fun hg => ?_)
      · walk_at "go"
        refine e_I pos ?_
        walk_at "go"
        refine e_I ⟨pos, m2⟩ ?_
        walk_at "go"
        exact down _ (Int.emod_nonneg _ (by omega)) (Int.emod_lt_of_pos _ pos)
      · walk_at "go"
        refine e_I (.inl (by decide)) ?_
        walk_at "go"
        refine e_I ⟨by decide, by decide, by omega⟩ ?_
        walk_at "go"
        refine e_mod (by decide) fun k k0 k1 => ?_
        walk_at "go"
        refine e_I (.inr (by decide)) ?_
        walk_at "go"
        refine e_I (.inl (by decide)) ?_
        walk_at "go"
        refine e_I ⟨by decide, by decide, by omega⟩ ?_
        walk_at "go"
        refine e_mod (by decide) fun k' k0' k1' => ?_
        walk_at "go"
        refine e_I (show CDiv _ _ from ⟨by decide, by decide⟩) ?_
        walk_at "go"
        refine e_mod pos fun r r0 r1 => ?_
        exact fin r r0 r1
    · subst hb1
      walk_at "go"
      refine e_no rfl ?_
      walk_at "go"
      refine e_I (.inl (by decide)) ?_
      walk_at "go"
      refine e_I ⟨by decide, by decide, by omega⟩ ?_
      walk_at "go"
      refine e_mod (by decide) fun k k0 k1 => ?_
      walk_at "go"
      refine e_I (.inr (by decide)) ?_
      walk_at "go"
      refine e_I (.inl (by decide)) ?_
      walk_at "go"
      refine e_I ⟨by decide, by decide, by omega⟩ ?_
      walk_at "go"
      refine e_mod (by decide) fun k' k0' k1' => ?_
      walk_at "go"
      refine e_I (show CDiv _ _ from ⟨by decide, by decide⟩) ?_
      walk_at "go"
      refine e_mod pos fun r r0 r1 => ?_
      exact fin r r0 r1
end
end K00
namespace K00
open PySem PySem.Spec PyProof.Rows L2 WkH WkE WkG WkR WkS WkP
/-! ### the classes, by number -/
def cAd (k : Nat) : Addr := ((clss[k]?).map (·.2.1)).getD 0
def fAt (k : Nat) : Option Str := ((clss[k]?).map (·.2.2.2)).getD none
theorem cAd_inj : ∀ k, k < 51 → ∀ j, j < 51 → Nat.beq (cAd k) (cAd j) = decide (j = k) := by decide +kernel
structure Kinds (K : PySem.W.Frag) : Prop where
  ask : ∀ k, k < 51 → AskC K (cAd k)
  kit : ∀ k, k < 51 → ∀ j, j < 51 → PySem.W.kitOne K (.ref (cAd k)) (.ref (cAd j)) = some (decide (j = k))
  wk : ∀ k, k < 51 → PySem.W.kitOne K (.ref (cAd k)) (.ref 24) = some true
  exm : ∀ k, k < 51 → PySem.W.exmOne K (.ref (cAd k)) (.ref 24) = some true
  ve : ∀ k, k < 51 → PySem.W.kitOne K (.ref (cAd k)) (.type "ValueError") = some true
  le : ∀ k, k < 51 → PySem.W.kitOne K (.ref (cAd k)) (.type "LookupError") = some false
  ae : ∀ k, k < 51 → PySem.W.kitOne K (.ref (cAd k)) (.type "ArithmeticError") = some false
  li : ∀ k, k < 51 → PySem.W.kitOne K (.ref (cAd k)) (.type "list") = some false
  di : ∀ k, k < 51 → PySem.W.kitOne K (.ref (cAd k)) (.type "dict") = some false
theorem clss_at (k : Nat) (h : k < 51) : ∃ q, clss[k]? = some q ∧ q ∈ clss ∧ q.2.1 = cAd k ∧ q.2.2.2 = fAt k := by
  have hl : clss.length = 51 := by decide +kernel
  have e : clss[k]? = some (clss[k]'(by omega)) := List.getElem?_eq_getElem (by omega)
  refine ⟨_, e, List.getElem_mem _, ?_, ?_⟩
  · unfold cAd
    rw [e]
    rfl
  · unfold fAt
    rw [e]
    rfl
theorem ba {a b : Bool} (h : (a && b) = true) : a = true ∧ b = true := Bool.and_eq_true_iff.mp h
theorem kinds_mk {K : PySem.W.Frag} (hB : exB K = true) (hC : exC K = true) : Kinds K := by
  have b : ∀ k, k < 51 → askB K (cAd k) = true := fun k h => by
    obtain ⟨q, _, hm, e, _⟩ := clss_at k h
    have z := (ba (ba (ba (List.all_eq_true.mp hB q hm)).2).2).1
    rw [e] at z
    exact z
  have c : ∀ k, k < 51 → (clss.all (fun r => kitB K (cAd k) (.ref r.2.1) (Nat.beq (cAd k) r.2.1)) && (kitB K (cAd k) (.ref 24) true && (decide (PySem.W.exmOne K (.ref (cAd k)) (.ref 24) = some true) && (kitB K (cAd k) (.type "ValueError") true &&
      (kitB K (cAd k) (.type "LookupError") false && (kitB K (cAd k) (.type "ArithmeticError") false && (kitB K (cAd k) (.type "list") false && kitB K (cAd k) (.type "dict") false))))))) = true := fun k h => by
    obtain ⟨q, _, hm, e, _⟩ := clss_at k h
    have z := List.all_eq_true.mp hC q hm
    rw [e] at z
    exact z
  refine ⟨fun k h => askB_ok (b k h), fun k h j hj => ?_, fun k h => kitB_ok (ba (ba (c k h)).2).1, fun k h => of_decide_eq_true (ba (ba (ba (c k h)).2).2).1, fun k h => kitB_ok (ba (ba (ba (ba (c k h)).2).2).2).1, fun k h => kitB_ok (ba (ba (ba (ba (ba (c k h)).2).2).2).2).1,
    fun k h => kitB_ok (ba (ba (ba (ba (ba (ba (c k h)).2).2).2).2).2).1, fun k h => kitB_ok (ba (ba (ba (ba (ba (ba (ba (c k h)).2).2).2).2).2).2).1, fun k h => kitB_ok (ba (ba (ba (ba (ba (ba (ba (c k h)).2).2).2).2).2).2).2⟩
  obtain ⟨r, _, hm, e, _⟩ := clss_at j hj
  have z := kitB_ok (List.all_eq_true.mp (ba (c k h)).1 r hm)
  rw [e, cAd_inj k h j hj] at z
  exact z
/-- what an error keeps -/
def Keeps (H : Hp) (a : Addr) (k : Nat) (v : V) : Prop := match fAt k with
  | some f => Err1 H a (cAd k) f v
  | none => Err0 H a (cAd k)
theorem Keeps.at_ {H : Hp} {a : Addr} {k : Nat} {v : V} (h : Keeps H a k v) : ErrAt H a (cAd k) := by
  unfold Keeps at h
  split at h
  · exact .one _ _ h
  · exact .no h
theorem Keeps.mono {H H' : Hp} {a : Addr} {k : Nat} {v : V} (e : Same H H') (h : Keeps H a k v) : Keeps H' a k v := by
  unfold Keeps at h ⊢
  split at h
  · rename_i f hf
    exact h.mono e
  · rename_i hf
    exact h.mono e
/-! ### of which of the classes an error is -/
def kindsUp (n k : Nat) : List V := (List.range n).map fun j => .bl (decide (j = k))
section
variable {P : Program} {w : World} {K : PySem.W.Frag} {mg : Str → Option Value} {base : Heap}
theorem kinds_step {W : Hp → Addr → Addr → Prop} (hW : ∀ {H H' : Hp} {a C : Addr}, Same H H' → W H a C → W H' a C) (T : Kinds K) (i : Nat) (hi : i < 17) {k : Nat} (hk : k < 51) {D : Ends} {H : Hp} {a l : Addr} (ha : W H a (cAd k)) (hl : H l = some (.lst (kindsUp (3 * i) k)))
    (q : ∀ l' H', H l' = none → Same H H' → H' l' = some (.lst (kindsUp (3 * i + 3) k)) → D.nx [some (.ref a), some (.ref l')] H') :
    tAsg (tOp rCat (tVar 1) (tLst (tCons (tCB (rIsiW W K) (tCons (tVar 0) (tCons (tC (.ref (cAd (3 * i)))) tNil))) (tCons (tCB (rIsiW W K) (tCons (tVar 0) (tCons (tC (.ref (cAd (3 * i + 1)))) tNil))) (tCons (tCB (rIsiW W K) (tCons (tVar 0) (tCons (tC (.ref (cAd (3 * i + 2)))) tNil))) tNil))))) (gName 1) D [some (.ref a), some (.ref l)] H := by
  walk_at "go"
  refine ⟨a, cAd k, _, _, _, rfl, .own _, T.ask k hk, ha, T.kit k hk (3 * i) (by omega), ?_⟩
  walk_at "go"
  refine ⟨a, cAd k, _, _, _, rfl, .own _, T.ask k hk, ha, T.kit k hk (3 * i + 1) (by omega), ?_⟩
  walk_at "go"
  refine ⟨a, cAd k, _, _, _, rfl, .own _, T.ask k hk, ha, T.kit k hk (3 * i + 2) (by omega), ?_⟩
  walk_at "go"
  refine ⟨sz 3, fun p np => ?_⟩
  have hlp : l ≠ p := ne_of_none hl np
  refine e_cat (by rw [upd_ne hlp]; exact hl) upd_same ?_ fun l' nl' => ?_
  · unfold kindsUp
    rw [List.length_map, List.length_range]
    show 3 * i + 3 ≤ sizeLine
    exact sz _ (by omega)
  · walk_at "go"
    have s1 : Same H (upd H p (.lst [.bl (decide (3 * i = k)), .bl (decide (3 * i + 1 = k)), .bl (decide (3 * i + 2 = k))])) := fun b o e => by
      rw [upd_ne (ne_of_none e np)]
      exact e
    have s2 := s1.trans (fun b o (e : upd H p (.lst [.bl (decide (3 * i = k)), .bl (decide (3 * i + 1 = k)), .bl (decide (3 * i + 2 = k))]) b = some o) => (show upd _ l' (.lst (kindsUp (3 * i) k ++ [.bl (decide (3 * i = k)), .bl (decide (3 * i + 1 = k)), .bl (decide (3 * i + 2 = k))])) b = some o by
      rw [upd_ne (ne_of_none e nl')]
      exact e))
    refine q l' _ (s1.free nl') s2 ?_
    rw [upd_same]
    unfold kindsUp
    rw [List.range_succ, List.range_succ, List.range_succ, List.map_append, List.map_append, List.map_append, List.append_assoc, List.append_assoc]
    rfl
def spKinds : Sp := fun vs H Q _ => ∃ (a : Addr) (k : Nat), vs = [.ref a] ∧ k < 51 ∧ ErrAt H a (cAd k) ∧ ∀ l H', H l = none → Same H H' → H' l = some (.lst (kindsUp 51 k)) → Q (.ref l) H'
def spKindsP (p : Addr × Obj) : Sp := fun vs H Q _ => ∃ (a : Addr) (k : Nat), vs = [.ref a] ∧ k < 51 ∧ PinE p H a (cAd k) ∧ ∀ l H', H l = none → Same H H' → H' l = some (.lst (kindsUp 51 k)) → Q (.ref l) H'
end
end K00
namespace K00
open PySem PySem.Spec PyProof.Rows L2 WkH WkE WkG WkR WkS WkP
/-! ### the 51 classes, whole -/
structure Es (P : Program) (w : World) (K : PySem.W.Frag) (mg : Str → Option Value) (base : Heap) : Prop where
  e0 : ErrC P w K mg base "InvalidNumber" 44 "given"
  e1 : ErrC P w K mg base "InvalidFraction" 63 "given"
  e2 : ErrC P w K mg base "InvalidChance" 82 "given"
  e3 : ErrC P w K mg base "InvalidDiscount" 101 "given"
  e4 : ErrC P w K mg base "InvalidStates" 120 "given"
  e5 : ErrC P w K mg base "InvalidState" 139 "given"
  e6 : ErrC P w K mg base "InvalidProject" 158 "given"
  e7 : ErrC P w K mg base "InvalidText" 177 "given"
  e8 : ErrC P w K mg base "InvalidPlan" 196 "given"
  e9 : ErrC P w K mg base "InvalidSure" 215 "given"
  e10 : ErrC P w K mg base "InvalidGoing" 234 "given"
  e11 : ErrC P w K mg base "InvalidBox" 253 "given"
  e12 : ErrC P w K mg base "InvalidBoxes" 272 "given"
  e13 : ErrC P w K mg base "InvalidCollection" 291 "given"
  e14 : ErrC P w K mg base "InvalidOthers" 310 "given"
  e15 : ErrC P w K mg base "InvalidCount" 329 "given"
  e16 : ErrC P w K mg base "InvalidFrame" 348 "given"
  e17 : ErrC P w K mg base "InvalidProjects" 367 "given"
  e18 : ErrC P w K mg base "InvalidSlot" 386 "given"
  e19 : ErrC P w K mg base "InvalidOrder" 405 "given"
  e20 : ErrC P w K mg base "InvalidRange" 424 "given"
  e21 : ErrC P w K mg base "InvalidChoices" 443 "given"
  e22 : ErrC P w K mg base "InvalidTokens" 462 "given"
  e23 : ErrC P w K mg base "InvalidDeadline" 481 "given"
  e24 : ErrC P w K mg base "InvalidCost" 500 "given"
  e25 : ErrC P w K mg base "InvalidAnswers" 519 "given"
  e26 : ErrC P w K mg base "InvalidList" 538 "given"
  e27 : ErrC P w K mg base "InvalidOffers" 557 "given"
  e28 : ErrC P w K mg base "InvalidPurse" 576 "given"
  e29 : ErrC P w K mg base "InvalidAmount" 595 "given"
  e30 : ErrC P w K mg base "InvalidName" 614 "given"
  e31 : ErrC P w K mg base "InvalidNames" 633 "given"
  e32 : ErrC P w K mg base "InvalidLine" 652 "given"
  e33 : ErrC P w K mg base "InvalidFactor" 671 "given"
  e34 : ErrC P w K mg base "InvalidWays" 861 "given"
  e35 : ErrC P w K mg base "InvalidSteps" 880 "given"
  e36 : ErrC P w K mg base "InvalidJoint" 899 "given"
  e37 : ErrC P w K mg base "InvalidCourse" 918 "given"
  e38 : ErrC P w K mg base "InvalidToken" 937 "given"
  e39 : ErrC P w K mg base "InvalidGroups" 956 "given"
  e40 : ErrC P w K mg base "InvalidTests" 975 "given"
  e41 : ErrC P w K mg base "InvalidNumbers" 994 "given"
  e42 : ErrC P w K mg base "TooMany" 690 "count"
  e43 : ErrC P w K mg base "NoProject" 709 "name"
  e44 : ErrC P w K mg base "NoWorks" 728 "name"
  e45 : ErrC P w K mg base "Taken" 747 "name"
  e46 : ErrC P w K mg base "Harmful" 785 "told"
  e47 : ErrC P w K mg base "NotNow" 823 "line"
  e48 : ErrC0 P w K mg base "Full" 766
  e49 : ErrC0 P w K mg base "NothingToUndo" 804
  e50 : ErrC0 P w K mg base "Unlike" 842

section
variable {P : Program} {w : World} {K : PySem.W.Frag} {mg : Str → Option Value} {base h : Heap}
theorem exB_at (hB : exB K = true) {q : Str × Addr × Addr × Option Str} (hq : q ∈ clss) : gloB K q.1 q.2.1 = true ∧ excB K q.2.1 = true ∧ askB K q.2.1 = true ∧ iniB K q.2.1 q.2.2.1 q.2.2.2 = true := by
  have z := List.all_eq_true.mp hB q hq
  exact ⟨(ba z).1, (ba (ba z).2).1, (ba (ba (ba z).2).2).1, (ba (ba (ba z).2).2).2⟩
theorem es_0 (hB : exB K = true) (hW : BaseC K 24) (gW : mg "WorkError" = some (.ref 24)) (KI : K.In h) (G : h.Ns mainGlobals mg) (st : ∀ d ∈ inis, ∃ fd, Stands K d fd) : ErrC P w K mg base "InvalidNumber" 44 "given" := by
  obtain ⟨g, c1, c2, c3⟩ := exB_at hB (q := ("InvalidNumber", 44, 41, some "given")) (List.mem_of_getElem? (i := 0) rfl)
  exact errC_mk (d := ⟨41, "__init__", "InvalidNumber.__init__", defArgs (inClass (top 2) 0), defBody (inClass (top 2) 0), defScope (inClass (top 2) 0)⟩) c1 c2 c3 (gloB_ok KI G g) (st _ (List.mem_of_getElem? (i := 0) rfl)) rfl rfl rfl (by decide) rfl hW gW
theorem es_1 (hB : exB K = true) (hW : BaseC K 24) (gW : mg "WorkError" = some (.ref 24)) (KI : K.In h) (G : h.Ns mainGlobals mg) (st : ∀ d ∈ inis, ∃ fd, Stands K d fd) : ErrC P w K mg base "InvalidFraction" 63 "given" := by
  obtain ⟨g, c1, c2, c3⟩ := exB_at hB (q := ("InvalidFraction", 63, 60, some "given")) (List.mem_of_getElem? (i := 1) rfl)
  exact errC_mk (d := ⟨60, "__init__", "InvalidFraction.__init__", defArgs (inClass (top 3) 0), defBody (inClass (top 3) 0), defScope (inClass (top 3) 0)⟩) c1 c2 c3 (gloB_ok KI G g) (st _ (List.mem_of_getElem? (i := 1) rfl)) rfl rfl rfl (by decide) rfl hW gW
theorem es_2 (hB : exB K = true) (hW : BaseC K 24) (gW : mg "WorkError" = some (.ref 24)) (KI : K.In h) (G : h.Ns mainGlobals mg) (st : ∀ d ∈ inis, ∃ fd, Stands K d fd) : ErrC P w K mg base "InvalidChance" 82 "given" := by
  obtain ⟨g, c1, c2, c3⟩ := exB_at hB (q := ("InvalidChance", 82, 79, some "given")) (List.mem_of_getElem? (i := 2) rfl)
  exact errC_mk (d := ⟨79, "__init__", "InvalidChance.__init__", defArgs (inClass (top 4) 0), defBody (inClass (top 4) 0), defScope (inClass (top 4) 0)⟩) c1 c2 c3 (gloB_ok KI G g) (st _ (List.mem_of_getElem? (i := 2) rfl)) rfl rfl rfl (by decide) rfl hW gW
theorem es_3 (hB : exB K = true) (hW : BaseC K 24) (gW : mg "WorkError" = some (.ref 24)) (KI : K.In h) (G : h.Ns mainGlobals mg) (st : ∀ d ∈ inis, ∃ fd, Stands K d fd) : ErrC P w K mg base "InvalidDiscount" 101 "given" := by
  obtain ⟨g, c1, c2, c3⟩ := exB_at hB (q := ("InvalidDiscount", 101, 98, some "given")) (List.mem_of_getElem? (i := 3) rfl)
  exact errC_mk (d := ⟨98, "__init__", "InvalidDiscount.__init__", defArgs (inClass (top 5) 0), defBody (inClass (top 5) 0), defScope (inClass (top 5) 0)⟩) c1 c2 c3 (gloB_ok KI G g) (st _ (List.mem_of_getElem? (i := 3) rfl)) rfl rfl rfl (by decide) rfl hW gW
theorem es_4 (hB : exB K = true) (hW : BaseC K 24) (gW : mg "WorkError" = some (.ref 24)) (KI : K.In h) (G : h.Ns mainGlobals mg) (st : ∀ d ∈ inis, ∃ fd, Stands K d fd) : ErrC P w K mg base "InvalidStates" 120 "given" := by
  obtain ⟨g, c1, c2, c3⟩ := exB_at hB (q := ("InvalidStates", 120, 117, some "given")) (List.mem_of_getElem? (i := 4) rfl)
  exact errC_mk (d := ⟨117, "__init__", "InvalidStates.__init__", defArgs (inClass (top 6) 0), defBody (inClass (top 6) 0), defScope (inClass (top 6) 0)⟩) c1 c2 c3 (gloB_ok KI G g) (st _ (List.mem_of_getElem? (i := 4) rfl)) rfl rfl rfl (by decide) rfl hW gW
theorem es_5 (hB : exB K = true) (hW : BaseC K 24) (gW : mg "WorkError" = some (.ref 24)) (KI : K.In h) (G : h.Ns mainGlobals mg) (st : ∀ d ∈ inis, ∃ fd, Stands K d fd) : ErrC P w K mg base "InvalidState" 139 "given" := by
  obtain ⟨g, c1, c2, c3⟩ := exB_at hB (q := ("InvalidState", 139, 136, some "given")) (List.mem_of_getElem? (i := 5) rfl)
  exact errC_mk (d := ⟨136, "__init__", "InvalidState.__init__", defArgs (inClass (top 7) 0), defBody (inClass (top 7) 0), defScope (inClass (top 7) 0)⟩) c1 c2 c3 (gloB_ok KI G g) (st _ (List.mem_of_getElem? (i := 5) rfl)) rfl rfl rfl (by decide) rfl hW gW
theorem es_6 (hB : exB K = true) (hW : BaseC K 24) (gW : mg "WorkError" = some (.ref 24)) (KI : K.In h) (G : h.Ns mainGlobals mg) (st : ∀ d ∈ inis, ∃ fd, Stands K d fd) : ErrC P w K mg base "InvalidProject" 158 "given" := by
  obtain ⟨g, c1, c2, c3⟩ := exB_at hB (q := ("InvalidProject", 158, 155, some "given")) (List.mem_of_getElem? (i := 6) rfl)
  exact errC_mk (d := ⟨155, "__init__", "InvalidProject.__init__", defArgs (inClass (top 8) 0), defBody (inClass (top 8) 0), defScope (inClass (top 8) 0)⟩) c1 c2 c3 (gloB_ok KI G g) (st _ (List.mem_of_getElem? (i := 6) rfl)) rfl rfl rfl (by decide) rfl hW gW
theorem es_7 (hB : exB K = true) (hW : BaseC K 24) (gW : mg "WorkError" = some (.ref 24)) (KI : K.In h) (G : h.Ns mainGlobals mg) (st : ∀ d ∈ inis, ∃ fd, Stands K d fd) : ErrC P w K mg base "InvalidText" 177 "given" := by
  obtain ⟨g, c1, c2, c3⟩ := exB_at hB (q := ("InvalidText", 177, 174, some "given")) (List.mem_of_getElem? (i := 7) rfl)
  exact errC_mk (d := ⟨174, "__init__", "InvalidText.__init__", defArgs (inClass (top 9) 0), defBody (inClass (top 9) 0), defScope (inClass (top 9) 0)⟩) c1 c2 c3 (gloB_ok KI G g) (st _ (List.mem_of_getElem? (i := 7) rfl)) rfl rfl rfl (by decide) rfl hW gW
theorem es_8 (hB : exB K = true) (hW : BaseC K 24) (gW : mg "WorkError" = some (.ref 24)) (KI : K.In h) (G : h.Ns mainGlobals mg) (st : ∀ d ∈ inis, ∃ fd, Stands K d fd) : ErrC P w K mg base "InvalidPlan" 196 "given" := by
  obtain ⟨g, c1, c2, c3⟩ := exB_at hB (q := ("InvalidPlan", 196, 193, some "given")) (List.mem_of_getElem? (i := 8) rfl)
  exact errC_mk (d := ⟨193, "__init__", "InvalidPlan.__init__", defArgs (inClass (top 10) 0), defBody (inClass (top 10) 0), defScope (inClass (top 10) 0)⟩) c1 c2 c3 (gloB_ok KI G g) (st _ (List.mem_of_getElem? (i := 8) rfl)) rfl rfl rfl (by decide) rfl hW gW
theorem es_9 (hB : exB K = true) (hW : BaseC K 24) (gW : mg "WorkError" = some (.ref 24)) (KI : K.In h) (G : h.Ns mainGlobals mg) (st : ∀ d ∈ inis, ∃ fd, Stands K d fd) : ErrC P w K mg base "InvalidSure" 215 "given" := by
  obtain ⟨g, c1, c2, c3⟩ := exB_at hB (q := ("InvalidSure", 215, 212, some "given")) (List.mem_of_getElem? (i := 9) rfl)
  exact errC_mk (d := ⟨212, "__init__", "InvalidSure.__init__", defArgs (inClass (top 11) 0), defBody (inClass (top 11) 0), defScope (inClass (top 11) 0)⟩) c1 c2 c3 (gloB_ok KI G g) (st _ (List.mem_of_getElem? (i := 9) rfl)) rfl rfl rfl (by decide) rfl hW gW
theorem es_10 (hB : exB K = true) (hW : BaseC K 24) (gW : mg "WorkError" = some (.ref 24)) (KI : K.In h) (G : h.Ns mainGlobals mg) (st : ∀ d ∈ inis, ∃ fd, Stands K d fd) : ErrC P w K mg base "InvalidGoing" 234 "given" := by
  obtain ⟨g, c1, c2, c3⟩ := exB_at hB (q := ("InvalidGoing", 234, 231, some "given")) (List.mem_of_getElem? (i := 10) rfl)
  exact errC_mk (d := ⟨231, "__init__", "InvalidGoing.__init__", defArgs (inClass (top 12) 0), defBody (inClass (top 12) 0), defScope (inClass (top 12) 0)⟩) c1 c2 c3 (gloB_ok KI G g) (st _ (List.mem_of_getElem? (i := 10) rfl)) rfl rfl rfl (by decide) rfl hW gW
theorem es_11 (hB : exB K = true) (hW : BaseC K 24) (gW : mg "WorkError" = some (.ref 24)) (KI : K.In h) (G : h.Ns mainGlobals mg) (st : ∀ d ∈ inis, ∃ fd, Stands K d fd) : ErrC P w K mg base "InvalidBox" 253 "given" := by
  obtain ⟨g, c1, c2, c3⟩ := exB_at hB (q := ("InvalidBox", 253, 250, some "given")) (List.mem_of_getElem? (i := 11) rfl)
  exact errC_mk (d := ⟨250, "__init__", "InvalidBox.__init__", defArgs (inClass (top 13) 0), defBody (inClass (top 13) 0), defScope (inClass (top 13) 0)⟩) c1 c2 c3 (gloB_ok KI G g) (st _ (List.mem_of_getElem? (i := 11) rfl)) rfl rfl rfl (by decide) rfl hW gW
theorem es_12 (hB : exB K = true) (hW : BaseC K 24) (gW : mg "WorkError" = some (.ref 24)) (KI : K.In h) (G : h.Ns mainGlobals mg) (st : ∀ d ∈ inis, ∃ fd, Stands K d fd) : ErrC P w K mg base "InvalidBoxes" 272 "given" := by
  obtain ⟨g, c1, c2, c3⟩ := exB_at hB (q := ("InvalidBoxes", 272, 269, some "given")) (List.mem_of_getElem? (i := 12) rfl)
  exact errC_mk (d := ⟨269, "__init__", "InvalidBoxes.__init__", defArgs (inClass (top 14) 0), defBody (inClass (top 14) 0), defScope (inClass (top 14) 0)⟩) c1 c2 c3 (gloB_ok KI G g) (st _ (List.mem_of_getElem? (i := 12) rfl)) rfl rfl rfl (by decide) rfl hW gW
theorem es_13 (hB : exB K = true) (hW : BaseC K 24) (gW : mg "WorkError" = some (.ref 24)) (KI : K.In h) (G : h.Ns mainGlobals mg) (st : ∀ d ∈ inis, ∃ fd, Stands K d fd) : ErrC P w K mg base "InvalidCollection" 291 "given" := by
  obtain ⟨g, c1, c2, c3⟩ := exB_at hB (q := ("InvalidCollection", 291, 288, some "given")) (List.mem_of_getElem? (i := 13) rfl)
  exact errC_mk (d := ⟨288, "__init__", "InvalidCollection.__init__", defArgs (inClass (top 15) 0), defBody (inClass (top 15) 0), defScope (inClass (top 15) 0)⟩) c1 c2 c3 (gloB_ok KI G g) (st _ (List.mem_of_getElem? (i := 13) rfl)) rfl rfl rfl (by decide) rfl hW gW
theorem es_14 (hB : exB K = true) (hW : BaseC K 24) (gW : mg "WorkError" = some (.ref 24)) (KI : K.In h) (G : h.Ns mainGlobals mg) (st : ∀ d ∈ inis, ∃ fd, Stands K d fd) : ErrC P w K mg base "InvalidOthers" 310 "given" := by
  obtain ⟨g, c1, c2, c3⟩ := exB_at hB (q := ("InvalidOthers", 310, 307, some "given")) (List.mem_of_getElem? (i := 14) rfl)
  exact errC_mk (d := ⟨307, "__init__", "InvalidOthers.__init__", defArgs (inClass (top 16) 0), defBody (inClass (top 16) 0), defScope (inClass (top 16) 0)⟩) c1 c2 c3 (gloB_ok KI G g) (st _ (List.mem_of_getElem? (i := 14) rfl)) rfl rfl rfl (by decide) rfl hW gW
theorem es_15 (hB : exB K = true) (hW : BaseC K 24) (gW : mg "WorkError" = some (.ref 24)) (KI : K.In h) (G : h.Ns mainGlobals mg) (st : ∀ d ∈ inis, ∃ fd, Stands K d fd) : ErrC P w K mg base "InvalidCount" 329 "given" := by
  obtain ⟨g, c1, c2, c3⟩ := exB_at hB (q := ("InvalidCount", 329, 326, some "given")) (List.mem_of_getElem? (i := 15) rfl)
  exact errC_mk (d := ⟨326, "__init__", "InvalidCount.__init__", defArgs (inClass (top 17) 0), defBody (inClass (top 17) 0), defScope (inClass (top 17) 0)⟩) c1 c2 c3 (gloB_ok KI G g) (st _ (List.mem_of_getElem? (i := 15) rfl)) rfl rfl rfl (by decide) rfl hW gW
theorem es_16 (hB : exB K = true) (hW : BaseC K 24) (gW : mg "WorkError" = some (.ref 24)) (KI : K.In h) (G : h.Ns mainGlobals mg) (st : ∀ d ∈ inis, ∃ fd, Stands K d fd) : ErrC P w K mg base "InvalidFrame" 348 "given" := by
  obtain ⟨g, c1, c2, c3⟩ := exB_at hB (q := ("InvalidFrame", 348, 345, some "given")) (List.mem_of_getElem? (i := 16) rfl)
  exact errC_mk (d := ⟨345, "__init__", "InvalidFrame.__init__", defArgs (inClass (top 18) 0), defBody (inClass (top 18) 0), defScope (inClass (top 18) 0)⟩) c1 c2 c3 (gloB_ok KI G g) (st _ (List.mem_of_getElem? (i := 16) rfl)) rfl rfl rfl (by decide) rfl hW gW
theorem es_17 (hB : exB K = true) (hW : BaseC K 24) (gW : mg "WorkError" = some (.ref 24)) (KI : K.In h) (G : h.Ns mainGlobals mg) (st : ∀ d ∈ inis, ∃ fd, Stands K d fd) : ErrC P w K mg base "InvalidProjects" 367 "given" := by
  obtain ⟨g, c1, c2, c3⟩ := exB_at hB (q := ("InvalidProjects", 367, 364, some "given")) (List.mem_of_getElem? (i := 17) rfl)
  exact errC_mk (d := ⟨364, "__init__", "InvalidProjects.__init__", defArgs (inClass (top 19) 0), defBody (inClass (top 19) 0), defScope (inClass (top 19) 0)⟩) c1 c2 c3 (gloB_ok KI G g) (st _ (List.mem_of_getElem? (i := 17) rfl)) rfl rfl rfl (by decide) rfl hW gW
theorem es_18 (hB : exB K = true) (hW : BaseC K 24) (gW : mg "WorkError" = some (.ref 24)) (KI : K.In h) (G : h.Ns mainGlobals mg) (st : ∀ d ∈ inis, ∃ fd, Stands K d fd) : ErrC P w K mg base "InvalidSlot" 386 "given" := by
  obtain ⟨g, c1, c2, c3⟩ := exB_at hB (q := ("InvalidSlot", 386, 383, some "given")) (List.mem_of_getElem? (i := 18) rfl)
  exact errC_mk (d := ⟨383, "__init__", "InvalidSlot.__init__", defArgs (inClass (top 20) 0), defBody (inClass (top 20) 0), defScope (inClass (top 20) 0)⟩) c1 c2 c3 (gloB_ok KI G g) (st _ (List.mem_of_getElem? (i := 18) rfl)) rfl rfl rfl (by decide) rfl hW gW
theorem es_19 (hB : exB K = true) (hW : BaseC K 24) (gW : mg "WorkError" = some (.ref 24)) (KI : K.In h) (G : h.Ns mainGlobals mg) (st : ∀ d ∈ inis, ∃ fd, Stands K d fd) : ErrC P w K mg base "InvalidOrder" 405 "given" := by
  obtain ⟨g, c1, c2, c3⟩ := exB_at hB (q := ("InvalidOrder", 405, 402, some "given")) (List.mem_of_getElem? (i := 19) rfl)
  exact errC_mk (d := ⟨402, "__init__", "InvalidOrder.__init__", defArgs (inClass (top 21) 0), defBody (inClass (top 21) 0), defScope (inClass (top 21) 0)⟩) c1 c2 c3 (gloB_ok KI G g) (st _ (List.mem_of_getElem? (i := 19) rfl)) rfl rfl rfl (by decide) rfl hW gW
theorem es_20 (hB : exB K = true) (hW : BaseC K 24) (gW : mg "WorkError" = some (.ref 24)) (KI : K.In h) (G : h.Ns mainGlobals mg) (st : ∀ d ∈ inis, ∃ fd, Stands K d fd) : ErrC P w K mg base "InvalidRange" 424 "given" := by
  obtain ⟨g, c1, c2, c3⟩ := exB_at hB (q := ("InvalidRange", 424, 421, some "given")) (List.mem_of_getElem? (i := 20) rfl)
  exact errC_mk (d := ⟨421, "__init__", "InvalidRange.__init__", defArgs (inClass (top 22) 0), defBody (inClass (top 22) 0), defScope (inClass (top 22) 0)⟩) c1 c2 c3 (gloB_ok KI G g) (st _ (List.mem_of_getElem? (i := 20) rfl)) rfl rfl rfl (by decide) rfl hW gW
theorem es_21 (hB : exB K = true) (hW : BaseC K 24) (gW : mg "WorkError" = some (.ref 24)) (KI : K.In h) (G : h.Ns mainGlobals mg) (st : ∀ d ∈ inis, ∃ fd, Stands K d fd) : ErrC P w K mg base "InvalidChoices" 443 "given" := by
  obtain ⟨g, c1, c2, c3⟩ := exB_at hB (q := ("InvalidChoices", 443, 440, some "given")) (List.mem_of_getElem? (i := 21) rfl)
  exact errC_mk (d := ⟨440, "__init__", "InvalidChoices.__init__", defArgs (inClass (top 23) 0), defBody (inClass (top 23) 0), defScope (inClass (top 23) 0)⟩) c1 c2 c3 (gloB_ok KI G g) (st _ (List.mem_of_getElem? (i := 21) rfl)) rfl rfl rfl (by decide) rfl hW gW
theorem es_22 (hB : exB K = true) (hW : BaseC K 24) (gW : mg "WorkError" = some (.ref 24)) (KI : K.In h) (G : h.Ns mainGlobals mg) (st : ∀ d ∈ inis, ∃ fd, Stands K d fd) : ErrC P w K mg base "InvalidTokens" 462 "given" := by
  obtain ⟨g, c1, c2, c3⟩ := exB_at hB (q := ("InvalidTokens", 462, 459, some "given")) (List.mem_of_getElem? (i := 22) rfl)
  exact errC_mk (d := ⟨459, "__init__", "InvalidTokens.__init__", defArgs (inClass (top 24) 0), defBody (inClass (top 24) 0), defScope (inClass (top 24) 0)⟩) c1 c2 c3 (gloB_ok KI G g) (st _ (List.mem_of_getElem? (i := 22) rfl)) rfl rfl rfl (by decide) rfl hW gW
theorem es_23 (hB : exB K = true) (hW : BaseC K 24) (gW : mg "WorkError" = some (.ref 24)) (KI : K.In h) (G : h.Ns mainGlobals mg) (st : ∀ d ∈ inis, ∃ fd, Stands K d fd) : ErrC P w K mg base "InvalidDeadline" 481 "given" := by
  obtain ⟨g, c1, c2, c3⟩ := exB_at hB (q := ("InvalidDeadline", 481, 478, some "given")) (List.mem_of_getElem? (i := 23) rfl)
  exact errC_mk (d := ⟨478, "__init__", "InvalidDeadline.__init__", defArgs (inClass (top 25) 0), defBody (inClass (top 25) 0), defScope (inClass (top 25) 0)⟩) c1 c2 c3 (gloB_ok KI G g) (st _ (List.mem_of_getElem? (i := 23) rfl)) rfl rfl rfl (by decide) rfl hW gW
theorem es_24 (hB : exB K = true) (hW : BaseC K 24) (gW : mg "WorkError" = some (.ref 24)) (KI : K.In h) (G : h.Ns mainGlobals mg) (st : ∀ d ∈ inis, ∃ fd, Stands K d fd) : ErrC P w K mg base "InvalidCost" 500 "given" := by
  obtain ⟨g, c1, c2, c3⟩ := exB_at hB (q := ("InvalidCost", 500, 497, some "given")) (List.mem_of_getElem? (i := 24) rfl)
  exact errC_mk (d := ⟨497, "__init__", "InvalidCost.__init__", defArgs (inClass (top 26) 0), defBody (inClass (top 26) 0), defScope (inClass (top 26) 0)⟩) c1 c2 c3 (gloB_ok KI G g) (st _ (List.mem_of_getElem? (i := 24) rfl)) rfl rfl rfl (by decide) rfl hW gW
theorem es_25 (hB : exB K = true) (hW : BaseC K 24) (gW : mg "WorkError" = some (.ref 24)) (KI : K.In h) (G : h.Ns mainGlobals mg) (st : ∀ d ∈ inis, ∃ fd, Stands K d fd) : ErrC P w K mg base "InvalidAnswers" 519 "given" := by
  obtain ⟨g, c1, c2, c3⟩ := exB_at hB (q := ("InvalidAnswers", 519, 516, some "given")) (List.mem_of_getElem? (i := 25) rfl)
  exact errC_mk (d := ⟨516, "__init__", "InvalidAnswers.__init__", defArgs (inClass (top 27) 0), defBody (inClass (top 27) 0), defScope (inClass (top 27) 0)⟩) c1 c2 c3 (gloB_ok KI G g) (st _ (List.mem_of_getElem? (i := 25) rfl)) rfl rfl rfl (by decide) rfl hW gW
theorem es_26 (hB : exB K = true) (hW : BaseC K 24) (gW : mg "WorkError" = some (.ref 24)) (KI : K.In h) (G : h.Ns mainGlobals mg) (st : ∀ d ∈ inis, ∃ fd, Stands K d fd) : ErrC P w K mg base "InvalidList" 538 "given" := by
  obtain ⟨g, c1, c2, c3⟩ := exB_at hB (q := ("InvalidList", 538, 535, some "given")) (List.mem_of_getElem? (i := 26) rfl)
  exact errC_mk (d := ⟨535, "__init__", "InvalidList.__init__", defArgs (inClass (top 28) 0), defBody (inClass (top 28) 0), defScope (inClass (top 28) 0)⟩) c1 c2 c3 (gloB_ok KI G g) (st _ (List.mem_of_getElem? (i := 26) rfl)) rfl rfl rfl (by decide) rfl hW gW
theorem es_27 (hB : exB K = true) (hW : BaseC K 24) (gW : mg "WorkError" = some (.ref 24)) (KI : K.In h) (G : h.Ns mainGlobals mg) (st : ∀ d ∈ inis, ∃ fd, Stands K d fd) : ErrC P w K mg base "InvalidOffers" 557 "given" := by
  obtain ⟨g, c1, c2, c3⟩ := exB_at hB (q := ("InvalidOffers", 557, 554, some "given")) (List.mem_of_getElem? (i := 27) rfl)
  exact errC_mk (d := ⟨554, "__init__", "InvalidOffers.__init__", defArgs (inClass (top 29) 0), defBody (inClass (top 29) 0), defScope (inClass (top 29) 0)⟩) c1 c2 c3 (gloB_ok KI G g) (st _ (List.mem_of_getElem? (i := 27) rfl)) rfl rfl rfl (by decide) rfl hW gW
theorem es_28 (hB : exB K = true) (hW : BaseC K 24) (gW : mg "WorkError" = some (.ref 24)) (KI : K.In h) (G : h.Ns mainGlobals mg) (st : ∀ d ∈ inis, ∃ fd, Stands K d fd) : ErrC P w K mg base "InvalidPurse" 576 "given" := by
  obtain ⟨g, c1, c2, c3⟩ := exB_at hB (q := ("InvalidPurse", 576, 573, some "given")) (List.mem_of_getElem? (i := 28) rfl)
  exact errC_mk (d := ⟨573, "__init__", "InvalidPurse.__init__", defArgs (inClass (top 30) 0), defBody (inClass (top 30) 0), defScope (inClass (top 30) 0)⟩) c1 c2 c3 (gloB_ok KI G g) (st _ (List.mem_of_getElem? (i := 28) rfl)) rfl rfl rfl (by decide) rfl hW gW
theorem es_29 (hB : exB K = true) (hW : BaseC K 24) (gW : mg "WorkError" = some (.ref 24)) (KI : K.In h) (G : h.Ns mainGlobals mg) (st : ∀ d ∈ inis, ∃ fd, Stands K d fd) : ErrC P w K mg base "InvalidAmount" 595 "given" := by
  obtain ⟨g, c1, c2, c3⟩ := exB_at hB (q := ("InvalidAmount", 595, 592, some "given")) (List.mem_of_getElem? (i := 29) rfl)
  exact errC_mk (d := ⟨592, "__init__", "InvalidAmount.__init__", defArgs (inClass (top 31) 0), defBody (inClass (top 31) 0), defScope (inClass (top 31) 0)⟩) c1 c2 c3 (gloB_ok KI G g) (st _ (List.mem_of_getElem? (i := 29) rfl)) rfl rfl rfl (by decide) rfl hW gW
theorem es_30 (hB : exB K = true) (hW : BaseC K 24) (gW : mg "WorkError" = some (.ref 24)) (KI : K.In h) (G : h.Ns mainGlobals mg) (st : ∀ d ∈ inis, ∃ fd, Stands K d fd) : ErrC P w K mg base "InvalidName" 614 "given" := by
  obtain ⟨g, c1, c2, c3⟩ := exB_at hB (q := ("InvalidName", 614, 611, some "given")) (List.mem_of_getElem? (i := 30) rfl)
  exact errC_mk (d := ⟨611, "__init__", "InvalidName.__init__", defArgs (inClass (top 32) 0), defBody (inClass (top 32) 0), defScope (inClass (top 32) 0)⟩) c1 c2 c3 (gloB_ok KI G g) (st _ (List.mem_of_getElem? (i := 30) rfl)) rfl rfl rfl (by decide) rfl hW gW
theorem es_31 (hB : exB K = true) (hW : BaseC K 24) (gW : mg "WorkError" = some (.ref 24)) (KI : K.In h) (G : h.Ns mainGlobals mg) (st : ∀ d ∈ inis, ∃ fd, Stands K d fd) : ErrC P w K mg base "InvalidNames" 633 "given" := by
  obtain ⟨g, c1, c2, c3⟩ := exB_at hB (q := ("InvalidNames", 633, 630, some "given")) (List.mem_of_getElem? (i := 31) rfl)
  exact errC_mk (d := ⟨630, "__init__", "InvalidNames.__init__", defArgs (inClass (top 33) 0), defBody (inClass (top 33) 0), defScope (inClass (top 33) 0)⟩) c1 c2 c3 (gloB_ok KI G g) (st _ (List.mem_of_getElem? (i := 31) rfl)) rfl rfl rfl (by decide) rfl hW gW
theorem es_32 (hB : exB K = true) (hW : BaseC K 24) (gW : mg "WorkError" = some (.ref 24)) (KI : K.In h) (G : h.Ns mainGlobals mg) (st : ∀ d ∈ inis, ∃ fd, Stands K d fd) : ErrC P w K mg base "InvalidLine" 652 "given" := by
  obtain ⟨g, c1, c2, c3⟩ := exB_at hB (q := ("InvalidLine", 652, 649, some "given")) (List.mem_of_getElem? (i := 32) rfl)
  exact errC_mk (d := ⟨649, "__init__", "InvalidLine.__init__", defArgs (inClass (top 34) 0), defBody (inClass (top 34) 0), defScope (inClass (top 34) 0)⟩) c1 c2 c3 (gloB_ok KI G g) (st _ (List.mem_of_getElem? (i := 32) rfl)) rfl rfl rfl (by decide) rfl hW gW
theorem es_33 (hB : exB K = true) (hW : BaseC K 24) (gW : mg "WorkError" = some (.ref 24)) (KI : K.In h) (G : h.Ns mainGlobals mg) (st : ∀ d ∈ inis, ∃ fd, Stands K d fd) : ErrC P w K mg base "InvalidFactor" 671 "given" := by
  obtain ⟨g, c1, c2, c3⟩ := exB_at hB (q := ("InvalidFactor", 671, 668, some "given")) (List.mem_of_getElem? (i := 33) rfl)
  exact errC_mk (d := ⟨668, "__init__", "InvalidFactor.__init__", defArgs (inClass (top 35) 0), defBody (inClass (top 35) 0), defScope (inClass (top 35) 0)⟩) c1 c2 c3 (gloB_ok KI G g) (st _ (List.mem_of_getElem? (i := 33) rfl)) rfl rfl rfl (by decide) rfl hW gW
theorem es_34 (hB : exB K = true) (hW : BaseC K 24) (gW : mg "WorkError" = some (.ref 24)) (KI : K.In h) (G : h.Ns mainGlobals mg) (st : ∀ d ∈ inis, ∃ fd, Stands K d fd) : ErrC P w K mg base "InvalidWays" 861 "given" := by
  obtain ⟨g, c1, c2, c3⟩ := exB_at hB (q := ("InvalidWays", 861, 858, some "given")) (List.mem_of_getElem? (i := 34) rfl)
  exact errC_mk (d := ⟨858, "__init__", "InvalidWays.__init__", defArgs (inClass (top 45) 0), defBody (inClass (top 45) 0), defScope (inClass (top 45) 0)⟩) c1 c2 c3 (gloB_ok KI G g) (st _ (List.mem_of_getElem? (i := 34) rfl)) rfl rfl rfl (by decide) rfl hW gW
theorem es_35 (hB : exB K = true) (hW : BaseC K 24) (gW : mg "WorkError" = some (.ref 24)) (KI : K.In h) (G : h.Ns mainGlobals mg) (st : ∀ d ∈ inis, ∃ fd, Stands K d fd) : ErrC P w K mg base "InvalidSteps" 880 "given" := by
  obtain ⟨g, c1, c2, c3⟩ := exB_at hB (q := ("InvalidSteps", 880, 877, some "given")) (List.mem_of_getElem? (i := 35) rfl)
  exact errC_mk (d := ⟨877, "__init__", "InvalidSteps.__init__", defArgs (inClass (top 46) 0), defBody (inClass (top 46) 0), defScope (inClass (top 46) 0)⟩) c1 c2 c3 (gloB_ok KI G g) (st _ (List.mem_of_getElem? (i := 35) rfl)) rfl rfl rfl (by decide) rfl hW gW
theorem es_36 (hB : exB K = true) (hW : BaseC K 24) (gW : mg "WorkError" = some (.ref 24)) (KI : K.In h) (G : h.Ns mainGlobals mg) (st : ∀ d ∈ inis, ∃ fd, Stands K d fd) : ErrC P w K mg base "InvalidJoint" 899 "given" := by
  obtain ⟨g, c1, c2, c3⟩ := exB_at hB (q := ("InvalidJoint", 899, 896, some "given")) (List.mem_of_getElem? (i := 36) rfl)
  exact errC_mk (d := ⟨896, "__init__", "InvalidJoint.__init__", defArgs (inClass (top 47) 0), defBody (inClass (top 47) 0), defScope (inClass (top 47) 0)⟩) c1 c2 c3 (gloB_ok KI G g) (st _ (List.mem_of_getElem? (i := 36) rfl)) rfl rfl rfl (by decide) rfl hW gW
theorem es_37 (hB : exB K = true) (hW : BaseC K 24) (gW : mg "WorkError" = some (.ref 24)) (KI : K.In h) (G : h.Ns mainGlobals mg) (st : ∀ d ∈ inis, ∃ fd, Stands K d fd) : ErrC P w K mg base "InvalidCourse" 918 "given" := by
  obtain ⟨g, c1, c2, c3⟩ := exB_at hB (q := ("InvalidCourse", 918, 915, some "given")) (List.mem_of_getElem? (i := 37) rfl)
  exact errC_mk (d := ⟨915, "__init__", "InvalidCourse.__init__", defArgs (inClass (top 48) 0), defBody (inClass (top 48) 0), defScope (inClass (top 48) 0)⟩) c1 c2 c3 (gloB_ok KI G g) (st _ (List.mem_of_getElem? (i := 37) rfl)) rfl rfl rfl (by decide) rfl hW gW
theorem es_38 (hB : exB K = true) (hW : BaseC K 24) (gW : mg "WorkError" = some (.ref 24)) (KI : K.In h) (G : h.Ns mainGlobals mg) (st : ∀ d ∈ inis, ∃ fd, Stands K d fd) : ErrC P w K mg base "InvalidToken" 937 "given" := by
  obtain ⟨g, c1, c2, c3⟩ := exB_at hB (q := ("InvalidToken", 937, 934, some "given")) (List.mem_of_getElem? (i := 38) rfl)
  exact errC_mk (d := ⟨934, "__init__", "InvalidToken.__init__", defArgs (inClass (top 49) 0), defBody (inClass (top 49) 0), defScope (inClass (top 49) 0)⟩) c1 c2 c3 (gloB_ok KI G g) (st _ (List.mem_of_getElem? (i := 38) rfl)) rfl rfl rfl (by decide) rfl hW gW
theorem es_39 (hB : exB K = true) (hW : BaseC K 24) (gW : mg "WorkError" = some (.ref 24)) (KI : K.In h) (G : h.Ns mainGlobals mg) (st : ∀ d ∈ inis, ∃ fd, Stands K d fd) : ErrC P w K mg base "InvalidGroups" 956 "given" := by
  obtain ⟨g, c1, c2, c3⟩ := exB_at hB (q := ("InvalidGroups", 956, 953, some "given")) (List.mem_of_getElem? (i := 39) rfl)
  exact errC_mk (d := ⟨953, "__init__", "InvalidGroups.__init__", defArgs (inClass (top 50) 0), defBody (inClass (top 50) 0), defScope (inClass (top 50) 0)⟩) c1 c2 c3 (gloB_ok KI G g) (st _ (List.mem_of_getElem? (i := 39) rfl)) rfl rfl rfl (by decide) rfl hW gW
theorem es_40 (hB : exB K = true) (hW : BaseC K 24) (gW : mg "WorkError" = some (.ref 24)) (KI : K.In h) (G : h.Ns mainGlobals mg) (st : ∀ d ∈ inis, ∃ fd, Stands K d fd) : ErrC P w K mg base "InvalidTests" 975 "given" := by
  obtain ⟨g, c1, c2, c3⟩ := exB_at hB (q := ("InvalidTests", 975, 972, some "given")) (List.mem_of_getElem? (i := 40) rfl)
  exact errC_mk (d := ⟨972, "__init__", "InvalidTests.__init__", defArgs (inClass (top 51) 0), defBody (inClass (top 51) 0), defScope (inClass (top 51) 0)⟩) c1 c2 c3 (gloB_ok KI G g) (st _ (List.mem_of_getElem? (i := 40) rfl)) rfl rfl rfl (by decide) rfl hW gW
theorem es_41 (hB : exB K = true) (hW : BaseC K 24) (gW : mg "WorkError" = some (.ref 24)) (KI : K.In h) (G : h.Ns mainGlobals mg) (st : ∀ d ∈ inis, ∃ fd, Stands K d fd) : ErrC P w K mg base "InvalidNumbers" 994 "given" := by
  obtain ⟨g, c1, c2, c3⟩ := exB_at hB (q := ("InvalidNumbers", 994, 991, some "given")) (List.mem_of_getElem? (i := 41) rfl)
  exact errC_mk (d := ⟨991, "__init__", "InvalidNumbers.__init__", defArgs (inClass (top 52) 0), defBody (inClass (top 52) 0), defScope (inClass (top 52) 0)⟩) c1 c2 c3 (gloB_ok KI G g) (st _ (List.mem_of_getElem? (i := 41) rfl)) rfl rfl rfl (by decide) rfl hW gW
theorem es_42 (hB : exB K = true) (hW : BaseC K 24) (gW : mg "WorkError" = some (.ref 24)) (KI : K.In h) (G : h.Ns mainGlobals mg) (st : ∀ d ∈ inis, ∃ fd, Stands K d fd) : ErrC P w K mg base "TooMany" 690 "count" := by
  obtain ⟨g, c1, c2, c3⟩ := exB_at hB (q := ("TooMany", 690, 687, some "count")) (List.mem_of_getElem? (i := 42) rfl)
  exact errC_mk (d := ⟨687, "__init__", "TooMany.__init__", defArgs (inClass (top 36) 0), defBody (inClass (top 36) 0), defScope (inClass (top 36) 0)⟩) c1 c2 c3 (gloB_ok KI G g) (st _ (List.mem_of_getElem? (i := 42) rfl)) rfl rfl rfl (by decide) rfl hW gW
theorem es_43 (hB : exB K = true) (hW : BaseC K 24) (gW : mg "WorkError" = some (.ref 24)) (KI : K.In h) (G : h.Ns mainGlobals mg) (st : ∀ d ∈ inis, ∃ fd, Stands K d fd) : ErrC P w K mg base "NoProject" 709 "name" := by
  obtain ⟨g, c1, c2, c3⟩ := exB_at hB (q := ("NoProject", 709, 706, some "name")) (List.mem_of_getElem? (i := 43) rfl)
  exact errC_mk (d := ⟨706, "__init__", "NoProject.__init__", defArgs (inClass (top 37) 0), defBody (inClass (top 37) 0), defScope (inClass (top 37) 0)⟩) c1 c2 c3 (gloB_ok KI G g) (st _ (List.mem_of_getElem? (i := 43) rfl)) rfl rfl rfl (by decide) rfl hW gW
theorem es_44 (hB : exB K = true) (hW : BaseC K 24) (gW : mg "WorkError" = some (.ref 24)) (KI : K.In h) (G : h.Ns mainGlobals mg) (st : ∀ d ∈ inis, ∃ fd, Stands K d fd) : ErrC P w K mg base "NoWorks" 728 "name" := by
  obtain ⟨g, c1, c2, c3⟩ := exB_at hB (q := ("NoWorks", 728, 725, some "name")) (List.mem_of_getElem? (i := 44) rfl)
  exact errC_mk (d := ⟨725, "__init__", "NoWorks.__init__", defArgs (inClass (top 38) 0), defBody (inClass (top 38) 0), defScope (inClass (top 38) 0)⟩) c1 c2 c3 (gloB_ok KI G g) (st _ (List.mem_of_getElem? (i := 44) rfl)) rfl rfl rfl (by decide) rfl hW gW
theorem es_45 (hB : exB K = true) (hW : BaseC K 24) (gW : mg "WorkError" = some (.ref 24)) (KI : K.In h) (G : h.Ns mainGlobals mg) (st : ∀ d ∈ inis, ∃ fd, Stands K d fd) : ErrC P w K mg base "Taken" 747 "name" := by
  obtain ⟨g, c1, c2, c3⟩ := exB_at hB (q := ("Taken", 747, 744, some "name")) (List.mem_of_getElem? (i := 45) rfl)
  exact errC_mk (d := ⟨744, "__init__", "Taken.__init__", defArgs (inClass (top 39) 0), defBody (inClass (top 39) 0), defScope (inClass (top 39) 0)⟩) c1 c2 c3 (gloB_ok KI G g) (st _ (List.mem_of_getElem? (i := 45) rfl)) rfl rfl rfl (by decide) rfl hW gW
theorem es_46 (hB : exB K = true) (hW : BaseC K 24) (gW : mg "WorkError" = some (.ref 24)) (KI : K.In h) (G : h.Ns mainGlobals mg) (st : ∀ d ∈ inis, ∃ fd, Stands K d fd) : ErrC P w K mg base "Harmful" 785 "told" := by
  obtain ⟨g, c1, c2, c3⟩ := exB_at hB (q := ("Harmful", 785, 782, some "told")) (List.mem_of_getElem? (i := 46) rfl)
  exact errC_mk (d := ⟨782, "__init__", "Harmful.__init__", defArgs (inClass (top 41) 0), defBody (inClass (top 41) 0), defScope (inClass (top 41) 0)⟩) c1 c2 c3 (gloB_ok KI G g) (st _ (List.mem_of_getElem? (i := 46) rfl)) rfl rfl rfl (by decide) rfl hW gW
theorem es_47 (hB : exB K = true) (hW : BaseC K 24) (gW : mg "WorkError" = some (.ref 24)) (KI : K.In h) (G : h.Ns mainGlobals mg) (st : ∀ d ∈ inis, ∃ fd, Stands K d fd) : ErrC P w K mg base "NotNow" 823 "line" := by
  obtain ⟨g, c1, c2, c3⟩ := exB_at hB (q := ("NotNow", 823, 820, some "line")) (List.mem_of_getElem? (i := 47) rfl)
  exact errC_mk (d := ⟨820, "__init__", "NotNow.__init__", defArgs (inClass (top 43) 0), defBody (inClass (top 43) 0), defScope (inClass (top 43) 0)⟩) c1 c2 c3 (gloB_ok KI G g) (st _ (List.mem_of_getElem? (i := 47) rfl)) rfl rfl rfl (by decide) rfl hW gW
theorem es_48 (hB : exB K = true) (hW : BaseC K 24) (gW : mg "WorkError" = some (.ref 24)) (KI : K.In h) (G : h.Ns mainGlobals mg) (st : ∀ d ∈ inis, ∃ fd, Stands K d fd) : ErrC0 P w K mg base "Full" 766 := by
  obtain ⟨g, c1, c2, c3⟩ := exB_at hB (q := ("Full", 766, 763, none)) (List.mem_of_getElem? (i := 48) rfl)
  exact errC0_mk (d := ⟨763, "__init__", "Full.__init__", defArgs (inClass (top 40) 0), defBody (inClass (top 40) 0), defScope (inClass (top 40) 0)⟩) c1 c2 c3 (gloB_ok KI G g) (st _ (List.mem_of_getElem? (i := 48) rfl)) rfl rfl rfl rfl hW gW
theorem es_49 (hB : exB K = true) (hW : BaseC K 24) (gW : mg "WorkError" = some (.ref 24)) (KI : K.In h) (G : h.Ns mainGlobals mg) (st : ∀ d ∈ inis, ∃ fd, Stands K d fd) : ErrC0 P w K mg base "NothingToUndo" 804 := by
  obtain ⟨g, c1, c2, c3⟩ := exB_at hB (q := ("NothingToUndo", 804, 801, none)) (List.mem_of_getElem? (i := 49) rfl)
  exact errC0_mk (d := ⟨801, "__init__", "NothingToUndo.__init__", defArgs (inClass (top 42) 0), defBody (inClass (top 42) 0), defScope (inClass (top 42) 0)⟩) c1 c2 c3 (gloB_ok KI G g) (st _ (List.mem_of_getElem? (i := 49) rfl)) rfl rfl rfl rfl hW gW
theorem es_50 (hB : exB K = true) (hW : BaseC K 24) (gW : mg "WorkError" = some (.ref 24)) (KI : K.In h) (G : h.Ns mainGlobals mg) (st : ∀ d ∈ inis, ∃ fd, Stands K d fd) : ErrC0 P w K mg base "Unlike" 842 := by
  obtain ⟨g, c1, c2, c3⟩ := exB_at hB (q := ("Unlike", 842, 839, none)) (List.mem_of_getElem? (i := 50) rfl)
  exact errC0_mk (d := ⟨839, "__init__", "Unlike.__init__", defArgs (inClass (top 44) 0), defBody (inClass (top 44) 0), defScope (inClass (top 44) 0)⟩) c1 c2 c3 (gloB_ok KI G g) (st _ (List.mem_of_getElem? (i := 50) rfl)) rfl rfl rfl rfl hW gW

theorem es_mk (hB : exB K = true) (hW : BaseC K 24) (gW : mg "WorkError" = some (.ref 24)) (KI : K.In h) (G : h.Ns mainGlobals mg) (st : ∀ d ∈ inis, ∃ fd, Stands K d fd) : Es P w K mg base := ⟨es_0 hB hW gW KI G st, es_1 hB hW gW KI G st, es_2 hB hW gW KI G st, es_3 hB hW gW KI G st, es_4 hB hW gW KI G st, es_5 hB hW gW KI G st, es_6 hB hW gW KI G st, es_7 hB hW gW KI G st, es_8 hB hW gW KI G st, es_9 hB hW gW KI G st, es_10 hB hW gW KI G st, es_11 hB hW gW KI G st, es_12 hB hW gW KI G st, es_13 hB hW gW KI G st, es_14 hB hW gW KI G st, es_15 hB hW gW KI G st, es_16 hB hW gW KI G st, es_17 hB hW gW KI G st, es_18 hB hW gW KI G st, es_19 hB hW gW KI G st, es_20 hB hW gW KI G st, es_21 hB hW gW KI G st, es_22 hB hW gW KI G st, es_23 hB hW gW KI G st, es_24 hB hW gW KI G st, es_25 hB hW gW KI G st, es_26 hB hW gW KI G st, es_27 hB hW gW KI G st, es_28 hB hW gW KI G st, es_29 hB hW gW KI G st, es_30 hB hW gW KI G st, es_31 hB hW gW KI G st, es_32 hB hW gW KI G st, es_33 hB hW gW KI G st, es_34 hB hW gW KI G st, es_35 hB hW gW KI G st, es_36 hB hW gW KI G st, es_37 hB hW gW KI G st, es_38 hB hW gW KI G st, es_39 hB hW gW KI G st, es_40 hB hW gW KI G st, es_41 hB hW gW KI G st, es_42 hB hW gW KI G st, es_43 hB hW gW KI G st, es_44 hB hW gW KI G st, es_45 hB hW gW KI G st, es_46 hB hW gW KI G st, es_47 hB hW gW KI G st, es_48 hB hW gW KI G st, es_49 hB hW gW KI G st, es_50 hB hW gW KI G st⟩
end
end K00
namespace K00
open PySem PySem.Spec PyProof.Rows L2 WkH WkE WkG WkR WkS WkP
section
variable {P : Program} {w : World} {K : PySem.W.Frag} {mg : Str → Option Value} {base : Heap}
theorem Same.free' {H H' : Hp} (e : Same H H') {b : Addr} (h : H' b = none) : H b = none := by
  cases z : H b with
  | none => rfl
  | some o =>
    rw [e _ _ z] at h
    cases h
theorem sc_kinds : FnScope ["error", "found"] ["error"] d_kinds.sco := ⟨rfl, rfl, rfl, by decide +kernel, rfl, by decide +kernel, by decide +kernel⟩
theorem ok_kinds {fd : FuncData} (F : Stands K d_kinds fd) (T : Bl mg) (Es : Es P w K mg base) (KK : Kinds K) : FnOk P w K mg base CX0 1 d_kinds.adr fd ["error"] spKinds := by
  refine FunD.ok F sc_kinds (fun vs H Q E h => ?_) (fun cdv A outer s H vs Q E hr h => ⟨_, PSs.nox (pss_cons (ps_set (i := 1) sc_kinds.nd rfl (by first | exact Or.inl rfl | exact Or.inr rfl) (pe_lst pa_nil))
  (pss_cons (ps_set (i := 1) sc_kinds.nd rfl (by first | exact Or.inl rfl | exact Or.inr rfl) (pe_op op_cat (pv 1) (pe_lst (pa_cons (pe_callB call_isiW rfl T.isinstance WkB.b_isinstance (pa_cons (pv 0) (pa_cons (pe_glob (v := .ref 44) rfl (Es.e0).g rfl) pa_nil))) (pa_cons (pe_callB call_isiW rfl T.isinstance WkB.b_isinstance (pa_cons (pv 0) (pa_cons (pe_glob (v := .ref 63) rfl (Es.e1).g rfl) pa_nil))) (pa_cons (pe_callB call_isiW rfl T.isinstance WkB.b_isinstance (pa_cons (pv 0) (pa_cons (pe_glob (v := .ref 82) rfl (Es.e2).g rfl) pa_nil))) pa_nil))))))
  (pss_cons (ps_set (i := 1) sc_kinds.nd rfl (by first | exact Or.inl rfl | exact Or.inr rfl) (pe_op op_cat (pv 1) (pe_lst (pa_cons (pe_callB call_isiW rfl T.isinstance WkB.b_isinstance (pa_cons (pv 0) (pa_cons (pe_glob (v := .ref 101) rfl (Es.e3).g rfl) pa_nil))) (pa_cons (pe_callB call_isiW rfl T.isinstance WkB.b_isinstance (pa_cons (pv 0) (pa_cons (pe_glob (v := .ref 120) rfl (Es.e4).g rfl) pa_nil))) (pa_cons (pe_callB call_isiW rfl T.isinstance WkB.b_isinstance (pa_cons (pv 0) (pa_cons (pe_glob (v := .ref 139) rfl (Es.e5).g rfl) pa_nil))) pa_nil))))))
  (pss_cons (ps_set (i := 1) sc_kinds.nd rfl (by first | exact Or.inl rfl | exact Or.inr rfl) (pe_op op_cat (pv 1) (pe_lst (pa_cons (pe_callB call_isiW rfl T.isinstance WkB.b_isinstance (pa_cons (pv 0) (pa_cons (pe_glob (v := .ref 158) rfl (Es.e6).g rfl) pa_nil))) (pa_cons (pe_callB call_isiW rfl T.isinstance WkB.b_isinstance (pa_cons (pv 0) (pa_cons (pe_glob (v := .ref 177) rfl (Es.e7).g rfl) pa_nil))) (pa_cons (pe_callB call_isiW rfl T.isinstance WkB.b_isinstance (pa_cons (pv 0) (pa_cons (pe_glob (v := .ref 196) rfl (Es.e8).g rfl) pa_nil))) pa_nil))))))
  (pss_cons (ps_set (i := 1) sc_kinds.nd rfl (by first | exact Or.inl rfl | exact Or.inr rfl) (pe_op op_cat (pv 1) (pe_lst (pa_cons (pe_callB call_isiW rfl T.isinstance WkB.b_isinstance (pa_cons (pv 0) (pa_cons (pe_glob (v := .ref 215) rfl (Es.e9).g rfl) pa_nil))) (pa_cons (pe_callB call_isiW rfl T.isinstance WkB.b_isinstance (pa_cons (pv 0) (pa_cons (pe_glob (v := .ref 234) rfl (Es.e10).g rfl) pa_nil))) (pa_cons (pe_callB call_isiW rfl T.isinstance WkB.b_isinstance (pa_cons (pv 0) (pa_cons (pe_glob (v := .ref 253) rfl (Es.e11).g rfl) pa_nil))) pa_nil))))))
  (pss_cons (ps_set (i := 1) sc_kinds.nd rfl (by first | exact Or.inl rfl | exact Or.inr rfl) (pe_op op_cat (pv 1) (pe_lst (pa_cons (pe_callB call_isiW rfl T.isinstance WkB.b_isinstance (pa_cons (pv 0) (pa_cons (pe_glob (v := .ref 272) rfl (Es.e12).g rfl) pa_nil))) (pa_cons (pe_callB call_isiW rfl T.isinstance WkB.b_isinstance (pa_cons (pv 0) (pa_cons (pe_glob (v := .ref 291) rfl (Es.e13).g rfl) pa_nil))) (pa_cons (pe_callB call_isiW rfl T.isinstance WkB.b_isinstance (pa_cons (pv 0) (pa_cons (pe_glob (v := .ref 310) rfl (Es.e14).g rfl) pa_nil))) pa_nil))))))
  (pss_cons (ps_set (i := 1) sc_kinds.nd rfl (by first | exact Or.inl rfl | exact Or.inr rfl) (pe_op op_cat (pv 1) (pe_lst (pa_cons (pe_callB call_isiW rfl T.isinstance WkB.b_isinstance (pa_cons (pv 0) (pa_cons (pe_glob (v := .ref 329) rfl (Es.e15).g rfl) pa_nil))) (pa_cons (pe_callB call_isiW rfl T.isinstance WkB.b_isinstance (pa_cons (pv 0) (pa_cons (pe_glob (v := .ref 348) rfl (Es.e16).g rfl) pa_nil))) (pa_cons (pe_callB call_isiW rfl T.isinstance WkB.b_isinstance (pa_cons (pv 0) (pa_cons (pe_glob (v := .ref 367) rfl (Es.e17).g rfl) pa_nil))) pa_nil))))))
  (pss_cons (ps_set (i := 1) sc_kinds.nd rfl (by first | exact Or.inl rfl | exact Or.inr rfl) (pe_op op_cat (pv 1) (pe_lst (pa_cons (pe_callB call_isiW rfl T.isinstance WkB.b_isinstance (pa_cons (pv 0) (pa_cons (pe_glob (v := .ref 386) rfl (Es.e18).g rfl) pa_nil))) (pa_cons (pe_callB call_isiW rfl T.isinstance WkB.b_isinstance (pa_cons (pv 0) (pa_cons (pe_glob (v := .ref 405) rfl (Es.e19).g rfl) pa_nil))) (pa_cons (pe_callB call_isiW rfl T.isinstance WkB.b_isinstance (pa_cons (pv 0) (pa_cons (pe_glob (v := .ref 424) rfl (Es.e20).g rfl) pa_nil))) pa_nil))))))
  (pss_cons (ps_set (i := 1) sc_kinds.nd rfl (by first | exact Or.inl rfl | exact Or.inr rfl) (pe_op op_cat (pv 1) (pe_lst (pa_cons (pe_callB call_isiW rfl T.isinstance WkB.b_isinstance (pa_cons (pv 0) (pa_cons (pe_glob (v := .ref 443) rfl (Es.e21).g rfl) pa_nil))) (pa_cons (pe_callB call_isiW rfl T.isinstance WkB.b_isinstance (pa_cons (pv 0) (pa_cons (pe_glob (v := .ref 462) rfl (Es.e22).g rfl) pa_nil))) (pa_cons (pe_callB call_isiW rfl T.isinstance WkB.b_isinstance (pa_cons (pv 0) (pa_cons (pe_glob (v := .ref 481) rfl (Es.e23).g rfl) pa_nil))) pa_nil))))))
  (pss_cons (ps_set (i := 1) sc_kinds.nd rfl (by first | exact Or.inl rfl | exact Or.inr rfl) (pe_op op_cat (pv 1) (pe_lst (pa_cons (pe_callB call_isiW rfl T.isinstance WkB.b_isinstance (pa_cons (pv 0) (pa_cons (pe_glob (v := .ref 500) rfl (Es.e24).g rfl) pa_nil))) (pa_cons (pe_callB call_isiW rfl T.isinstance WkB.b_isinstance (pa_cons (pv 0) (pa_cons (pe_glob (v := .ref 519) rfl (Es.e25).g rfl) pa_nil))) (pa_cons (pe_callB call_isiW rfl T.isinstance WkB.b_isinstance (pa_cons (pv 0) (pa_cons (pe_glob (v := .ref 538) rfl (Es.e26).g rfl) pa_nil))) pa_nil))))))
  (pss_cons (ps_set (i := 1) sc_kinds.nd rfl (by first | exact Or.inl rfl | exact Or.inr rfl) (pe_op op_cat (pv 1) (pe_lst (pa_cons (pe_callB call_isiW rfl T.isinstance WkB.b_isinstance (pa_cons (pv 0) (pa_cons (pe_glob (v := .ref 557) rfl (Es.e27).g rfl) pa_nil))) (pa_cons (pe_callB call_isiW rfl T.isinstance WkB.b_isinstance (pa_cons (pv 0) (pa_cons (pe_glob (v := .ref 576) rfl (Es.e28).g rfl) pa_nil))) (pa_cons (pe_callB call_isiW rfl T.isinstance WkB.b_isinstance (pa_cons (pv 0) (pa_cons (pe_glob (v := .ref 595) rfl (Es.e29).g rfl) pa_nil))) pa_nil))))))
  (pss_cons (ps_set (i := 1) sc_kinds.nd rfl (by first | exact Or.inl rfl | exact Or.inr rfl) (pe_op op_cat (pv 1) (pe_lst (pa_cons (pe_callB call_isiW rfl T.isinstance WkB.b_isinstance (pa_cons (pv 0) (pa_cons (pe_glob (v := .ref 614) rfl (Es.e30).g rfl) pa_nil))) (pa_cons (pe_callB call_isiW rfl T.isinstance WkB.b_isinstance (pa_cons (pv 0) (pa_cons (pe_glob (v := .ref 633) rfl (Es.e31).g rfl) pa_nil))) (pa_cons (pe_callB call_isiW rfl T.isinstance WkB.b_isinstance (pa_cons (pv 0) (pa_cons (pe_glob (v := .ref 652) rfl (Es.e32).g rfl) pa_nil))) pa_nil))))))
  (pss_cons (ps_set (i := 1) sc_kinds.nd rfl (by first | exact Or.inl rfl | exact Or.inr rfl) (pe_op op_cat (pv 1) (pe_lst (pa_cons (pe_callB call_isiW rfl T.isinstance WkB.b_isinstance (pa_cons (pv 0) (pa_cons (pe_glob (v := .ref 671) rfl (Es.e33).g rfl) pa_nil))) (pa_cons (pe_callB call_isiW rfl T.isinstance WkB.b_isinstance (pa_cons (pv 0) (pa_cons (pe_glob (v := .ref 861) rfl (Es.e34).g rfl) pa_nil))) (pa_cons (pe_callB call_isiW rfl T.isinstance WkB.b_isinstance (pa_cons (pv 0) (pa_cons (pe_glob (v := .ref 880) rfl (Es.e35).g rfl) pa_nil))) pa_nil))))))
  (pss_cons (ps_set (i := 1) sc_kinds.nd rfl (by first | exact Or.inl rfl | exact Or.inr rfl) (pe_op op_cat (pv 1) (pe_lst (pa_cons (pe_callB call_isiW rfl T.isinstance WkB.b_isinstance (pa_cons (pv 0) (pa_cons (pe_glob (v := .ref 899) rfl (Es.e36).g rfl) pa_nil))) (pa_cons (pe_callB call_isiW rfl T.isinstance WkB.b_isinstance (pa_cons (pv 0) (pa_cons (pe_glob (v := .ref 918) rfl (Es.e37).g rfl) pa_nil))) (pa_cons (pe_callB call_isiW rfl T.isinstance WkB.b_isinstance (pa_cons (pv 0) (pa_cons (pe_glob (v := .ref 937) rfl (Es.e38).g rfl) pa_nil))) pa_nil))))))
  (pss_cons (ps_set (i := 1) sc_kinds.nd rfl (by first | exact Or.inl rfl | exact Or.inr rfl) (pe_op op_cat (pv 1) (pe_lst (pa_cons (pe_callB call_isiW rfl T.isinstance WkB.b_isinstance (pa_cons (pv 0) (pa_cons (pe_glob (v := .ref 956) rfl (Es.e39).g rfl) pa_nil))) (pa_cons (pe_callB call_isiW rfl T.isinstance WkB.b_isinstance (pa_cons (pv 0) (pa_cons (pe_glob (v := .ref 975) rfl (Es.e40).g rfl) pa_nil))) (pa_cons (pe_callB call_isiW rfl T.isinstance WkB.b_isinstance (pa_cons (pv 0) (pa_cons (pe_glob (v := .ref 994) rfl (Es.e41).g rfl) pa_nil))) pa_nil))))))
  (pss_cons (ps_set (i := 1) sc_kinds.nd rfl (by first | exact Or.inl rfl | exact Or.inr rfl) (pe_op op_cat (pv 1) (pe_lst (pa_cons (pe_callB call_isiW rfl T.isinstance WkB.b_isinstance (pa_cons (pv 0) (pa_cons (pe_glob (v := .ref 690) rfl (Es.e42).g rfl) pa_nil))) (pa_cons (pe_callB call_isiW rfl T.isinstance WkB.b_isinstance (pa_cons (pv 0) (pa_cons (pe_glob (v := .ref 709) rfl (Es.e43).g rfl) pa_nil))) (pa_cons (pe_callB call_isiW rfl T.isinstance WkB.b_isinstance (pa_cons (pv 0) (pa_cons (pe_glob (v := .ref 728) rfl (Es.e44).g rfl) pa_nil))) pa_nil))))))
  (pss_cons (ps_set (i := 1) sc_kinds.nd rfl (by first | exact Or.inl rfl | exact Or.inr rfl) (pe_op op_cat (pv 1) (pe_lst (pa_cons (pe_callB call_isiW rfl T.isinstance WkB.b_isinstance (pa_cons (pv 0) (pa_cons (pe_glob (v := .ref 747) rfl (Es.e45).g rfl) pa_nil))) (pa_cons (pe_callB call_isiW rfl T.isinstance WkB.b_isinstance (pa_cons (pv 0) (pa_cons (pe_glob (v := .ref 785) rfl (Es.e46).g rfl) pa_nil))) (pa_cons (pe_callB call_isiW rfl T.isinstance WkB.b_isinstance (pa_cons (pv 0) (pa_cons (pe_glob (v := .ref 823) rfl (Es.e47).g rfl) pa_nil))) pa_nil))))))
  (pss_cons (ps_set (i := 1) sc_kinds.nd rfl (by first | exact Or.inl rfl | exact Or.inr rfl) (pe_op op_cat (pv 1) (pe_lst (pa_cons (pe_callB call_isiW rfl T.isinstance WkB.b_isinstance (pa_cons (pv 0) (pa_cons (pe_glob (v := .ref 766) rfl (Es.e48).g rfl) pa_nil))) (pa_cons (pe_callB call_isiW rfl T.isinstance WkB.b_isinstance (pa_cons (pv 0) (pa_cons (pe_glob (v := .ref 804) rfl (Es.e49).g rfl) pa_nil))) (pa_cons (pe_callB call_isiW rfl T.isinstance WkB.b_isinstance (pa_cons (pv 0) (pa_cons (pe_glob (v := .ref 842) rfl (Es.e50).g rfl) pa_nil))) pa_nil))))))
  (pss_one (ps_ret (pv 1))))))))))))))))))))), ?_⟩)
  · obtain ⟨a, k, rfl, _⟩ := h
    rfl
  · obtain ⟨a, k, rfl, hk, ha, hQ⟩ := h
    try dsimp only [cxOf, Cx.nox, Cx.wish]
    with_reducible refine e_seq ?_
    with_reducible refine e_asg ?_
    with_reducible refine e_lst ?_
    with_reducible refine e_nil ?_
    refine ⟨sz 0, fun p np => ?_⟩
    with_reducible refine e_gName ?_
    have S0 : Same H (upd H p (.lst [])) := fun b o e => by
      rw [upd_ne (ne_of_none e np)]
      exact e
    have a0 := (fun e h => ErrAt.mono e h) S0 ha
    have h0 : upd H p (.lst []) p = some (.lst (kindsUp (3 * 0) k)) := upd_same
    with_reducible refine e_seq ?_
    refine kinds_step (W := ErrAt) (fun e h => ErrAt.mono e h) KK 0 (by decide) hk a0 h0 fun l1 H1 n1 s1 h1 => ?_
    have S1 := S0.trans s1
    have a1 := (fun e h => ErrAt.mono e h) s1 a0
    with_reducible refine e_seq ?_
    refine kinds_step (W := ErrAt) (fun e h => ErrAt.mono e h) KK 1 (by decide) hk a1 h1 fun l2 H2 n2 s2 h2 => ?_
    have S2 := S1.trans s2
    have a2 := (fun e h => ErrAt.mono e h) s2 a1
    with_reducible refine e_seq ?_
    refine kinds_step (W := ErrAt) (fun e h => ErrAt.mono e h) KK 2 (by decide) hk a2 h2 fun l3 H3 n3 s3 h3 => ?_
    have S3 := S2.trans s3
    have a3 := (fun e h => ErrAt.mono e h) s3 a2
    with_reducible refine e_seq ?_
    refine kinds_step (W := ErrAt) (fun e h => ErrAt.mono e h) KK 3 (by decide) hk a3 h3 fun l4 H4 n4 s4 h4 => ?_
    have S4 := S3.trans s4
    have a4 := (fun e h => ErrAt.mono e h) s4 a3
    with_reducible refine e_seq ?_
    refine kinds_step (W := ErrAt) (fun e h => ErrAt.mono e h) KK 4 (by decide) hk a4 h4 fun l5 H5 n5 s5 h5 => ?_
    have S5 := S4.trans s5
    have a5 := (fun e h => ErrAt.mono e h) s5 a4
    with_reducible refine e_seq ?_
    refine kinds_step (W := ErrAt) (fun e h => ErrAt.mono e h) KK 5 (by decide) hk a5 h5 fun l6 H6 n6 s6 h6 => ?_
    have S6 := S5.trans s6
    have a6 := (fun e h => ErrAt.mono e h) s6 a5
    with_reducible refine e_seq ?_
    refine kinds_step (W := ErrAt) (fun e h => ErrAt.mono e h) KK 6 (by decide) hk a6 h6 fun l7 H7 n7 s7 h7 => ?_
    have S7 := S6.trans s7
    have a7 := (fun e h => ErrAt.mono e h) s7 a6
    with_reducible refine e_seq ?_
    refine kinds_step (W := ErrAt) (fun e h => ErrAt.mono e h) KK 7 (by decide) hk a7 h7 fun l8 H8 n8 s8 h8 => ?_
    have S8 := S7.trans s8
    have a8 := (fun e h => ErrAt.mono e h) s8 a7
    with_reducible refine e_seq ?_
    refine kinds_step (W := ErrAt) (fun e h => ErrAt.mono e h) KK 8 (by decide) hk a8 h8 fun l9 H9 n9 s9 h9 => ?_
    have S9 := S8.trans s9
    have a9 := (fun e h => ErrAt.mono e h) s9 a8
    with_reducible refine e_seq ?_
    refine kinds_step (W := ErrAt) (fun e h => ErrAt.mono e h) KK 9 (by decide) hk a9 h9 fun l10 H10 n10 s10 h10 => ?_
    have S10 := S9.trans s10
    have a10 := (fun e h => ErrAt.mono e h) s10 a9
    with_reducible refine e_seq ?_
    refine kinds_step (W := ErrAt) (fun e h => ErrAt.mono e h) KK 10 (by decide) hk a10 h10 fun l11 H11 n11 s11 h11 => ?_
    have S11 := S10.trans s11
    have a11 := (fun e h => ErrAt.mono e h) s11 a10
    with_reducible refine e_seq ?_
    refine kinds_step (W := ErrAt) (fun e h => ErrAt.mono e h) KK 11 (by decide) hk a11 h11 fun l12 H12 n12 s12 h12 => ?_
    have S12 := S11.trans s12
    have a12 := (fun e h => ErrAt.mono e h) s12 a11
    with_reducible refine e_seq ?_
    refine kinds_step (W := ErrAt) (fun e h => ErrAt.mono e h) KK 12 (by decide) hk a12 h12 fun l13 H13 n13 s13 h13 => ?_
    have S13 := S12.trans s13
    have a13 := (fun e h => ErrAt.mono e h) s13 a12
    with_reducible refine e_seq ?_
    refine kinds_step (W := ErrAt) (fun e h => ErrAt.mono e h) KK 13 (by decide) hk a13 h13 fun l14 H14 n14 s14 h14 => ?_
    have S14 := S13.trans s14
    have a14 := (fun e h => ErrAt.mono e h) s14 a13
    with_reducible refine e_seq ?_
    refine kinds_step (W := ErrAt) (fun e h => ErrAt.mono e h) KK 14 (by decide) hk a14 h14 fun l15 H15 n15 s15 h15 => ?_
    have S15 := S14.trans s15
    have a15 := (fun e h => ErrAt.mono e h) s15 a14
    with_reducible refine e_seq ?_
    refine kinds_step (W := ErrAt) (fun e h => ErrAt.mono e h) KK 15 (by decide) hk a15 h15 fun l16 H16 n16 s16 h16 => ?_
    have S16 := S15.trans s16
    have a16 := (fun e h => ErrAt.mono e h) s16 a15
    with_reducible refine e_seq ?_
    refine kinds_step (W := ErrAt) (fun e h => ErrAt.mono e h) KK 16 (by decide) hk a16 h16 fun l17 H17 n17 s17 h17 => ?_
    have S17 := S16.trans s17
    have a17 := (fun e h => ErrAt.mono e h) s17 a16

    walk_at "go"
    exact hQ l17 _ (Same.free' S16 n17) S17 h17
theorem ok_kindsP {fd : FuncData} (F : Stands K d_kinds fd) (T : Bl mg) (Es : Es P w K mg base) (KK : Kinds K) : FnP P w K mg base 1 d_kinds.adr fd ["error"] spKindsP := by
  refine okP F sc_kinds (fun p vs H Q E h => ?_) (fun cdv A outer s H vs Q q hr h => ⟨_, (pss_cons (ps_set (i := 1) sc_kinds.nd rfl (by first | exact Or.inl rfl | exact Or.inr rfl) (pe_lst pa_nil))
  (pss_cons (ps_set (i := 1) sc_kinds.nd rfl (by first | exact Or.inl rfl | exact Or.inr rfl) (pe_op op_cat (pv 1) (pe_lst (pa_cons (pe_callB (call_isiP (p := q) (List.mem_singleton.mpr rfl)) rfl T.isinstance WkB.b_isinstance (pa_cons (pv 0) (pa_cons (pe_glob (v := .ref 44) rfl (Es.e0).g rfl) pa_nil))) (pa_cons (pe_callB (call_isiP (p := q) (List.mem_singleton.mpr rfl)) rfl T.isinstance WkB.b_isinstance (pa_cons (pv 0) (pa_cons (pe_glob (v := .ref 63) rfl (Es.e1).g rfl) pa_nil))) (pa_cons (pe_callB (call_isiP (p := q) (List.mem_singleton.mpr rfl)) rfl T.isinstance WkB.b_isinstance (pa_cons (pv 0) (pa_cons (pe_glob (v := .ref 82) rfl (Es.e2).g rfl) pa_nil))) pa_nil))))))
  (pss_cons (ps_set (i := 1) sc_kinds.nd rfl (by first | exact Or.inl rfl | exact Or.inr rfl) (pe_op op_cat (pv 1) (pe_lst (pa_cons (pe_callB (call_isiP (p := q) (List.mem_singleton.mpr rfl)) rfl T.isinstance WkB.b_isinstance (pa_cons (pv 0) (pa_cons (pe_glob (v := .ref 101) rfl (Es.e3).g rfl) pa_nil))) (pa_cons (pe_callB (call_isiP (p := q) (List.mem_singleton.mpr rfl)) rfl T.isinstance WkB.b_isinstance (pa_cons (pv 0) (pa_cons (pe_glob (v := .ref 120) rfl (Es.e4).g rfl) pa_nil))) (pa_cons (pe_callB (call_isiP (p := q) (List.mem_singleton.mpr rfl)) rfl T.isinstance WkB.b_isinstance (pa_cons (pv 0) (pa_cons (pe_glob (v := .ref 139) rfl (Es.e5).g rfl) pa_nil))) pa_nil))))))
  (pss_cons (ps_set (i := 1) sc_kinds.nd rfl (by first | exact Or.inl rfl | exact Or.inr rfl) (pe_op op_cat (pv 1) (pe_lst (pa_cons (pe_callB (call_isiP (p := q) (List.mem_singleton.mpr rfl)) rfl T.isinstance WkB.b_isinstance (pa_cons (pv 0) (pa_cons (pe_glob (v := .ref 158) rfl (Es.e6).g rfl) pa_nil))) (pa_cons (pe_callB (call_isiP (p := q) (List.mem_singleton.mpr rfl)) rfl T.isinstance WkB.b_isinstance (pa_cons (pv 0) (pa_cons (pe_glob (v := .ref 177) rfl (Es.e7).g rfl) pa_nil))) (pa_cons (pe_callB (call_isiP (p := q) (List.mem_singleton.mpr rfl)) rfl T.isinstance WkB.b_isinstance (pa_cons (pv 0) (pa_cons (pe_glob (v := .ref 196) rfl (Es.e8).g rfl) pa_nil))) pa_nil))))))
  (pss_cons (ps_set (i := 1) sc_kinds.nd rfl (by first | exact Or.inl rfl | exact Or.inr rfl) (pe_op op_cat (pv 1) (pe_lst (pa_cons (pe_callB (call_isiP (p := q) (List.mem_singleton.mpr rfl)) rfl T.isinstance WkB.b_isinstance (pa_cons (pv 0) (pa_cons (pe_glob (v := .ref 215) rfl (Es.e9).g rfl) pa_nil))) (pa_cons (pe_callB (call_isiP (p := q) (List.mem_singleton.mpr rfl)) rfl T.isinstance WkB.b_isinstance (pa_cons (pv 0) (pa_cons (pe_glob (v := .ref 234) rfl (Es.e10).g rfl) pa_nil))) (pa_cons (pe_callB (call_isiP (p := q) (List.mem_singleton.mpr rfl)) rfl T.isinstance WkB.b_isinstance (pa_cons (pv 0) (pa_cons (pe_glob (v := .ref 253) rfl (Es.e11).g rfl) pa_nil))) pa_nil))))))
  (pss_cons (ps_set (i := 1) sc_kinds.nd rfl (by first | exact Or.inl rfl | exact Or.inr rfl) (pe_op op_cat (pv 1) (pe_lst (pa_cons (pe_callB (call_isiP (p := q) (List.mem_singleton.mpr rfl)) rfl T.isinstance WkB.b_isinstance (pa_cons (pv 0) (pa_cons (pe_glob (v := .ref 272) rfl (Es.e12).g rfl) pa_nil))) (pa_cons (pe_callB (call_isiP (p := q) (List.mem_singleton.mpr rfl)) rfl T.isinstance WkB.b_isinstance (pa_cons (pv 0) (pa_cons (pe_glob (v := .ref 291) rfl (Es.e13).g rfl) pa_nil))) (pa_cons (pe_callB (call_isiP (p := q) (List.mem_singleton.mpr rfl)) rfl T.isinstance WkB.b_isinstance (pa_cons (pv 0) (pa_cons (pe_glob (v := .ref 310) rfl (Es.e14).g rfl) pa_nil))) pa_nil))))))
  (pss_cons (ps_set (i := 1) sc_kinds.nd rfl (by first | exact Or.inl rfl | exact Or.inr rfl) (pe_op op_cat (pv 1) (pe_lst (pa_cons (pe_callB (call_isiP (p := q) (List.mem_singleton.mpr rfl)) rfl T.isinstance WkB.b_isinstance (pa_cons (pv 0) (pa_cons (pe_glob (v := .ref 329) rfl (Es.e15).g rfl) pa_nil))) (pa_cons (pe_callB (call_isiP (p := q) (List.mem_singleton.mpr rfl)) rfl T.isinstance WkB.b_isinstance (pa_cons (pv 0) (pa_cons (pe_glob (v := .ref 348) rfl (Es.e16).g rfl) pa_nil))) (pa_cons (pe_callB (call_isiP (p := q) (List.mem_singleton.mpr rfl)) rfl T.isinstance WkB.b_isinstance (pa_cons (pv 0) (pa_cons (pe_glob (v := .ref 367) rfl (Es.e17).g rfl) pa_nil))) pa_nil))))))
  (pss_cons (ps_set (i := 1) sc_kinds.nd rfl (by first | exact Or.inl rfl | exact Or.inr rfl) (pe_op op_cat (pv 1) (pe_lst (pa_cons (pe_callB (call_isiP (p := q) (List.mem_singleton.mpr rfl)) rfl T.isinstance WkB.b_isinstance (pa_cons (pv 0) (pa_cons (pe_glob (v := .ref 386) rfl (Es.e18).g rfl) pa_nil))) (pa_cons (pe_callB (call_isiP (p := q) (List.mem_singleton.mpr rfl)) rfl T.isinstance WkB.b_isinstance (pa_cons (pv 0) (pa_cons (pe_glob (v := .ref 405) rfl (Es.e19).g rfl) pa_nil))) (pa_cons (pe_callB (call_isiP (p := q) (List.mem_singleton.mpr rfl)) rfl T.isinstance WkB.b_isinstance (pa_cons (pv 0) (pa_cons (pe_glob (v := .ref 424) rfl (Es.e20).g rfl) pa_nil))) pa_nil))))))
  (pss_cons (ps_set (i := 1) sc_kinds.nd rfl (by first | exact Or.inl rfl | exact Or.inr rfl) (pe_op op_cat (pv 1) (pe_lst (pa_cons (pe_callB (call_isiP (p := q) (List.mem_singleton.mpr rfl)) rfl T.isinstance WkB.b_isinstance (pa_cons (pv 0) (pa_cons (pe_glob (v := .ref 443) rfl (Es.e21).g rfl) pa_nil))) (pa_cons (pe_callB (call_isiP (p := q) (List.mem_singleton.mpr rfl)) rfl T.isinstance WkB.b_isinstance (pa_cons (pv 0) (pa_cons (pe_glob (v := .ref 462) rfl (Es.e22).g rfl) pa_nil))) (pa_cons (pe_callB (call_isiP (p := q) (List.mem_singleton.mpr rfl)) rfl T.isinstance WkB.b_isinstance (pa_cons (pv 0) (pa_cons (pe_glob (v := .ref 481) rfl (Es.e23).g rfl) pa_nil))) pa_nil))))))
  (pss_cons (ps_set (i := 1) sc_kinds.nd rfl (by first | exact Or.inl rfl | exact Or.inr rfl) (pe_op op_cat (pv 1) (pe_lst (pa_cons (pe_callB (call_isiP (p := q) (List.mem_singleton.mpr rfl)) rfl T.isinstance WkB.b_isinstance (pa_cons (pv 0) (pa_cons (pe_glob (v := .ref 500) rfl (Es.e24).g rfl) pa_nil))) (pa_cons (pe_callB (call_isiP (p := q) (List.mem_singleton.mpr rfl)) rfl T.isinstance WkB.b_isinstance (pa_cons (pv 0) (pa_cons (pe_glob (v := .ref 519) rfl (Es.e25).g rfl) pa_nil))) (pa_cons (pe_callB (call_isiP (p := q) (List.mem_singleton.mpr rfl)) rfl T.isinstance WkB.b_isinstance (pa_cons (pv 0) (pa_cons (pe_glob (v := .ref 538) rfl (Es.e26).g rfl) pa_nil))) pa_nil))))))
  (pss_cons (ps_set (i := 1) sc_kinds.nd rfl (by first | exact Or.inl rfl | exact Or.inr rfl) (pe_op op_cat (pv 1) (pe_lst (pa_cons (pe_callB (call_isiP (p := q) (List.mem_singleton.mpr rfl)) rfl T.isinstance WkB.b_isinstance (pa_cons (pv 0) (pa_cons (pe_glob (v := .ref 557) rfl (Es.e27).g rfl) pa_nil))) (pa_cons (pe_callB (call_isiP (p := q) (List.mem_singleton.mpr rfl)) rfl T.isinstance WkB.b_isinstance (pa_cons (pv 0) (pa_cons (pe_glob (v := .ref 576) rfl (Es.e28).g rfl) pa_nil))) (pa_cons (pe_callB (call_isiP (p := q) (List.mem_singleton.mpr rfl)) rfl T.isinstance WkB.b_isinstance (pa_cons (pv 0) (pa_cons (pe_glob (v := .ref 595) rfl (Es.e29).g rfl) pa_nil))) pa_nil))))))
  (pss_cons (ps_set (i := 1) sc_kinds.nd rfl (by first | exact Or.inl rfl | exact Or.inr rfl) (pe_op op_cat (pv 1) (pe_lst (pa_cons (pe_callB (call_isiP (p := q) (List.mem_singleton.mpr rfl)) rfl T.isinstance WkB.b_isinstance (pa_cons (pv 0) (pa_cons (pe_glob (v := .ref 614) rfl (Es.e30).g rfl) pa_nil))) (pa_cons (pe_callB (call_isiP (p := q) (List.mem_singleton.mpr rfl)) rfl T.isinstance WkB.b_isinstance (pa_cons (pv 0) (pa_cons (pe_glob (v := .ref 633) rfl (Es.e31).g rfl) pa_nil))) (pa_cons (pe_callB (call_isiP (p := q) (List.mem_singleton.mpr rfl)) rfl T.isinstance WkB.b_isinstance (pa_cons (pv 0) (pa_cons (pe_glob (v := .ref 652) rfl (Es.e32).g rfl) pa_nil))) pa_nil))))))
  (pss_cons (ps_set (i := 1) sc_kinds.nd rfl (by first | exact Or.inl rfl | exact Or.inr rfl) (pe_op op_cat (pv 1) (pe_lst (pa_cons (pe_callB (call_isiP (p := q) (List.mem_singleton.mpr rfl)) rfl T.isinstance WkB.b_isinstance (pa_cons (pv 0) (pa_cons (pe_glob (v := .ref 671) rfl (Es.e33).g rfl) pa_nil))) (pa_cons (pe_callB (call_isiP (p := q) (List.mem_singleton.mpr rfl)) rfl T.isinstance WkB.b_isinstance (pa_cons (pv 0) (pa_cons (pe_glob (v := .ref 861) rfl (Es.e34).g rfl) pa_nil))) (pa_cons (pe_callB (call_isiP (p := q) (List.mem_singleton.mpr rfl)) rfl T.isinstance WkB.b_isinstance (pa_cons (pv 0) (pa_cons (pe_glob (v := .ref 880) rfl (Es.e35).g rfl) pa_nil))) pa_nil))))))
  (pss_cons (ps_set (i := 1) sc_kinds.nd rfl (by first | exact Or.inl rfl | exact Or.inr rfl) (pe_op op_cat (pv 1) (pe_lst (pa_cons (pe_callB (call_isiP (p := q) (List.mem_singleton.mpr rfl)) rfl T.isinstance WkB.b_isinstance (pa_cons (pv 0) (pa_cons (pe_glob (v := .ref 899) rfl (Es.e36).g rfl) pa_nil))) (pa_cons (pe_callB (call_isiP (p := q) (List.mem_singleton.mpr rfl)) rfl T.isinstance WkB.b_isinstance (pa_cons (pv 0) (pa_cons (pe_glob (v := .ref 918) rfl (Es.e37).g rfl) pa_nil))) (pa_cons (pe_callB (call_isiP (p := q) (List.mem_singleton.mpr rfl)) rfl T.isinstance WkB.b_isinstance (pa_cons (pv 0) (pa_cons (pe_glob (v := .ref 937) rfl (Es.e38).g rfl) pa_nil))) pa_nil))))))
  (pss_cons (ps_set (i := 1) sc_kinds.nd rfl (by first | exact Or.inl rfl | exact Or.inr rfl) (pe_op op_cat (pv 1) (pe_lst (pa_cons (pe_callB (call_isiP (p := q) (List.mem_singleton.mpr rfl)) rfl T.isinstance WkB.b_isinstance (pa_cons (pv 0) (pa_cons (pe_glob (v := .ref 956) rfl (Es.e39).g rfl) pa_nil))) (pa_cons (pe_callB (call_isiP (p := q) (List.mem_singleton.mpr rfl)) rfl T.isinstance WkB.b_isinstance (pa_cons (pv 0) (pa_cons (pe_glob (v := .ref 975) rfl (Es.e40).g rfl) pa_nil))) (pa_cons (pe_callB (call_isiP (p := q) (List.mem_singleton.mpr rfl)) rfl T.isinstance WkB.b_isinstance (pa_cons (pv 0) (pa_cons (pe_glob (v := .ref 994) rfl (Es.e41).g rfl) pa_nil))) pa_nil))))))
  (pss_cons (ps_set (i := 1) sc_kinds.nd rfl (by first | exact Or.inl rfl | exact Or.inr rfl) (pe_op op_cat (pv 1) (pe_lst (pa_cons (pe_callB (call_isiP (p := q) (List.mem_singleton.mpr rfl)) rfl T.isinstance WkB.b_isinstance (pa_cons (pv 0) (pa_cons (pe_glob (v := .ref 690) rfl (Es.e42).g rfl) pa_nil))) (pa_cons (pe_callB (call_isiP (p := q) (List.mem_singleton.mpr rfl)) rfl T.isinstance WkB.b_isinstance (pa_cons (pv 0) (pa_cons (pe_glob (v := .ref 709) rfl (Es.e43).g rfl) pa_nil))) (pa_cons (pe_callB (call_isiP (p := q) (List.mem_singleton.mpr rfl)) rfl T.isinstance WkB.b_isinstance (pa_cons (pv 0) (pa_cons (pe_glob (v := .ref 728) rfl (Es.e44).g rfl) pa_nil))) pa_nil))))))
  (pss_cons (ps_set (i := 1) sc_kinds.nd rfl (by first | exact Or.inl rfl | exact Or.inr rfl) (pe_op op_cat (pv 1) (pe_lst (pa_cons (pe_callB (call_isiP (p := q) (List.mem_singleton.mpr rfl)) rfl T.isinstance WkB.b_isinstance (pa_cons (pv 0) (pa_cons (pe_glob (v := .ref 747) rfl (Es.e45).g rfl) pa_nil))) (pa_cons (pe_callB (call_isiP (p := q) (List.mem_singleton.mpr rfl)) rfl T.isinstance WkB.b_isinstance (pa_cons (pv 0) (pa_cons (pe_glob (v := .ref 785) rfl (Es.e46).g rfl) pa_nil))) (pa_cons (pe_callB (call_isiP (p := q) (List.mem_singleton.mpr rfl)) rfl T.isinstance WkB.b_isinstance (pa_cons (pv 0) (pa_cons (pe_glob (v := .ref 823) rfl (Es.e47).g rfl) pa_nil))) pa_nil))))))
  (pss_cons (ps_set (i := 1) sc_kinds.nd rfl (by first | exact Or.inl rfl | exact Or.inr rfl) (pe_op op_cat (pv 1) (pe_lst (pa_cons (pe_callB (call_isiP (p := q) (List.mem_singleton.mpr rfl)) rfl T.isinstance WkB.b_isinstance (pa_cons (pv 0) (pa_cons (pe_glob (v := .ref 766) rfl (Es.e48).g rfl) pa_nil))) (pa_cons (pe_callB (call_isiP (p := q) (List.mem_singleton.mpr rfl)) rfl T.isinstance WkB.b_isinstance (pa_cons (pv 0) (pa_cons (pe_glob (v := .ref 804) rfl (Es.e49).g rfl) pa_nil))) (pa_cons (pe_callB (call_isiP (p := q) (List.mem_singleton.mpr rfl)) rfl T.isinstance WkB.b_isinstance (pa_cons (pv 0) (pa_cons (pe_glob (v := .ref 842) rfl (Es.e50).g rfl) pa_nil))) pa_nil))))))
  (pss_one (ps_ret (pv 1))))))))))))))))))))), ?_⟩)
  · obtain ⟨a, k, rfl, _⟩ := h
    rfl
  · obtain ⟨a, k, rfl, hk, ha, hQ⟩ := h
    try dsimp only [cxH, cxOf]
    with_reducible refine e_seq ?_
    with_reducible refine e_asg ?_
    with_reducible refine e_lst ?_
    with_reducible refine e_nil ?_
    refine ⟨sz 0, fun p np => ?_⟩
    with_reducible refine e_gName ?_
    have S0 : Same H (upd H p (.lst [])) := fun b o e => by
      rw [upd_ne (ne_of_none e np)]
      exact e
    have a0 := (fun e h => PinE.mono e h) S0 ha
    have h0 : upd H p (.lst []) p = some (.lst (kindsUp (3 * 0) k)) := upd_same
    with_reducible refine e_seq ?_
    refine kinds_step (W := (PinE q)) (fun e h => PinE.mono e h) KK 0 (by decide) hk a0 h0 fun l1 H1 n1 s1 h1 => ?_
    have S1 := S0.trans s1
    have a1 := (fun e h => PinE.mono e h) s1 a0
    with_reducible refine e_seq ?_
    refine kinds_step (W := (PinE q)) (fun e h => PinE.mono e h) KK 1 (by decide) hk a1 h1 fun l2 H2 n2 s2 h2 => ?_
    have S2 := S1.trans s2
    have a2 := (fun e h => PinE.mono e h) s2 a1
    with_reducible refine e_seq ?_
    refine kinds_step (W := (PinE q)) (fun e h => PinE.mono e h) KK 2 (by decide) hk a2 h2 fun l3 H3 n3 s3 h3 => ?_
    have S3 := S2.trans s3
    have a3 := (fun e h => PinE.mono e h) s3 a2
    with_reducible refine e_seq ?_
    refine kinds_step (W := (PinE q)) (fun e h => PinE.mono e h) KK 3 (by decide) hk a3 h3 fun l4 H4 n4 s4 h4 => ?_
    have S4 := S3.trans s4
    have a4 := (fun e h => PinE.mono e h) s4 a3
    with_reducible refine e_seq ?_
    refine kinds_step (W := (PinE q)) (fun e h => PinE.mono e h) KK 4 (by decide) hk a4 h4 fun l5 H5 n5 s5 h5 => ?_
    have S5 := S4.trans s5
    have a5 := (fun e h => PinE.mono e h) s5 a4
    with_reducible refine e_seq ?_
    refine kinds_step (W := (PinE q)) (fun e h => PinE.mono e h) KK 5 (by decide) hk a5 h5 fun l6 H6 n6 s6 h6 => ?_
    have S6 := S5.trans s6
    have a6 := (fun e h => PinE.mono e h) s6 a5
    with_reducible refine e_seq ?_
    refine kinds_step (W := (PinE q)) (fun e h => PinE.mono e h) KK 6 (by decide) hk a6 h6 fun l7 H7 n7 s7 h7 => ?_
    have S7 := S6.trans s7
    have a7 := (fun e h => PinE.mono e h) s7 a6
    with_reducible refine e_seq ?_
    refine kinds_step (W := (PinE q)) (fun e h => PinE.mono e h) KK 7 (by decide) hk a7 h7 fun l8 H8 n8 s8 h8 => ?_
    have S8 := S7.trans s8
    have a8 := (fun e h => PinE.mono e h) s8 a7
    with_reducible refine e_seq ?_
    refine kinds_step (W := (PinE q)) (fun e h => PinE.mono e h) KK 8 (by decide) hk a8 h8 fun l9 H9 n9 s9 h9 => ?_
    have S9 := S8.trans s9
    have a9 := (fun e h => PinE.mono e h) s9 a8
    with_reducible refine e_seq ?_
    refine kinds_step (W := (PinE q)) (fun e h => PinE.mono e h) KK 9 (by decide) hk a9 h9 fun l10 H10 n10 s10 h10 => ?_
    have S10 := S9.trans s10
    have a10 := (fun e h => PinE.mono e h) s10 a9
    with_reducible refine e_seq ?_
    refine kinds_step (W := (PinE q)) (fun e h => PinE.mono e h) KK 10 (by decide) hk a10 h10 fun l11 H11 n11 s11 h11 => ?_
    have S11 := S10.trans s11
    have a11 := (fun e h => PinE.mono e h) s11 a10
    with_reducible refine e_seq ?_
    refine kinds_step (W := (PinE q)) (fun e h => PinE.mono e h) KK 11 (by decide) hk a11 h11 fun l12 H12 n12 s12 h12 => ?_
    have S12 := S11.trans s12
    have a12 := (fun e h => PinE.mono e h) s12 a11
    with_reducible refine e_seq ?_
    refine kinds_step (W := (PinE q)) (fun e h => PinE.mono e h) KK 12 (by decide) hk a12 h12 fun l13 H13 n13 s13 h13 => ?_
    have S13 := S12.trans s13
    have a13 := (fun e h => PinE.mono e h) s13 a12
    with_reducible refine e_seq ?_
    refine kinds_step (W := (PinE q)) (fun e h => PinE.mono e h) KK 13 (by decide) hk a13 h13 fun l14 H14 n14 s14 h14 => ?_
    have S14 := S13.trans s14
    have a14 := (fun e h => PinE.mono e h) s14 a13
    with_reducible refine e_seq ?_
    refine kinds_step (W := (PinE q)) (fun e h => PinE.mono e h) KK 14 (by decide) hk a14 h14 fun l15 H15 n15 s15 h15 => ?_
    have S15 := S14.trans s15
    have a15 := (fun e h => PinE.mono e h) s15 a14
    with_reducible refine e_seq ?_
    refine kinds_step (W := (PinE q)) (fun e h => PinE.mono e h) KK 15 (by decide) hk a15 h15 fun l16 H16 n16 s16 h16 => ?_
    have S16 := S15.trans s16
    have a16 := (fun e h => PinE.mono e h) s16 a15
    with_reducible refine e_seq ?_
    refine kinds_step (W := (PinE q)) (fun e h => PinE.mono e h) KK 16 (by decide) hk a16 h16 fun l17 H17 n17 s17 h17 => ?_
    have S17 := S16.trans s17
    have a17 := (fun e h => PinE.mono e h) s17 a16

    walk_at "go"
    exact hQ l17 _ (Same.free' S16 n17) S17 h17
end
end K00
namespace K00
open PySem PySem.Spec PyProof.Rows L2 WkH WkE WkG WkR WkS WkP WkF
theorem kp_0 {H : Hp} {a : Addr} {v : V} (h : Err1 H a 44 "given" v) : Keeps H a 0 v := h
theorem kp_1 {H : Hp} {a : Addr} {v : V} (h : Err1 H a 63 "given" v) : Keeps H a 1 v := h
theorem kp_2 {H : Hp} {a : Addr} {v : V} (h : Err1 H a 82 "given" v) : Keeps H a 2 v := h
theorem kp_3 {H : Hp} {a : Addr} {v : V} (h : Err1 H a 101 "given" v) : Keeps H a 3 v := h
theorem kp_4 {H : Hp} {a : Addr} {v : V} (h : Err1 H a 120 "given" v) : Keeps H a 4 v := h
theorem kp_5 {H : Hp} {a : Addr} {v : V} (h : Err1 H a 139 "given" v) : Keeps H a 5 v := h
theorem kp_6 {H : Hp} {a : Addr} {v : V} (h : Err1 H a 158 "given" v) : Keeps H a 6 v := h
theorem kp_7 {H : Hp} {a : Addr} {v : V} (h : Err1 H a 177 "given" v) : Keeps H a 7 v := h
theorem kp_8 {H : Hp} {a : Addr} {v : V} (h : Err1 H a 196 "given" v) : Keeps H a 8 v := h
theorem kp_9 {H : Hp} {a : Addr} {v : V} (h : Err1 H a 215 "given" v) : Keeps H a 9 v := h
theorem kp_10 {H : Hp} {a : Addr} {v : V} (h : Err1 H a 234 "given" v) : Keeps H a 10 v := h
theorem kp_11 {H : Hp} {a : Addr} {v : V} (h : Err1 H a 253 "given" v) : Keeps H a 11 v := h
theorem kp_12 {H : Hp} {a : Addr} {v : V} (h : Err1 H a 272 "given" v) : Keeps H a 12 v := h
theorem kp_13 {H : Hp} {a : Addr} {v : V} (h : Err1 H a 291 "given" v) : Keeps H a 13 v := h
theorem kp_14 {H : Hp} {a : Addr} {v : V} (h : Err1 H a 310 "given" v) : Keeps H a 14 v := h
theorem kp_15 {H : Hp} {a : Addr} {v : V} (h : Err1 H a 329 "given" v) : Keeps H a 15 v := h
theorem kp_16 {H : Hp} {a : Addr} {v : V} (h : Err1 H a 348 "given" v) : Keeps H a 16 v := h
theorem kp_17 {H : Hp} {a : Addr} {v : V} (h : Err1 H a 367 "given" v) : Keeps H a 17 v := h
theorem kp_18 {H : Hp} {a : Addr} {v : V} (h : Err1 H a 386 "given" v) : Keeps H a 18 v := h
theorem kp_19 {H : Hp} {a : Addr} {v : V} (h : Err1 H a 405 "given" v) : Keeps H a 19 v := h
theorem kp_20 {H : Hp} {a : Addr} {v : V} (h : Err1 H a 424 "given" v) : Keeps H a 20 v := h
theorem kp_21 {H : Hp} {a : Addr} {v : V} (h : Err1 H a 443 "given" v) : Keeps H a 21 v := h
theorem kp_22 {H : Hp} {a : Addr} {v : V} (h : Err1 H a 462 "given" v) : Keeps H a 22 v := h
theorem kp_23 {H : Hp} {a : Addr} {v : V} (h : Err1 H a 481 "given" v) : Keeps H a 23 v := h
theorem kp_24 {H : Hp} {a : Addr} {v : V} (h : Err1 H a 500 "given" v) : Keeps H a 24 v := h
theorem kp_25 {H : Hp} {a : Addr} {v : V} (h : Err1 H a 519 "given" v) : Keeps H a 25 v := h
theorem kp_26 {H : Hp} {a : Addr} {v : V} (h : Err1 H a 538 "given" v) : Keeps H a 26 v := h
theorem kp_27 {H : Hp} {a : Addr} {v : V} (h : Err1 H a 557 "given" v) : Keeps H a 27 v := h
theorem kp_28 {H : Hp} {a : Addr} {v : V} (h : Err1 H a 576 "given" v) : Keeps H a 28 v := h
theorem kp_29 {H : Hp} {a : Addr} {v : V} (h : Err1 H a 595 "given" v) : Keeps H a 29 v := h
theorem kp_30 {H : Hp} {a : Addr} {v : V} (h : Err1 H a 614 "given" v) : Keeps H a 30 v := h
theorem kp_31 {H : Hp} {a : Addr} {v : V} (h : Err1 H a 633 "given" v) : Keeps H a 31 v := h
theorem kp_32 {H : Hp} {a : Addr} {v : V} (h : Err1 H a 652 "given" v) : Keeps H a 32 v := h
theorem kp_33 {H : Hp} {a : Addr} {v : V} (h : Err1 H a 671 "given" v) : Keeps H a 33 v := h
theorem kp_34 {H : Hp} {a : Addr} {v : V} (h : Err1 H a 861 "given" v) : Keeps H a 34 v := h
theorem kp_35 {H : Hp} {a : Addr} {v : V} (h : Err1 H a 880 "given" v) : Keeps H a 35 v := h
theorem kp_36 {H : Hp} {a : Addr} {v : V} (h : Err1 H a 899 "given" v) : Keeps H a 36 v := h
theorem kp_37 {H : Hp} {a : Addr} {v : V} (h : Err1 H a 918 "given" v) : Keeps H a 37 v := h
theorem kp_38 {H : Hp} {a : Addr} {v : V} (h : Err1 H a 937 "given" v) : Keeps H a 38 v := h
theorem kp_39 {H : Hp} {a : Addr} {v : V} (h : Err1 H a 956 "given" v) : Keeps H a 39 v := h
theorem kp_40 {H : Hp} {a : Addr} {v : V} (h : Err1 H a 975 "given" v) : Keeps H a 40 v := h
theorem kp_41 {H : Hp} {a : Addr} {v : V} (h : Err1 H a 994 "given" v) : Keeps H a 41 v := h
theorem kp_42 {H : Hp} {a : Addr} {v : V} (h : Err1 H a 690 "count" v) : Keeps H a 42 v := h
theorem kp_43 {H : Hp} {a : Addr} {v : V} (h : Err1 H a 709 "name" v) : Keeps H a 43 v := h
theorem kp_44 {H : Hp} {a : Addr} {v : V} (h : Err1 H a 728 "name" v) : Keeps H a 44 v := h
theorem kp_45 {H : Hp} {a : Addr} {v : V} (h : Err1 H a 747 "name" v) : Keeps H a 45 v := h
theorem kp_46 {H : Hp} {a : Addr} {v : V} (h : Err1 H a 785 "told" v) : Keeps H a 46 v := h
theorem kp_47 {H : Hp} {a : Addr} {v : V} (h : Err1 H a 823 "line" v) : Keeps H a 47 v := h
theorem kp_48 {H : Hp} {a : Addr} {v : V} (h : Err0 H a 766) : Keeps H a 48 v := h
theorem kp_49 {H : Hp} {a : Addr} {v : V} (h : Err0 H a 804) : Keeps H a 49 v := h
theorem kp_50 {H : Hp} {a : Addr} {v : V} (h : Err0 H a 842) : Keeps H a 50 v := h

theorem is_nat {k : Nat} {n : Nat} (h : decide (V.int (k : Int) = V.int ((n : Nat) : Int)) = true) : k = n := by
  have e := of_decide_eq_true h
  injection e with e
  omega
theorem past {k : Nat} {n : Nat} (hk : n ≤ k) (h : decide (V.int (k : Int) = V.int ((n : Nat) : Int)) = false) : n + 1 ≤ k := by
  have e := of_decide_eq_false h
  have : k ≠ n := fun z => e (by rw [z])
  omega
theorem e_E1 {C : Addr} {f : Str} {t : TA} {σ : L2.St} {H : Hp} {Q : VK} (q : t σ H fun vs H1 => ∃ v, vs = [v] ∧ ∀ a H2, H1 a = none → (∀ b o, H1 b = some o → H2 b = some o) → Err1 H2 a C f v → Q (.ref a) H2) : tE1 C f t σ H Q := q
section
variable {P : Program} {w : World} {K : PySem.W.Frag} {mg : Str → Option Value} {base : Heap}
def spMade (lo hi : Nat) : Sp := fun vs H Q _ => ∃ (k : Nat) (v : V) (b : Bool), vs = [.int k, v, .bl b] ∧ lo ≤ k ∧ k < hi ∧ ∀ a H', H a = none → Same H H' → Keeps H' a k v → Q (.ref a) H'
theorem sc_made_a : FnScope ["which", "thing", "by_name"] ["which", "thing", "by_name"] d_made_a.sco := ⟨rfl, rfl, rfl, by decide +kernel, rfl, by decide +kernel, by decide +kernel⟩
theorem sc_made_b : FnScope ["which", "thing", "by_name"] ["which", "thing", "by_name"] d_made_b.sco := ⟨rfl, rfl, rfl, by decide +kernel, rfl, by decide +kernel, by decide +kernel⟩
theorem sc_made_c : FnScope ["which", "thing", "by_name"] ["which", "thing", "by_name"] d_made_c.sco := ⟨rfl, rfl, rfl, by decide +kernel, rfl, by decide +kernel, by decide +kernel⟩
theorem sc_made : FnScope ["which", "thing", "by_name"] ["which", "thing", "by_name"] d_made.sco := ⟨rfl, rfl, rfl, by decide +kernel, rfl, by decide +kernel, by decide +kernel⟩
theorem ok_made_a {fd : FuncData} (F : Stands K d_made_a fd) (T : Es P w K mg base) : FnOk P w K mg base CX0 3 d_made_a.adr fd ["which", "thing", "by_name"] (spMade 0 17) := by
  refine FunD.ok F sc_made_a (fun vs H Q E h => ?_) (fun cdv A outer s H vs Q E hr h => ⟨_, PSs.nox (pss_cons (ps_if (pt_cmpR op_eq (pv 0) pe_int (nomark _)) (pss_one (ps_ret (pe_ifExp (pt_val (pv 2)) (pe_EK T.e0 hr rfl (pk_cons (pv 1) pk_nil)) (pe_E1 T.e0 hr rfl (pa_cons (pv 1) pa_nil))))) pss_nil)
  (pss_cons (ps_if (pt_cmpR op_eq (pv 0) pe_int (nomark _)) (pss_one (ps_ret (pe_ifExp (pt_val (pv 2)) (pe_EK T.e1 hr rfl (pk_cons (pv 1) pk_nil)) (pe_E1 T.e1 hr rfl (pa_cons (pv 1) pa_nil))))) pss_nil)
  (pss_cons (ps_if (pt_cmpR op_eq (pv 0) pe_int (nomark _)) (pss_one (ps_ret (pe_ifExp (pt_val (pv 2)) (pe_EK T.e2 hr rfl (pk_cons (pv 1) pk_nil)) (pe_E1 T.e2 hr rfl (pa_cons (pv 1) pa_nil))))) pss_nil)
  (pss_cons (ps_if (pt_cmpR op_eq (pv 0) pe_int (nomark _)) (pss_one (ps_ret (pe_ifExp (pt_val (pv 2)) (pe_EK T.e3 hr rfl (pk_cons (pv 1) pk_nil)) (pe_E1 T.e3 hr rfl (pa_cons (pv 1) pa_nil))))) pss_nil)
  (pss_cons (ps_if (pt_cmpR op_eq (pv 0) pe_int (nomark _)) (pss_one (ps_ret (pe_ifExp (pt_val (pv 2)) (pe_EK T.e4 hr rfl (pk_cons (pv 1) pk_nil)) (pe_E1 T.e4 hr rfl (pa_cons (pv 1) pa_nil))))) pss_nil)
  (pss_cons (ps_if (pt_cmpR op_eq (pv 0) pe_int (nomark _)) (pss_one (ps_ret (pe_ifExp (pt_val (pv 2)) (pe_EK T.e5 hr rfl (pk_cons (pv 1) pk_nil)) (pe_E1 T.e5 hr rfl (pa_cons (pv 1) pa_nil))))) pss_nil)
  (pss_cons (ps_if (pt_cmpR op_eq (pv 0) pe_int (nomark _)) (pss_one (ps_ret (pe_ifExp (pt_val (pv 2)) (pe_EK T.e6 hr rfl (pk_cons (pv 1) pk_nil)) (pe_E1 T.e6 hr rfl (pa_cons (pv 1) pa_nil))))) pss_nil)
  (pss_cons (ps_if (pt_cmpR op_eq (pv 0) pe_int (nomark _)) (pss_one (ps_ret (pe_ifExp (pt_val (pv 2)) (pe_EK T.e7 hr rfl (pk_cons (pv 1) pk_nil)) (pe_E1 T.e7 hr rfl (pa_cons (pv 1) pa_nil))))) pss_nil)
  (pss_cons (ps_if (pt_cmpR op_eq (pv 0) pe_int (nomark _)) (pss_one (ps_ret (pe_ifExp (pt_val (pv 2)) (pe_EK T.e8 hr rfl (pk_cons (pv 1) pk_nil)) (pe_E1 T.e8 hr rfl (pa_cons (pv 1) pa_nil))))) pss_nil)
  (pss_cons (ps_if (pt_cmpR op_eq (pv 0) pe_int (nomark _)) (pss_one (ps_ret (pe_ifExp (pt_val (pv 2)) (pe_EK T.e9 hr rfl (pk_cons (pv 1) pk_nil)) (pe_E1 T.e9 hr rfl (pa_cons (pv 1) pa_nil))))) pss_nil)
  (pss_cons (ps_if (pt_cmpR op_eq (pv 0) pe_int (nomark _)) (pss_one (ps_ret (pe_ifExp (pt_val (pv 2)) (pe_EK T.e10 hr rfl (pk_cons (pv 1) pk_nil)) (pe_E1 T.e10 hr rfl (pa_cons (pv 1) pa_nil))))) pss_nil)
  (pss_cons (ps_if (pt_cmpR op_eq (pv 0) pe_int (nomark _)) (pss_one (ps_ret (pe_ifExp (pt_val (pv 2)) (pe_EK T.e11 hr rfl (pk_cons (pv 1) pk_nil)) (pe_E1 T.e11 hr rfl (pa_cons (pv 1) pa_nil))))) pss_nil)
  (pss_cons (ps_if (pt_cmpR op_eq (pv 0) pe_int (nomark _)) (pss_one (ps_ret (pe_ifExp (pt_val (pv 2)) (pe_EK T.e12 hr rfl (pk_cons (pv 1) pk_nil)) (pe_E1 T.e12 hr rfl (pa_cons (pv 1) pa_nil))))) pss_nil)
  (pss_cons (ps_if (pt_cmpR op_eq (pv 0) pe_int (nomark _)) (pss_one (ps_ret (pe_ifExp (pt_val (pv 2)) (pe_EK T.e13 hr rfl (pk_cons (pv 1) pk_nil)) (pe_E1 T.e13 hr rfl (pa_cons (pv 1) pa_nil))))) pss_nil)
  (pss_cons (ps_if (pt_cmpR op_eq (pv 0) pe_int (nomark _)) (pss_one (ps_ret (pe_ifExp (pt_val (pv 2)) (pe_EK T.e14 hr rfl (pk_cons (pv 1) pk_nil)) (pe_E1 T.e14 hr rfl (pa_cons (pv 1) pa_nil))))) pss_nil)
  (pss_cons (ps_if (pt_cmpR op_eq (pv 0) pe_int (nomark _)) (pss_one (ps_ret (pe_ifExp (pt_val (pv 2)) (pe_EK T.e15 hr rfl (pk_cons (pv 1) pk_nil)) (pe_E1 T.e15 hr rfl (pa_cons (pv 1) pa_nil))))) pss_nil)
  (pss_cons (ps_if (pt_cmpR op_eq (pv 0) pe_int (nomark _)) (pss_one (ps_ret (pe_ifExp (pt_val (pv 2)) (pe_EK T.e16 hr rfl (pk_cons (pv 1) pk_nil)) (pe_E1 T.e16 hr rfl (pa_cons (pv 1) pa_nil))))) pss_nil)
  (pss_one (ps_ret pe_non))))))))))))))))))), ?_⟩)
  · obtain ⟨k, v, b, rfl, _⟩ := h
    rfl
  · obtain ⟨k, v, b, rfl, hk1, hk2, hQ⟩ := h
    try dsimp only [cxOf, Cx.nox, Cx.wish]
    walk_at "go"
    refine e_ite (fun h => ?_) (fun h => ?_)
    · obtain rfl : k = 0 := is_nat h
      walk_at "go"
      refine e_ite (fun h => ?_) (fun h => ?_)
      · walk_at "go"
        refine e_E1 ?_
        walk_at "go"
        exact ⟨_, rfl, fun a H2 n s e => hQ a H2 n s (kp_0 e)⟩
      · walk_at "go"
        refine e_E1 ?_
        walk_at "go"
        exact ⟨_, rfl, fun a H2 n s e => hQ a H2 n s (kp_0 e)⟩
    have hk1 := past hk1 h
    walk_at "go"
    refine e_ite (fun h => ?_) (fun h => ?_)
    · obtain rfl : k = 1 := is_nat h
      walk_at "go"
      refine e_ite (fun h => ?_) (fun h => ?_)
      · walk_at "go"
        refine e_E1 ?_
        walk_at "go"
        exact ⟨_, rfl, fun a H2 n s e => hQ a H2 n s (kp_1 e)⟩
      · walk_at "go"
        refine e_E1 ?_
        walk_at "go"
        exact ⟨_, rfl, fun a H2 n s e => hQ a H2 n s (kp_1 e)⟩
    have hk1 := past hk1 h
    walk_at "go"
    refine e_ite (fun h => ?_) (fun h => ?_)
    · obtain rfl : k = 2 := is_nat h
      walk_at "go"
      refine e_ite (fun h => ?_) (fun h => ?_)
      · walk_at "go"
        refine e_E1 ?_
        walk_at "go"
        exact ⟨_, rfl, fun a H2 n s e => hQ a H2 n s (kp_2 e)⟩
      · walk_at "go"
        refine e_E1 ?_
        walk_at "go"
        exact ⟨_, rfl, fun a H2 n s e => hQ a H2 n s (kp_2 e)⟩
    have hk1 := past hk1 h
    walk_at "go"
    refine e_ite (fun h => ?_) (fun h => ?_)
    · obtain rfl : k = 3 := is_nat h
      walk_at "go"
      refine e_ite (fun h => ?_) (fun h => ?_)
      · walk_at "go"
        refine e_E1 ?_
        walk_at "go"
        exact ⟨_, rfl, fun a H2 n s e => hQ a H2 n s (kp_3 e)⟩
      · walk_at "go"
        refine e_E1 ?_
        walk_at "go"
        exact ⟨_, rfl, fun a H2 n s e => hQ a H2 n s (kp_3 e)⟩
    have hk1 := past hk1 h
    walk_at "go"
    refine e_ite (fun h => ?_) (fun h => ?_)
    · obtain rfl : k = 4 := is_nat h
      walk_at "go"
      refine e_ite (fun h => ?_) (fun h => ?_)
      · walk_at "go"
        refine e_E1 ?_
        walk_at "go"
        exact ⟨_, rfl, fun a H2 n s e => hQ a H2 n s (kp_4 e)⟩
      · walk_at "go"
        refine e_E1 ?_
        walk_at "go"
        exact ⟨_, rfl, fun a H2 n s e => hQ a H2 n s (kp_4 e)⟩
    have hk1 := past hk1 h
    walk_at "go"
    refine e_ite (fun h => ?_) (fun h => ?_)
    · obtain rfl : k = 5 := is_nat h
      walk_at "go"
      refine e_ite (fun h => ?_) (fun h => ?_)
      · walk_at "go"
        refine e_E1 ?_
        walk_at "go"
        exact ⟨_, rfl, fun a H2 n s e => hQ a H2 n s (kp_5 e)⟩
      · walk_at "go"
        refine e_E1 ?_
        walk_at "go"
        exact ⟨_, rfl, fun a H2 n s e => hQ a H2 n s (kp_5 e)⟩
    have hk1 := past hk1 h
    walk_at "go"
    refine e_ite (fun h => ?_) (fun h => ?_)
    · obtain rfl : k = 6 := is_nat h
      walk_at "go"
      refine e_ite (fun h => ?_) (fun h => ?_)
      · walk_at "go"
        refine e_E1 ?_
        walk_at "go"
        exact ⟨_, rfl, fun a H2 n s e => hQ a H2 n s (kp_6 e)⟩
      · walk_at "go"
        refine e_E1 ?_
        walk_at "go"
        exact ⟨_, rfl, fun a H2 n s e => hQ a H2 n s (kp_6 e)⟩
    have hk1 := past hk1 h
    walk_at "go"
    refine e_ite (fun h => ?_) (fun h => ?_)
    · obtain rfl : k = 7 := is_nat h
      walk_at "go"
      refine e_ite (fun h => ?_) (fun h => ?_)
      · walk_at "go"
        refine e_E1 ?_
        walk_at "go"
        exact ⟨_, rfl, fun a H2 n s e => hQ a H2 n s (kp_7 e)⟩
      · walk_at "go"
        refine e_E1 ?_
        walk_at "go"
        exact ⟨_, rfl, fun a H2 n s e => hQ a H2 n s (kp_7 e)⟩
    have hk1 := past hk1 h
    walk_at "go"
    refine e_ite (fun h => ?_) (fun h => ?_)
    · obtain rfl : k = 8 := is_nat h
      walk_at "go"
      refine e_ite (fun h => ?_) (fun h => ?_)
      · walk_at "go"
        refine e_E1 ?_
        walk_at "go"
        exact ⟨_, rfl, fun a H2 n s e => hQ a H2 n s (kp_8 e)⟩
      · walk_at "go"
        refine e_E1 ?_
        walk_at "go"
        exact ⟨_, rfl, fun a H2 n s e => hQ a H2 n s (kp_8 e)⟩
    have hk1 := past hk1 h
    walk_at "go"
    refine e_ite (fun h => ?_) (fun h => ?_)
    · obtain rfl : k = 9 := is_nat h
      walk_at "go"
      refine e_ite (fun h => ?_) (fun h => ?_)
      · walk_at "go"
        refine e_E1 ?_
        walk_at "go"
        exact ⟨_, rfl, fun a H2 n s e => hQ a H2 n s (kp_9 e)⟩
      · walk_at "go"
        refine e_E1 ?_
        walk_at "go"
        exact ⟨_, rfl, fun a H2 n s e => hQ a H2 n s (kp_9 e)⟩
    have hk1 := past hk1 h
    walk_at "go"
    refine e_ite (fun h => ?_) (fun h => ?_)
    · obtain rfl : k = 10 := is_nat h
      walk_at "go"
      refine e_ite (fun h => ?_) (fun h => ?_)
      · walk_at "go"
        refine e_E1 ?_
        walk_at "go"
        exact ⟨_, rfl, fun a H2 n s e => hQ a H2 n s (kp_10 e)⟩
      · walk_at "go"
        refine e_E1 ?_
        walk_at "go"
        exact ⟨_, rfl, fun a H2 n s e => hQ a H2 n s (kp_10 e)⟩
    have hk1 := past hk1 h
    walk_at "go"
    refine e_ite (fun h => ?_) (fun h => ?_)
    · obtain rfl : k = 11 := is_nat h
      walk_at "go"
      refine e_ite (fun h => ?_) (fun h => ?_)
      · walk_at "go"
        refine e_E1 ?_
        walk_at "go"
        exact ⟨_, rfl, fun a H2 n s e => hQ a H2 n s (kp_11 e)⟩
      · walk_at "go"
        refine e_E1 ?_
        walk_at "go"
        exact ⟨_, rfl, fun a H2 n s e => hQ a H2 n s (kp_11 e)⟩
    have hk1 := past hk1 h
    walk_at "go"
    refine e_ite (fun h => ?_) (fun h => ?_)
    · obtain rfl : k = 12 := is_nat h
      walk_at "go"
      refine e_ite (fun h => ?_) (fun h => ?_)
      · walk_at "go"
        refine e_E1 ?_
        walk_at "go"
        exact ⟨_, rfl, fun a H2 n s e => hQ a H2 n s (kp_12 e)⟩
      · walk_at "go"
        refine e_E1 ?_
        walk_at "go"
        exact ⟨_, rfl, fun a H2 n s e => hQ a H2 n s (kp_12 e)⟩
    have hk1 := past hk1 h
    walk_at "go"
    refine e_ite (fun h => ?_) (fun h => ?_)
    · obtain rfl : k = 13 := is_nat h
      walk_at "go"
      refine e_ite (fun h => ?_) (fun h => ?_)
      · walk_at "go"
        refine e_E1 ?_
        walk_at "go"
        exact ⟨_, rfl, fun a H2 n s e => hQ a H2 n s (kp_13 e)⟩
      · walk_at "go"
        refine e_E1 ?_
        walk_at "go"
        exact ⟨_, rfl, fun a H2 n s e => hQ a H2 n s (kp_13 e)⟩
    have hk1 := past hk1 h
    walk_at "go"
    refine e_ite (fun h => ?_) (fun h => ?_)
    · obtain rfl : k = 14 := is_nat h
      walk_at "go"
      refine e_ite (fun h => ?_) (fun h => ?_)
      · walk_at "go"
        refine e_E1 ?_
        walk_at "go"
        exact ⟨_, rfl, fun a H2 n s e => hQ a H2 n s (kp_14 e)⟩
      · walk_at "go"
        refine e_E1 ?_
        walk_at "go"
        exact ⟨_, rfl, fun a H2 n s e => hQ a H2 n s (kp_14 e)⟩
    have hk1 := past hk1 h
    walk_at "go"
    refine e_ite (fun h => ?_) (fun h => ?_)
    · obtain rfl : k = 15 := is_nat h
      walk_at "go"
      refine e_ite (fun h => ?_) (fun h => ?_)
      · walk_at "go"
        refine e_E1 ?_
        walk_at "go"
        exact ⟨_, rfl, fun a H2 n s e => hQ a H2 n s (kp_15 e)⟩
      · walk_at "go"
        refine e_E1 ?_
        walk_at "go"
        exact ⟨_, rfl, fun a H2 n s e => hQ a H2 n s (kp_15 e)⟩
    have hk1 := past hk1 h
    walk_at "go"
    refine e_ite (fun h => ?_) (fun h => ?_)
    · obtain rfl : k = 16 := is_nat h
      walk_at "go"
      refine e_ite (fun h => ?_) (fun h => ?_)
      · walk_at "go"
        refine e_E1 ?_
        walk_at "go"
        exact ⟨_, rfl, fun a H2 n s e => hQ a H2 n s (kp_16 e)⟩
      · walk_at "go"
        refine e_E1 ?_
        walk_at "go"
        exact ⟨_, rfl, fun a H2 n s e => hQ a H2 n s (kp_16 e)⟩
    have hk1 := past hk1 h
    walk_at "go"
    omega

theorem ok_made_b {fd : FuncData} (F : Stands K d_made_b fd) (T : Es P w K mg base) : FnOk P w K mg base CX0 3 d_made_b.adr fd ["which", "thing", "by_name"] (spMade 17 34) := by
  refine FunD.ok F sc_made_b (fun vs H Q E h => ?_) (fun cdv A outer s H vs Q E hr h => ⟨_, PSs.nox (pss_cons (ps_if (pt_cmpR op_eq (pv 0) pe_int (nomark _)) (pss_one (ps_ret (pe_ifExp (pt_val (pv 2)) (pe_EK T.e17 hr rfl (pk_cons (pv 1) pk_nil)) (pe_E1 T.e17 hr rfl (pa_cons (pv 1) pa_nil))))) pss_nil)
  (pss_cons (ps_if (pt_cmpR op_eq (pv 0) pe_int (nomark _)) (pss_one (ps_ret (pe_ifExp (pt_val (pv 2)) (pe_EK T.e18 hr rfl (pk_cons (pv 1) pk_nil)) (pe_E1 T.e18 hr rfl (pa_cons (pv 1) pa_nil))))) pss_nil)
  (pss_cons (ps_if (pt_cmpR op_eq (pv 0) pe_int (nomark _)) (pss_one (ps_ret (pe_ifExp (pt_val (pv 2)) (pe_EK T.e19 hr rfl (pk_cons (pv 1) pk_nil)) (pe_E1 T.e19 hr rfl (pa_cons (pv 1) pa_nil))))) pss_nil)
  (pss_cons (ps_if (pt_cmpR op_eq (pv 0) pe_int (nomark _)) (pss_one (ps_ret (pe_ifExp (pt_val (pv 2)) (pe_EK T.e20 hr rfl (pk_cons (pv 1) pk_nil)) (pe_E1 T.e20 hr rfl (pa_cons (pv 1) pa_nil))))) pss_nil)
  (pss_cons (ps_if (pt_cmpR op_eq (pv 0) pe_int (nomark _)) (pss_one (ps_ret (pe_ifExp (pt_val (pv 2)) (pe_EK T.e21 hr rfl (pk_cons (pv 1) pk_nil)) (pe_E1 T.e21 hr rfl (pa_cons (pv 1) pa_nil))))) pss_nil)
  (pss_cons (ps_if (pt_cmpR op_eq (pv 0) pe_int (nomark _)) (pss_one (ps_ret (pe_ifExp (pt_val (pv 2)) (pe_EK T.e22 hr rfl (pk_cons (pv 1) pk_nil)) (pe_E1 T.e22 hr rfl (pa_cons (pv 1) pa_nil))))) pss_nil)
  (pss_cons (ps_if (pt_cmpR op_eq (pv 0) pe_int (nomark _)) (pss_one (ps_ret (pe_ifExp (pt_val (pv 2)) (pe_EK T.e23 hr rfl (pk_cons (pv 1) pk_nil)) (pe_E1 T.e23 hr rfl (pa_cons (pv 1) pa_nil))))) pss_nil)
  (pss_cons (ps_if (pt_cmpR op_eq (pv 0) pe_int (nomark _)) (pss_one (ps_ret (pe_ifExp (pt_val (pv 2)) (pe_EK T.e24 hr rfl (pk_cons (pv 1) pk_nil)) (pe_E1 T.e24 hr rfl (pa_cons (pv 1) pa_nil))))) pss_nil)
  (pss_cons (ps_if (pt_cmpR op_eq (pv 0) pe_int (nomark _)) (pss_one (ps_ret (pe_ifExp (pt_val (pv 2)) (pe_EK T.e25 hr rfl (pk_cons (pv 1) pk_nil)) (pe_E1 T.e25 hr rfl (pa_cons (pv 1) pa_nil))))) pss_nil)
  (pss_cons (ps_if (pt_cmpR op_eq (pv 0) pe_int (nomark _)) (pss_one (ps_ret (pe_ifExp (pt_val (pv 2)) (pe_EK T.e26 hr rfl (pk_cons (pv 1) pk_nil)) (pe_E1 T.e26 hr rfl (pa_cons (pv 1) pa_nil))))) pss_nil)
  (pss_cons (ps_if (pt_cmpR op_eq (pv 0) pe_int (nomark _)) (pss_one (ps_ret (pe_ifExp (pt_val (pv 2)) (pe_EK T.e27 hr rfl (pk_cons (pv 1) pk_nil)) (pe_E1 T.e27 hr rfl (pa_cons (pv 1) pa_nil))))) pss_nil)
  (pss_cons (ps_if (pt_cmpR op_eq (pv 0) pe_int (nomark _)) (pss_one (ps_ret (pe_ifExp (pt_val (pv 2)) (pe_EK T.e28 hr rfl (pk_cons (pv 1) pk_nil)) (pe_E1 T.e28 hr rfl (pa_cons (pv 1) pa_nil))))) pss_nil)
  (pss_cons (ps_if (pt_cmpR op_eq (pv 0) pe_int (nomark _)) (pss_one (ps_ret (pe_ifExp (pt_val (pv 2)) (pe_EK T.e29 hr rfl (pk_cons (pv 1) pk_nil)) (pe_E1 T.e29 hr rfl (pa_cons (pv 1) pa_nil))))) pss_nil)
  (pss_cons (ps_if (pt_cmpR op_eq (pv 0) pe_int (nomark _)) (pss_one (ps_ret (pe_ifExp (pt_val (pv 2)) (pe_EK T.e30 hr rfl (pk_cons (pv 1) pk_nil)) (pe_E1 T.e30 hr rfl (pa_cons (pv 1) pa_nil))))) pss_nil)
  (pss_cons (ps_if (pt_cmpR op_eq (pv 0) pe_int (nomark _)) (pss_one (ps_ret (pe_ifExp (pt_val (pv 2)) (pe_EK T.e31 hr rfl (pk_cons (pv 1) pk_nil)) (pe_E1 T.e31 hr rfl (pa_cons (pv 1) pa_nil))))) pss_nil)
  (pss_cons (ps_if (pt_cmpR op_eq (pv 0) pe_int (nomark _)) (pss_one (ps_ret (pe_ifExp (pt_val (pv 2)) (pe_EK T.e32 hr rfl (pk_cons (pv 1) pk_nil)) (pe_E1 T.e32 hr rfl (pa_cons (pv 1) pa_nil))))) pss_nil)
  (pss_cons (ps_if (pt_cmpR op_eq (pv 0) pe_int (nomark _)) (pss_one (ps_ret (pe_ifExp (pt_val (pv 2)) (pe_EK T.e33 hr rfl (pk_cons (pv 1) pk_nil)) (pe_E1 T.e33 hr rfl (pa_cons (pv 1) pa_nil))))) pss_nil)
  (pss_one (ps_ret pe_non))))))))))))))))))), ?_⟩)
  · obtain ⟨k, v, b, rfl, _⟩ := h
    rfl
  · obtain ⟨k, v, b, rfl, hk1, hk2, hQ⟩ := h
    try dsimp only [cxOf, Cx.nox, Cx.wish]
    walk_at "go"
    refine e_ite (fun h => ?_) (fun h => ?_)
    · obtain rfl : k = 17 := is_nat h
      walk_at "go"
      refine e_ite (fun h => ?_) (fun h => ?_)
      · walk_at "go"
        refine e_E1 ?_
        walk_at "go"
        exact ⟨_, rfl, fun a H2 n s e => hQ a H2 n s (kp_17 e)⟩
      · walk_at "go"
        refine e_E1 ?_
        walk_at "go"
        exact ⟨_, rfl, fun a H2 n s e => hQ a H2 n s (kp_17 e)⟩
    have hk1 := past hk1 h
    walk_at "go"
    refine e_ite (fun h => ?_) (fun h => ?_)
    · obtain rfl : k = 18 := is_nat h
      walk_at "go"
      refine e_ite (fun h => ?_) (fun h => ?_)
      · walk_at "go"
        refine e_E1 ?_
        walk_at "go"
        exact ⟨_, rfl, fun a H2 n s e => hQ a H2 n s (kp_18 e)⟩
      · walk_at "go"
        refine e_E1 ?_
        walk_at "go"
        exact ⟨_, rfl, fun a H2 n s e => hQ a H2 n s (kp_18 e)⟩
    have hk1 := past hk1 h
    walk_at "go"
    refine e_ite (fun h => ?_) (fun h => ?_)
    · obtain rfl : k = 19 := is_nat h
      walk_at "go"
      refine e_ite (fun h => ?_) (fun h => ?_)
      · walk_at "go"
        refine e_E1 ?_
        walk_at "go"
        exact ⟨_, rfl, fun a H2 n s e => hQ a H2 n s (kp_19 e)⟩
      · walk_at "go"
        refine e_E1 ?_
        walk_at "go"
        exact ⟨_, rfl, fun a H2 n s e => hQ a H2 n s (kp_19 e)⟩
    have hk1 := past hk1 h
    walk_at "go"
    refine e_ite (fun h => ?_) (fun h => ?_)
    · obtain rfl : k = 20 := is_nat h
      walk_at "go"
      refine e_ite (fun h => ?_) (fun h => ?_)
      · walk_at "go"
        refine e_E1 ?_
        walk_at "go"
        exact ⟨_, rfl, fun a H2 n s e => hQ a H2 n s (kp_20 e)⟩
      · walk_at "go"
        refine e_E1 ?_
        walk_at "go"
        exact ⟨_, rfl, fun a H2 n s e => hQ a H2 n s (kp_20 e)⟩
    have hk1 := past hk1 h
    walk_at "go"
    refine e_ite (fun h => ?_) (fun h => ?_)
    · obtain rfl : k = 21 := is_nat h
      walk_at "go"
      refine e_ite (fun h => ?_) (fun h => ?_)
      · walk_at "go"
        refine e_E1 ?_
        walk_at "go"
        exact ⟨_, rfl, fun a H2 n s e => hQ a H2 n s (kp_21 e)⟩
      · walk_at "go"
        refine e_E1 ?_
        walk_at "go"
        exact ⟨_, rfl, fun a H2 n s e => hQ a H2 n s (kp_21 e)⟩
    have hk1 := past hk1 h
    walk_at "go"
    refine e_ite (fun h => ?_) (fun h => ?_)
    · obtain rfl : k = 22 := is_nat h
      walk_at "go"
      refine e_ite (fun h => ?_) (fun h => ?_)
      · walk_at "go"
        refine e_E1 ?_
        walk_at "go"
        exact ⟨_, rfl, fun a H2 n s e => hQ a H2 n s (kp_22 e)⟩
      · walk_at "go"
        refine e_E1 ?_
        walk_at "go"
        exact ⟨_, rfl, fun a H2 n s e => hQ a H2 n s (kp_22 e)⟩
    have hk1 := past hk1 h
    walk_at "go"
    refine e_ite (fun h => ?_) (fun h => ?_)
    · obtain rfl : k = 23 := is_nat h
      walk_at "go"
      refine e_ite (fun h => ?_) (fun h => ?_)
      · walk_at "go"
        refine e_E1 ?_
        walk_at "go"
        exact ⟨_, rfl, fun a H2 n s e => hQ a H2 n s (kp_23 e)⟩
      · walk_at "go"
        refine e_E1 ?_
        walk_at "go"
        exact ⟨_, rfl, fun a H2 n s e => hQ a H2 n s (kp_23 e)⟩
    have hk1 := past hk1 h
    walk_at "go"
    refine e_ite (fun h => ?_) (fun h => ?_)
    · obtain rfl : k = 24 := is_nat h
      walk_at "go"
      refine e_ite (fun h => ?_) (fun h => ?_)
      · walk_at "go"
        refine e_E1 ?_
        walk_at "go"
        exact ⟨_, rfl, fun a H2 n s e => hQ a H2 n s (kp_24 e)⟩
      · walk_at "go"
        refine e_E1 ?_
        walk_at "go"
        exact ⟨_, rfl, fun a H2 n s e => hQ a H2 n s (kp_24 e)⟩
    have hk1 := past hk1 h
    walk_at "go"
    refine e_ite (fun h => ?_) (fun h => ?_)
    · obtain rfl : k = 25 := is_nat h
      walk_at "go"
      refine e_ite (fun h => ?_) (fun h => ?_)
      · walk_at "go"
        refine e_E1 ?_
        walk_at "go"
        exact ⟨_, rfl, fun a H2 n s e => hQ a H2 n s (kp_25 e)⟩
      · walk_at "go"
        refine e_E1 ?_
        walk_at "go"
        exact ⟨_, rfl, fun a H2 n s e => hQ a H2 n s (kp_25 e)⟩
    have hk1 := past hk1 h
    walk_at "go"
    refine e_ite (fun h => ?_) (fun h => ?_)
    · obtain rfl : k = 26 := is_nat h
      walk_at "go"
      refine e_ite (fun h => ?_) (fun h => ?_)
      · walk_at "go"
        refine e_E1 ?_
        walk_at "go"
        exact ⟨_, rfl, fun a H2 n s e => hQ a H2 n s (kp_26 e)⟩
      · walk_at "go"
        refine e_E1 ?_
        walk_at "go"
        exact ⟨_, rfl, fun a H2 n s e => hQ a H2 n s (kp_26 e)⟩
    have hk1 := past hk1 h
    walk_at "go"
    refine e_ite (fun h => ?_) (fun h => ?_)
    · obtain rfl : k = 27 := is_nat h
      walk_at "go"
      refine e_ite (fun h => ?_) (fun h => ?_)
      · walk_at "go"
        refine e_E1 ?_
        walk_at "go"
        exact ⟨_, rfl, fun a H2 n s e => hQ a H2 n s (kp_27 e)⟩
      · walk_at "go"
        refine e_E1 ?_
        walk_at "go"
        exact ⟨_, rfl, fun a H2 n s e => hQ a H2 n s (kp_27 e)⟩
    have hk1 := past hk1 h
    walk_at "go"
    refine e_ite (fun h => ?_) (fun h => ?_)
    · obtain rfl : k = 28 := is_nat h
      walk_at "go"
      refine e_ite (fun h => ?_) (fun h => ?_)
      · walk_at "go"
        refine e_E1 ?_
        walk_at "go"
        exact ⟨_, rfl, fun a H2 n s e => hQ a H2 n s (kp_28 e)⟩
      · walk_at "go"
        refine e_E1 ?_
        walk_at "go"
        exact ⟨_, rfl, fun a H2 n s e => hQ a H2 n s (kp_28 e)⟩
    have hk1 := past hk1 h
    walk_at "go"
    refine e_ite (fun h => ?_) (fun h => ?_)
    · obtain rfl : k = 29 := is_nat h
      walk_at "go"
      refine e_ite (fun h => ?_) (fun h => ?_)
      · walk_at "go"
        refine e_E1 ?_
        walk_at "go"
        exact ⟨_, rfl, fun a H2 n s e => hQ a H2 n s (kp_29 e)⟩
      · walk_at "go"
        refine e_E1 ?_
        walk_at "go"
        exact ⟨_, rfl, fun a H2 n s e => hQ a H2 n s (kp_29 e)⟩
    have hk1 := past hk1 h
    walk_at "go"
    refine e_ite (fun h => ?_) (fun h => ?_)
    · obtain rfl : k = 30 := is_nat h
      walk_at "go"
      refine e_ite (fun h => ?_) (fun h => ?_)
      · walk_at "go"
        refine e_E1 ?_
        walk_at "go"
        exact ⟨_, rfl, fun a H2 n s e => hQ a H2 n s (kp_30 e)⟩
      · walk_at "go"
        refine e_E1 ?_
        walk_at "go"
        exact ⟨_, rfl, fun a H2 n s e => hQ a H2 n s (kp_30 e)⟩
    have hk1 := past hk1 h
    walk_at "go"
    refine e_ite (fun h => ?_) (fun h => ?_)
    · obtain rfl : k = 31 := is_nat h
      walk_at "go"
      refine e_ite (fun h => ?_) (fun h => ?_)
      · walk_at "go"
        refine e_E1 ?_
        walk_at "go"
        exact ⟨_, rfl, fun a H2 n s e => hQ a H2 n s (kp_31 e)⟩
      · walk_at "go"
        refine e_E1 ?_
        walk_at "go"
        exact ⟨_, rfl, fun a H2 n s e => hQ a H2 n s (kp_31 e)⟩
    have hk1 := past hk1 h
    walk_at "go"
    refine e_ite (fun h => ?_) (fun h => ?_)
    · obtain rfl : k = 32 := is_nat h
      walk_at "go"
      refine e_ite (fun h => ?_) (fun h => ?_)
      · walk_at "go"
        refine e_E1 ?_
        walk_at "go"
        exact ⟨_, rfl, fun a H2 n s e => hQ a H2 n s (kp_32 e)⟩
      · walk_at "go"
        refine e_E1 ?_
        walk_at "go"
        exact ⟨_, rfl, fun a H2 n s e => hQ a H2 n s (kp_32 e)⟩
    have hk1 := past hk1 h
    walk_at "go"
    refine e_ite (fun h => ?_) (fun h => ?_)
    · obtain rfl : k = 33 := is_nat h
      walk_at "go"
      refine e_ite (fun h => ?_) (fun h => ?_)
      · walk_at "go"
        refine e_E1 ?_
        walk_at "go"
        exact ⟨_, rfl, fun a H2 n s e => hQ a H2 n s (kp_33 e)⟩
      · walk_at "go"
        refine e_E1 ?_
        walk_at "go"
        exact ⟨_, rfl, fun a H2 n s e => hQ a H2 n s (kp_33 e)⟩
    have hk1 := past hk1 h
    walk_at "go"
    omega

theorem ok_made_c {fd : FuncData} (F : Stands K d_made_c fd) (T : Es P w K mg base) : FnOk P w K mg base CX0 3 d_made_c.adr fd ["which", "thing", "by_name"] (spMade 34 51) := by
  refine FunD.ok F sc_made_c (fun vs H Q E h => ?_) (fun cdv A outer s H vs Q E hr h => ⟨_, PSs.nox (pss_cons (ps_if (pt_cmpR op_eq (pv 0) pe_int (nomark _)) (pss_one (ps_ret (pe_ifExp (pt_val (pv 2)) (pe_EK T.e34 hr rfl (pk_cons (pv 1) pk_nil)) (pe_E1 T.e34 hr rfl (pa_cons (pv 1) pa_nil))))) pss_nil)
  (pss_cons (ps_if (pt_cmpR op_eq (pv 0) pe_int (nomark _)) (pss_one (ps_ret (pe_ifExp (pt_val (pv 2)) (pe_EK T.e35 hr rfl (pk_cons (pv 1) pk_nil)) (pe_E1 T.e35 hr rfl (pa_cons (pv 1) pa_nil))))) pss_nil)
  (pss_cons (ps_if (pt_cmpR op_eq (pv 0) pe_int (nomark _)) (pss_one (ps_ret (pe_ifExp (pt_val (pv 2)) (pe_EK T.e36 hr rfl (pk_cons (pv 1) pk_nil)) (pe_E1 T.e36 hr rfl (pa_cons (pv 1) pa_nil))))) pss_nil)
  (pss_cons (ps_if (pt_cmpR op_eq (pv 0) pe_int (nomark _)) (pss_one (ps_ret (pe_ifExp (pt_val (pv 2)) (pe_EK T.e37 hr rfl (pk_cons (pv 1) pk_nil)) (pe_E1 T.e37 hr rfl (pa_cons (pv 1) pa_nil))))) pss_nil)
  (pss_cons (ps_if (pt_cmpR op_eq (pv 0) pe_int (nomark _)) (pss_one (ps_ret (pe_ifExp (pt_val (pv 2)) (pe_EK T.e38 hr rfl (pk_cons (pv 1) pk_nil)) (pe_E1 T.e38 hr rfl (pa_cons (pv 1) pa_nil))))) pss_nil)
  (pss_cons (ps_if (pt_cmpR op_eq (pv 0) pe_int (nomark _)) (pss_one (ps_ret (pe_ifExp (pt_val (pv 2)) (pe_EK T.e39 hr rfl (pk_cons (pv 1) pk_nil)) (pe_E1 T.e39 hr rfl (pa_cons (pv 1) pa_nil))))) pss_nil)
  (pss_cons (ps_if (pt_cmpR op_eq (pv 0) pe_int (nomark _)) (pss_one (ps_ret (pe_ifExp (pt_val (pv 2)) (pe_EK T.e40 hr rfl (pk_cons (pv 1) pk_nil)) (pe_E1 T.e40 hr rfl (pa_cons (pv 1) pa_nil))))) pss_nil)
  (pss_cons (ps_if (pt_cmpR op_eq (pv 0) pe_int (nomark _)) (pss_one (ps_ret (pe_ifExp (pt_val (pv 2)) (pe_EK T.e41 hr rfl (pk_cons (pv 1) pk_nil)) (pe_E1 T.e41 hr rfl (pa_cons (pv 1) pa_nil))))) pss_nil)
  (pss_cons (ps_if (pt_cmpR op_eq (pv 0) pe_int (nomark _)) (pss_one (ps_ret (pe_ifExp (pt_val (pv 2)) (pe_EK T.e42 hr rfl (pk_cons (pv 1) pk_nil)) (pe_E1 T.e42 hr rfl (pa_cons (pv 1) pa_nil))))) pss_nil)
  (pss_cons (ps_if (pt_cmpR op_eq (pv 0) pe_int (nomark _)) (pss_one (ps_ret (pe_ifExp (pt_val (pv 2)) (pe_EK T.e43 hr rfl (pk_cons (pv 1) pk_nil)) (pe_E1 T.e43 hr rfl (pa_cons (pv 1) pa_nil))))) pss_nil)
  (pss_cons (ps_if (pt_cmpR op_eq (pv 0) pe_int (nomark _)) (pss_one (ps_ret (pe_ifExp (pt_val (pv 2)) (pe_EK T.e44 hr rfl (pk_cons (pv 1) pk_nil)) (pe_E1 T.e44 hr rfl (pa_cons (pv 1) pa_nil))))) pss_nil)
  (pss_cons (ps_if (pt_cmpR op_eq (pv 0) pe_int (nomark _)) (pss_one (ps_ret (pe_ifExp (pt_val (pv 2)) (pe_EK T.e45 hr rfl (pk_cons (pv 1) pk_nil)) (pe_E1 T.e45 hr rfl (pa_cons (pv 1) pa_nil))))) pss_nil)
  (pss_cons (ps_if (pt_cmpR op_eq (pv 0) pe_int (nomark _)) (pss_one (ps_ret (pe_ifExp (pt_val (pv 2)) (pe_EK T.e46 hr rfl (pk_cons (pv 1) pk_nil)) (pe_E1 T.e46 hr rfl (pa_cons (pv 1) pa_nil))))) pss_nil)
  (pss_cons (ps_if (pt_cmpR op_eq (pv 0) pe_int (nomark _)) (pss_one (ps_ret (pe_ifExp (pt_val (pv 2)) (pe_EK T.e47 hr rfl (pk_cons (pv 1) pk_nil)) (pe_E1 T.e47 hr rfl (pa_cons (pv 1) pa_nil))))) pss_nil)
  (pss_cons (ps_if (pt_cmpR op_eq (pv 0) pe_int (nomark _)) (pss_one (ps_ret (pe_E0 T.e48 hr rfl))) pss_nil)
  (pss_cons (ps_if (pt_cmpR op_eq (pv 0) pe_int (nomark _)) (pss_one (ps_ret (pe_E0 T.e49 hr rfl))) pss_nil)
  (pss_cons (ps_if (pt_cmpR op_eq (pv 0) pe_int (nomark _)) (pss_one (ps_ret (pe_E0 T.e50 hr rfl))) pss_nil)
  (pss_one (ps_ret pe_non))))))))))))))))))), ?_⟩)
  · obtain ⟨k, v, b, rfl, _⟩ := h
    rfl
  · obtain ⟨k, v, b, rfl, hk1, hk2, hQ⟩ := h
    try dsimp only [cxOf, Cx.nox, Cx.wish]
    walk_at "go"
    refine e_ite (fun h => ?_) (fun h => ?_)
    · obtain rfl : k = 34 := is_nat h
      walk_at "go"
      refine e_ite (fun h => ?_) (fun h => ?_)
      · walk_at "go"
        refine e_E1 ?_
        walk_at "go"
        exact ⟨_, rfl, fun a H2 n s e => hQ a H2 n s (kp_34 e)⟩
      · walk_at "go"
        refine e_E1 ?_
        walk_at "go"
        exact ⟨_, rfl, fun a H2 n s e => hQ a H2 n s (kp_34 e)⟩
    have hk1 := past hk1 h
    walk_at "go"
    refine e_ite (fun h => ?_) (fun h => ?_)
    · obtain rfl : k = 35 := is_nat h
      walk_at "go"
      refine e_ite (fun h => ?_) (fun h => ?_)
      · walk_at "go"
        refine e_E1 ?_
        walk_at "go"
        exact ⟨_, rfl, fun a H2 n s e => hQ a H2 n s (kp_35 e)⟩
      · walk_at "go"
        refine e_E1 ?_
        walk_at "go"
        exact ⟨_, rfl, fun a H2 n s e => hQ a H2 n s (kp_35 e)⟩
    have hk1 := past hk1 h
    walk_at "go"
    refine e_ite (fun h => ?_) (fun h => ?_)
    · obtain rfl : k = 36 := is_nat h
      walk_at "go"
      refine e_ite (fun h => ?_) (fun h => ?_)
      · walk_at "go"
        refine e_E1 ?_
        walk_at "go"
        exact ⟨_, rfl, fun a H2 n s e => hQ a H2 n s (kp_36 e)⟩
      · walk_at "go"
        refine e_E1 ?_
        walk_at "go"
        exact ⟨_, rfl, fun a H2 n s e => hQ a H2 n s (kp_36 e)⟩
    have hk1 := past hk1 h
    walk_at "go"
    refine e_ite (fun h => ?_) (fun h => ?_)
    · obtain rfl : k = 37 := is_nat h
      walk_at "go"
      refine e_ite (fun h => ?_) (fun h => ?_)
      · walk_at "go"
        refine e_E1 ?_
        walk_at "go"
        exact ⟨_, rfl, fun a H2 n s e => hQ a H2 n s (kp_37 e)⟩
      · walk_at "go"
        refine e_E1 ?_
        walk_at "go"
        exact ⟨_, rfl, fun a H2 n s e => hQ a H2 n s (kp_37 e)⟩
    have hk1 := past hk1 h
    walk_at "go"
    refine e_ite (fun h => ?_) (fun h => ?_)
    · obtain rfl : k = 38 := is_nat h
      walk_at "go"
      refine e_ite (fun h => ?_) (fun h => ?_)
      · walk_at "go"
        refine e_E1 ?_
        walk_at "go"
        exact ⟨_, rfl, fun a H2 n s e => hQ a H2 n s (kp_38 e)⟩
      · walk_at "go"
        refine e_E1 ?_
        walk_at "go"
        exact ⟨_, rfl, fun a H2 n s e => hQ a H2 n s (kp_38 e)⟩
    have hk1 := past hk1 h
    walk_at "go"
    refine e_ite (fun h => ?_) (fun h => ?_)
    · obtain rfl : k = 39 := is_nat h
      walk_at "go"
      refine e_ite (fun h => ?_) (fun h => ?_)
      · walk_at "go"
        refine e_E1 ?_
        walk_at "go"
        exact ⟨_, rfl, fun a H2 n s e => hQ a H2 n s (kp_39 e)⟩
      · walk_at "go"
        refine e_E1 ?_
        walk_at "go"
        exact ⟨_, rfl, fun a H2 n s e => hQ a H2 n s (kp_39 e)⟩
    have hk1 := past hk1 h
    walk_at "go"
    refine e_ite (fun h => ?_) (fun h => ?_)
    · obtain rfl : k = 40 := is_nat h
      walk_at "go"
      refine e_ite (fun h => ?_) (fun h => ?_)
      · walk_at "go"
        refine e_E1 ?_
        walk_at "go"
        exact ⟨_, rfl, fun a H2 n s e => hQ a H2 n s (kp_40 e)⟩
      · walk_at "go"
        refine e_E1 ?_
        walk_at "go"
        exact ⟨_, rfl, fun a H2 n s e => hQ a H2 n s (kp_40 e)⟩
    have hk1 := past hk1 h
    walk_at "go"
    refine e_ite (fun h => ?_) (fun h => ?_)
    · obtain rfl : k = 41 := is_nat h
      walk_at "go"
      refine e_ite (fun h => ?_) (fun h => ?_)
      · walk_at "go"
        refine e_E1 ?_
        walk_at "go"
        exact ⟨_, rfl, fun a H2 n s e => hQ a H2 n s (kp_41 e)⟩
      · walk_at "go"
        refine e_E1 ?_
        walk_at "go"
        exact ⟨_, rfl, fun a H2 n s e => hQ a H2 n s (kp_41 e)⟩
    have hk1 := past hk1 h
    walk_at "go"
    refine e_ite (fun h => ?_) (fun h => ?_)
    · obtain rfl : k = 42 := is_nat h
      walk_at "go"
      refine e_ite (fun h => ?_) (fun h => ?_)
      · walk_at "go"
        refine e_E1 ?_
        walk_at "go"
        exact ⟨_, rfl, fun a H2 n s e => hQ a H2 n s (kp_42 e)⟩
      · walk_at "go"
        refine e_E1 ?_
        walk_at "go"
        exact ⟨_, rfl, fun a H2 n s e => hQ a H2 n s (kp_42 e)⟩
    have hk1 := past hk1 h
    walk_at "go"
    refine e_ite (fun h => ?_) (fun h => ?_)
    · obtain rfl : k = 43 := is_nat h
      walk_at "go"
      refine e_ite (fun h => ?_) (fun h => ?_)
      · walk_at "go"
        refine e_E1 ?_
        walk_at "go"
        exact ⟨_, rfl, fun a H2 n s e => hQ a H2 n s (kp_43 e)⟩
      · walk_at "go"
        refine e_E1 ?_
        walk_at "go"
        exact ⟨_, rfl, fun a H2 n s e => hQ a H2 n s (kp_43 e)⟩
    have hk1 := past hk1 h
    walk_at "go"
    refine e_ite (fun h => ?_) (fun h => ?_)
    · obtain rfl : k = 44 := is_nat h
      walk_at "go"
      refine e_ite (fun h => ?_) (fun h => ?_)
      · walk_at "go"
        refine e_E1 ?_
        walk_at "go"
        exact ⟨_, rfl, fun a H2 n s e => hQ a H2 n s (kp_44 e)⟩
      · walk_at "go"
        refine e_E1 ?_
        walk_at "go"
        exact ⟨_, rfl, fun a H2 n s e => hQ a H2 n s (kp_44 e)⟩
    have hk1 := past hk1 h
    walk_at "go"
    refine e_ite (fun h => ?_) (fun h => ?_)
    · obtain rfl : k = 45 := is_nat h
      walk_at "go"
      refine e_ite (fun h => ?_) (fun h => ?_)
      · walk_at "go"
        refine e_E1 ?_
        walk_at "go"
        exact ⟨_, rfl, fun a H2 n s e => hQ a H2 n s (kp_45 e)⟩
      · walk_at "go"
        refine e_E1 ?_
        walk_at "go"
        exact ⟨_, rfl, fun a H2 n s e => hQ a H2 n s (kp_45 e)⟩
    have hk1 := past hk1 h
    walk_at "go"
    refine e_ite (fun h => ?_) (fun h => ?_)
    · obtain rfl : k = 46 := is_nat h
      walk_at "go"
      refine e_ite (fun h => ?_) (fun h => ?_)
      · walk_at "go"
        refine e_E1 ?_
        walk_at "go"
        exact ⟨_, rfl, fun a H2 n s e => hQ a H2 n s (kp_46 e)⟩
      · walk_at "go"
        refine e_E1 ?_
        walk_at "go"
        exact ⟨_, rfl, fun a H2 n s e => hQ a H2 n s (kp_46 e)⟩
    have hk1 := past hk1 h
    walk_at "go"
    refine e_ite (fun h => ?_) (fun h => ?_)
    · obtain rfl : k = 47 := is_nat h
      walk_at "go"
      refine e_ite (fun h => ?_) (fun h => ?_)
      · walk_at "go"
        refine e_E1 ?_
        walk_at "go"
        exact ⟨_, rfl, fun a H2 n s e => hQ a H2 n s (kp_47 e)⟩
      · walk_at "go"
        refine e_E1 ?_
        walk_at "go"
        exact ⟨_, rfl, fun a H2 n s e => hQ a H2 n s (kp_47 e)⟩
    have hk1 := past hk1 h
    walk_at "go"
    refine e_ite (fun h => ?_) (fun h => ?_)
    · obtain rfl : k = 48 := is_nat h
      walk_at "go"
      exact fun a H2 n s e => hQ a H2 n s (kp_48 e)
    have hk1 := past hk1 h
    walk_at "go"
    refine e_ite (fun h => ?_) (fun h => ?_)
    · obtain rfl : k = 49 := is_nat h
      walk_at "go"
      exact fun a H2 n s e => hQ a H2 n s (kp_49 e)
    have hk1 := past hk1 h
    walk_at "go"
    refine e_ite (fun h => ?_) (fun h => ?_)
    · obtain rfl : k = 50 := is_nat h
      walk_at "go"
      exact fun a H2 n s e => hQ a H2 n s (kp_50 e)
    have hk1 := past hk1 h
    walk_at "go"
    omega


theorem ok_made {fd : FuncData} (F : Stands K d_made fd) (Fa : Fn P w K mg base CX0 3 "_law_made_a" ["which", "thing", "by_name"] (spMade 0 17)) (Fb : Fn P w K mg base CX0 3 "_law_made_b" ["which", "thing", "by_name"] (spMade 17 34))
    (Fc : Fn P w K mg base CX0 3 "_law_made_c" ["which", "thing", "by_name"] (spMade 34 51)) : FnOk P w K mg base CX0 4 d_made.adr fd ["which", "thing", "by_name"] (spMade 0 51) := by
  refine FunD.ok F sc_made (fun vs H Q E h => ?_) (fun cdv A outer s H vs Q E hr h => ⟨_, PSs.nox (pss_cons (ps_if (pt_cmpR op_lt (pv 0) pe_int (nomark _)) (pss_one (ps_ret (pe_fn Fa hr rfl (pa_cons (pv 0) (pa_cons (pv 1) (pa_cons (pv 2) pa_nil)))))) pss_nil)
  (pss_one (ps_ret (pe_ifExp (pt_cmpR op_lt (pv 0) pe_int (nomark _)) (pe_fn Fb hr rfl (pa_cons (pv 0) (pa_cons (pv 1) (pa_cons (pv 2) pa_nil)))) (pe_fn Fc hr rfl (pa_cons (pv 0) (pa_cons (pv 1) (pa_cons (pv 2) pa_nil)))))))), ?_⟩)
  · obtain ⟨k, v, b, rfl, _⟩ := h
    rfl
  · obtain ⟨k, v, b, rfl, hk1, hk2, hQ⟩ := h
    try dsimp only [cxOf, Cx.nox, Cx.wish]
    walk_at "go"
    refine e_ite (fun h => ?_) (fun h => ?_)
    · walk_at "go"
      exact ⟨k, v, b, rfl, hk1, by simp at h; omega, hQ⟩
    · walk_at "go"
      refine e_ite (fun h' => ?_) (fun h' => ?_)
      · walk_at "go"
        exact ⟨k, v, b, rfl, by simp at h; omega, by simp at h'; omega, hQ⟩
      · walk_at "go"
        exact ⟨k, v, b, rfl, by simp at h'; omega, hk2, hQ⟩
/-! ### what an error keeps, read -/
theorem no_at (hB : exB K = true) (k : Nat) (h : k < 51) (f : Str) (e : fAt k = some f) : PySem.W.findIn K (.ref (cAd k)) f = some none := by
  obtain ⟨q, _, hm, e1, e2⟩ := clss_at k h
  have z := iniB_ok (exB_at hB hm).2.2.2
  rw [e1] at z
  exact z.att f (e2.trans e)
theorem fAt_given : ∀ k, k < 42 → fAt k = some "given" := by decide +kernel
theorem e_errF {f : Str} {te : TE} {σ : L2.St} {H : Hp} {Q : VK} (q : te σ H fun x H1 => ∃ (a C : Addr) (v : V), x = .ref a ∧ AskC K C ∧ PySem.W.findIn K (.ref C) f = some none ∧ Err1 H1 a C f v ∧ Q v H1) : tErrF K f te σ H Q := q
def spField : Sp := fun vs H Q _ => ∃ (k : Nat) (a : Addr) (v : V), vs = [.int k, .ref a] ∧ k < 48 ∧ Keeps H a k v ∧ Q v H
theorem sc_field : FnScope ["which", "error"] ["which", "error"] d_field.sco := ⟨rfl, rfl, rfl, by decide +kernel, rfl, by decide +kernel, by decide +kernel⟩
theorem keeps1 {H : Hp} {a : Addr} {v : V} {k : Nat} {f : Str} (h : Keeps H a k v) (e : fAt k = some f) : Err1 H a (cAd k) f v := by
  unfold Keeps at h
  rw [e] at h
  exact h
theorem ok_field {fd : FuncData} (F : Stands K d_field fd) (hB : exB K = true) (KK : Kinds K) : FnOk P w K mg base CX0 1 d_field.adr fd ["which", "error"] spField := by
  refine FunD.ok F sc_field (fun vs H Q E h => ?_) (fun cdv A outer s H vs Q E hr h => ⟨_, PSs.nox (pss_cons (ps_if (pt_cmpR op_lt (pv 0) pe_int (nomark _)) (pss_one (ps_ret (pe_errF (pv 1)))) pss_nil)
  (pss_cons (ps_if (pt_cmpR op_eq (pv 0) pe_int (nomark _)) (pss_one (ps_ret (pe_errF (pv 1)))) pss_nil)
  (pss_cons (ps_if (pt_cmpR op_eq (pv 0) pe_int (nomark _)) (pss_one (ps_ret (pe_errF (pv 1)))) pss_nil)
  (pss_cons (ps_if (pt_cmpR op_eq (pv 0) pe_int (nomark _)) (pss_one (ps_ret (pe_errF (pv 1)))) pss_nil)
  (pss_cons (ps_if (pt_cmpR op_eq (pv 0) pe_int (nomark _)) (pss_one (ps_ret (pe_errF (pv 1)))) pss_nil)
  (pss_cons (ps_if (pt_cmpR op_eq (pv 0) pe_int (nomark _)) (pss_one (ps_ret (pe_errF (pv 1)))) pss_nil)
  (pss_cons (ps_if (pt_cmpR op_eq (pv 0) pe_int (nomark _)) (pss_one (ps_ret (pe_errF (pv 1)))) pss_nil)
  (pss_one (ps_ret pe_non))))))))), ?_⟩)
  · obtain ⟨k, a, v, rfl, _⟩ := h
    rfl
  · obtain ⟨k, a, v, rfl, hk, hv, hQ⟩ := h
    have fin : ∀ f, fAt k = some f → ∃ (a' C : Addr) (v' : V), V.ref a = .ref a' ∧ AskC K C ∧ PySem.W.findIn K (.ref C) f = some none ∧ Err1 H a' C f v' ∧ Q v' H := fun f e => ⟨a, cAd k, v, rfl, KK.ask k (by omega), no_at hB k (by omega) f e, keeps1 hv e, hQ⟩
    try dsimp only [cxOf, Cx.nox, Cx.wish]
    walk_at "go"
    refine e_ite (fun h => ?_) (fun h => ?_)
    · walk_at "go"
      refine e_errF ?_
      walk_at "go"
      exact fin _ (fAt_given k (by simp at h; omega))
    walk_at "go"
    have hk1 : 42 ≤ k := by simp at h; omega
    refine e_ite (fun h => ?_) (fun h => ?_)
    · obtain rfl : k = 42 := is_nat h
      walk_at "go"
      refine e_errF ?_
      walk_at "go"
      exact fin _ rfl
    have hk1 := past hk1 h
    walk_at "go"
    refine e_ite (fun h => ?_) (fun h => ?_)
    · obtain rfl : k = 43 := is_nat h
      walk_at "go"
      refine e_errF ?_
      walk_at "go"
      exact fin _ rfl
    have hk1 := past hk1 h
    walk_at "go"
    refine e_ite (fun h => ?_) (fun h => ?_)
    · obtain rfl : k = 44 := is_nat h
      walk_at "go"
      refine e_errF ?_
      walk_at "go"
      exact fin _ rfl
    have hk1 := past hk1 h
    walk_at "go"
    refine e_ite (fun h => ?_) (fun h => ?_)
    · obtain rfl : k = 45 := is_nat h
      walk_at "go"
      refine e_errF ?_
      walk_at "go"
      exact fin _ rfl
    have hk1 := past hk1 h
    walk_at "go"
    refine e_ite (fun h => ?_) (fun h => ?_)
    · obtain rfl : k = 46 := is_nat h
      walk_at "go"
      refine e_errF ?_
      walk_at "go"
      exact fin _ rfl
    have hk1 := past hk1 h
    walk_at "go"
    refine e_ite (fun h => ?_) (fun h => ?_)
    · obtain rfl : k = 47 := is_nat h
      walk_at "go"
      refine e_errF ?_
      walk_at "go"
      exact fin _ rfl
    have hk1 := past hk1 h
    walk_at "go"
    omega
end
end K00
namespace K00
open PySem PySem.Spec PyProof.Rows L2 WkH WkE WkG WkR WkS WkP WkF
/-- what the error in the air carries -/
def Carries (H : Hp) (k : Nat) (d : Option Addr) (v : V) : Prop := match fAt k with
  | some f => ∃ d0, d = some d0 ∧ H d0 = some (.xd [(f, v)])
  | none => d = none
theorem ca_0 : (44 : Addr) = cAd 0 := rfl
theorem cp_0 {H : Hp} {d : Addr} {v : V} (h : H d = some (.xd [("given", v)])) : Carries H 0 (some d) v := ⟨d, rfl, h⟩
theorem ca_1 : (63 : Addr) = cAd 1 := rfl
theorem cp_1 {H : Hp} {d : Addr} {v : V} (h : H d = some (.xd [("given", v)])) : Carries H 1 (some d) v := ⟨d, rfl, h⟩
theorem ca_2 : (82 : Addr) = cAd 2 := rfl
theorem cp_2 {H : Hp} {d : Addr} {v : V} (h : H d = some (.xd [("given", v)])) : Carries H 2 (some d) v := ⟨d, rfl, h⟩
theorem ca_3 : (101 : Addr) = cAd 3 := rfl
theorem cp_3 {H : Hp} {d : Addr} {v : V} (h : H d = some (.xd [("given", v)])) : Carries H 3 (some d) v := ⟨d, rfl, h⟩
theorem ca_4 : (120 : Addr) = cAd 4 := rfl
theorem cp_4 {H : Hp} {d : Addr} {v : V} (h : H d = some (.xd [("given", v)])) : Carries H 4 (some d) v := ⟨d, rfl, h⟩
theorem ca_5 : (139 : Addr) = cAd 5 := rfl
theorem cp_5 {H : Hp} {d : Addr} {v : V} (h : H d = some (.xd [("given", v)])) : Carries H 5 (some d) v := ⟨d, rfl, h⟩
theorem ca_6 : (158 : Addr) = cAd 6 := rfl
theorem cp_6 {H : Hp} {d : Addr} {v : V} (h : H d = some (.xd [("given", v)])) : Carries H 6 (some d) v := ⟨d, rfl, h⟩
theorem ca_7 : (177 : Addr) = cAd 7 := rfl
theorem cp_7 {H : Hp} {d : Addr} {v : V} (h : H d = some (.xd [("given", v)])) : Carries H 7 (some d) v := ⟨d, rfl, h⟩
theorem ca_8 : (196 : Addr) = cAd 8 := rfl
theorem cp_8 {H : Hp} {d : Addr} {v : V} (h : H d = some (.xd [("given", v)])) : Carries H 8 (some d) v := ⟨d, rfl, h⟩
theorem ca_9 : (215 : Addr) = cAd 9 := rfl
theorem cp_9 {H : Hp} {d : Addr} {v : V} (h : H d = some (.xd [("given", v)])) : Carries H 9 (some d) v := ⟨d, rfl, h⟩
theorem ca_10 : (234 : Addr) = cAd 10 := rfl
theorem cp_10 {H : Hp} {d : Addr} {v : V} (h : H d = some (.xd [("given", v)])) : Carries H 10 (some d) v := ⟨d, rfl, h⟩
theorem ca_11 : (253 : Addr) = cAd 11 := rfl
theorem cp_11 {H : Hp} {d : Addr} {v : V} (h : H d = some (.xd [("given", v)])) : Carries H 11 (some d) v := ⟨d, rfl, h⟩
theorem ca_12 : (272 : Addr) = cAd 12 := rfl
theorem cp_12 {H : Hp} {d : Addr} {v : V} (h : H d = some (.xd [("given", v)])) : Carries H 12 (some d) v := ⟨d, rfl, h⟩
theorem ca_13 : (291 : Addr) = cAd 13 := rfl
theorem cp_13 {H : Hp} {d : Addr} {v : V} (h : H d = some (.xd [("given", v)])) : Carries H 13 (some d) v := ⟨d, rfl, h⟩
theorem ca_14 : (310 : Addr) = cAd 14 := rfl
theorem cp_14 {H : Hp} {d : Addr} {v : V} (h : H d = some (.xd [("given", v)])) : Carries H 14 (some d) v := ⟨d, rfl, h⟩
theorem ca_15 : (329 : Addr) = cAd 15 := rfl
theorem cp_15 {H : Hp} {d : Addr} {v : V} (h : H d = some (.xd [("given", v)])) : Carries H 15 (some d) v := ⟨d, rfl, h⟩
theorem ca_16 : (348 : Addr) = cAd 16 := rfl
theorem cp_16 {H : Hp} {d : Addr} {v : V} (h : H d = some (.xd [("given", v)])) : Carries H 16 (some d) v := ⟨d, rfl, h⟩
theorem ca_17 : (367 : Addr) = cAd 17 := rfl
theorem cp_17 {H : Hp} {d : Addr} {v : V} (h : H d = some (.xd [("given", v)])) : Carries H 17 (some d) v := ⟨d, rfl, h⟩
theorem ca_18 : (386 : Addr) = cAd 18 := rfl
theorem cp_18 {H : Hp} {d : Addr} {v : V} (h : H d = some (.xd [("given", v)])) : Carries H 18 (some d) v := ⟨d, rfl, h⟩
theorem ca_19 : (405 : Addr) = cAd 19 := rfl
theorem cp_19 {H : Hp} {d : Addr} {v : V} (h : H d = some (.xd [("given", v)])) : Carries H 19 (some d) v := ⟨d, rfl, h⟩
theorem ca_20 : (424 : Addr) = cAd 20 := rfl
theorem cp_20 {H : Hp} {d : Addr} {v : V} (h : H d = some (.xd [("given", v)])) : Carries H 20 (some d) v := ⟨d, rfl, h⟩
theorem ca_21 : (443 : Addr) = cAd 21 := rfl
theorem cp_21 {H : Hp} {d : Addr} {v : V} (h : H d = some (.xd [("given", v)])) : Carries H 21 (some d) v := ⟨d, rfl, h⟩
theorem ca_22 : (462 : Addr) = cAd 22 := rfl
theorem cp_22 {H : Hp} {d : Addr} {v : V} (h : H d = some (.xd [("given", v)])) : Carries H 22 (some d) v := ⟨d, rfl, h⟩
theorem ca_23 : (481 : Addr) = cAd 23 := rfl
theorem cp_23 {H : Hp} {d : Addr} {v : V} (h : H d = some (.xd [("given", v)])) : Carries H 23 (some d) v := ⟨d, rfl, h⟩
theorem ca_24 : (500 : Addr) = cAd 24 := rfl
theorem cp_24 {H : Hp} {d : Addr} {v : V} (h : H d = some (.xd [("given", v)])) : Carries H 24 (some d) v := ⟨d, rfl, h⟩
theorem ca_25 : (519 : Addr) = cAd 25 := rfl
theorem cp_25 {H : Hp} {d : Addr} {v : V} (h : H d = some (.xd [("given", v)])) : Carries H 25 (some d) v := ⟨d, rfl, h⟩
theorem ca_26 : (538 : Addr) = cAd 26 := rfl
theorem cp_26 {H : Hp} {d : Addr} {v : V} (h : H d = some (.xd [("given", v)])) : Carries H 26 (some d) v := ⟨d, rfl, h⟩
theorem ca_27 : (557 : Addr) = cAd 27 := rfl
theorem cp_27 {H : Hp} {d : Addr} {v : V} (h : H d = some (.xd [("given", v)])) : Carries H 27 (some d) v := ⟨d, rfl, h⟩
theorem ca_28 : (576 : Addr) = cAd 28 := rfl
theorem cp_28 {H : Hp} {d : Addr} {v : V} (h : H d = some (.xd [("given", v)])) : Carries H 28 (some d) v := ⟨d, rfl, h⟩
theorem ca_29 : (595 : Addr) = cAd 29 := rfl
theorem cp_29 {H : Hp} {d : Addr} {v : V} (h : H d = some (.xd [("given", v)])) : Carries H 29 (some d) v := ⟨d, rfl, h⟩
theorem ca_30 : (614 : Addr) = cAd 30 := rfl
theorem cp_30 {H : Hp} {d : Addr} {v : V} (h : H d = some (.xd [("given", v)])) : Carries H 30 (some d) v := ⟨d, rfl, h⟩
theorem ca_31 : (633 : Addr) = cAd 31 := rfl
theorem cp_31 {H : Hp} {d : Addr} {v : V} (h : H d = some (.xd [("given", v)])) : Carries H 31 (some d) v := ⟨d, rfl, h⟩
theorem ca_32 : (652 : Addr) = cAd 32 := rfl
theorem cp_32 {H : Hp} {d : Addr} {v : V} (h : H d = some (.xd [("given", v)])) : Carries H 32 (some d) v := ⟨d, rfl, h⟩
theorem ca_33 : (671 : Addr) = cAd 33 := rfl
theorem cp_33 {H : Hp} {d : Addr} {v : V} (h : H d = some (.xd [("given", v)])) : Carries H 33 (some d) v := ⟨d, rfl, h⟩
theorem ca_34 : (861 : Addr) = cAd 34 := rfl
theorem cp_34 {H : Hp} {d : Addr} {v : V} (h : H d = some (.xd [("given", v)])) : Carries H 34 (some d) v := ⟨d, rfl, h⟩
theorem ca_35 : (880 : Addr) = cAd 35 := rfl
theorem cp_35 {H : Hp} {d : Addr} {v : V} (h : H d = some (.xd [("given", v)])) : Carries H 35 (some d) v := ⟨d, rfl, h⟩
theorem ca_36 : (899 : Addr) = cAd 36 := rfl
theorem cp_36 {H : Hp} {d : Addr} {v : V} (h : H d = some (.xd [("given", v)])) : Carries H 36 (some d) v := ⟨d, rfl, h⟩
theorem ca_37 : (918 : Addr) = cAd 37 := rfl
theorem cp_37 {H : Hp} {d : Addr} {v : V} (h : H d = some (.xd [("given", v)])) : Carries H 37 (some d) v := ⟨d, rfl, h⟩
theorem ca_38 : (937 : Addr) = cAd 38 := rfl
theorem cp_38 {H : Hp} {d : Addr} {v : V} (h : H d = some (.xd [("given", v)])) : Carries H 38 (some d) v := ⟨d, rfl, h⟩
theorem ca_39 : (956 : Addr) = cAd 39 := rfl
theorem cp_39 {H : Hp} {d : Addr} {v : V} (h : H d = some (.xd [("given", v)])) : Carries H 39 (some d) v := ⟨d, rfl, h⟩
theorem ca_40 : (975 : Addr) = cAd 40 := rfl
theorem cp_40 {H : Hp} {d : Addr} {v : V} (h : H d = some (.xd [("given", v)])) : Carries H 40 (some d) v := ⟨d, rfl, h⟩
theorem ca_41 : (994 : Addr) = cAd 41 := rfl
theorem cp_41 {H : Hp} {d : Addr} {v : V} (h : H d = some (.xd [("given", v)])) : Carries H 41 (some d) v := ⟨d, rfl, h⟩
theorem ca_42 : (690 : Addr) = cAd 42 := rfl
theorem cp_42 {H : Hp} {d : Addr} {v : V} (h : H d = some (.xd [("count", v)])) : Carries H 42 (some d) v := ⟨d, rfl, h⟩
theorem ca_43 : (709 : Addr) = cAd 43 := rfl
theorem cp_43 {H : Hp} {d : Addr} {v : V} (h : H d = some (.xd [("name", v)])) : Carries H 43 (some d) v := ⟨d, rfl, h⟩
theorem ca_44 : (728 : Addr) = cAd 44 := rfl
theorem cp_44 {H : Hp} {d : Addr} {v : V} (h : H d = some (.xd [("name", v)])) : Carries H 44 (some d) v := ⟨d, rfl, h⟩
theorem ca_45 : (747 : Addr) = cAd 45 := rfl
theorem cp_45 {H : Hp} {d : Addr} {v : V} (h : H d = some (.xd [("name", v)])) : Carries H 45 (some d) v := ⟨d, rfl, h⟩
theorem ca_46 : (785 : Addr) = cAd 46 := rfl
theorem cp_46 {H : Hp} {d : Addr} {v : V} (h : H d = some (.xd [("told", v)])) : Carries H 46 (some d) v := ⟨d, rfl, h⟩
theorem ca_47 : (823 : Addr) = cAd 47 := rfl
theorem cp_47 {H : Hp} {d : Addr} {v : V} (h : H d = some (.xd [("line", v)])) : Carries H 47 (some d) v := ⟨d, rfl, h⟩
theorem ca_48 : (766 : Addr) = cAd 48 := rfl
theorem cp_48 {H : Hp} {v : V} : Carries H 48 none v := rfl
theorem ca_49 : (804 : Addr) = cAd 49 := rfl
theorem cp_49 {H : Hp} {v : V} : Carries H 49 none v := rfl
theorem ca_50 : (842 : Addr) = cAd 50 := rfl
theorem cp_50 {H : Hp} {v : V} : Carries H 50 none v := rfl

theorem e_R1 {C : Addr} {f : Str} {t : TA} {σ : L2.St} {H : Hp} {Q : XK} (q : t σ H fun vs H1 => ∃ v, vs = [v] ∧ ∀ d H2, H1 d = none → (∀ b o, H1 b = some o → H2 b = some o) → H2 d = some (.xd [(f, v)]) → Q (.ref C) (some d) H2) : tR1 C f t σ H Q := q
def spRaised (lo hi : Nat) : Sp := fun vs H _ E => ∃ (k : Nat) (v : V), vs = [.int k, v] ∧ lo ≤ k ∧ k < hi ∧ ∀ C d H', C = cAd k → Same H H' → Carries H' k d v → E (.ref C) d H'
def spCaught : Sp := fun vs H Q _ => ∃ (k : Nat) (v : V), vs = [.int k, v] ∧ k < 51 ∧ ∀ H', Same H H' → Q (.bl true) H'
section
variable {P : Program} {w : World} {K : PySem.W.Frag} {mg : Str → Option Value} {base : Heap}
theorem sc_raised_a : FnScope ["which", "thing"] ["which", "thing"] d_raised_a.sco := ⟨rfl, rfl, rfl, by decide +kernel, rfl, by decide +kernel, by decide +kernel⟩
theorem ok_raised_a {fd : FuncData} (F : Stands K d_raised_a fd) (T : Es P w K mg base) : FnOk P w K mg base (CX P w) 3 d_raised_a.adr fd ["which", "thing"] (spRaised 0 17) := by
  refine FunD.ok F sc_raised_a (fun vs H Q E h => ?_) (fun cdv A outer s H vs Q E hr h => ⟨_, (pss_cons (ps_if (pt_cmpR op_eq (pv 0) pe_int (nomark _)) (pss_one (ps_raise rfl (takes_of rfl rfl rfl rfl) (pmk_R1 T.e0 hr rfl (pa_cons (pv 1) pa_nil)))) pss_nil)
  (pss_cons (ps_if (pt_cmpR op_eq (pv 0) pe_int (nomark _)) (pss_one (ps_raise rfl (takes_of rfl rfl rfl rfl) (pmk_R1 T.e1 hr rfl (pa_cons (pv 1) pa_nil)))) pss_nil)
  (pss_cons (ps_if (pt_cmpR op_eq (pv 0) pe_int (nomark _)) (pss_one (ps_raise rfl (takes_of rfl rfl rfl rfl) (pmk_R1 T.e2 hr rfl (pa_cons (pv 1) pa_nil)))) pss_nil)
  (pss_cons (ps_if (pt_cmpR op_eq (pv 0) pe_int (nomark _)) (pss_one (ps_raise rfl (takes_of rfl rfl rfl rfl) (pmk_R1 T.e3 hr rfl (pa_cons (pv 1) pa_nil)))) pss_nil)
  (pss_cons (ps_if (pt_cmpR op_eq (pv 0) pe_int (nomark _)) (pss_one (ps_raise rfl (takes_of rfl rfl rfl rfl) (pmk_R1 T.e4 hr rfl (pa_cons (pv 1) pa_nil)))) pss_nil)
  (pss_cons (ps_if (pt_cmpR op_eq (pv 0) pe_int (nomark _)) (pss_one (ps_raise rfl (takes_of rfl rfl rfl rfl) (pmk_R1 T.e5 hr rfl (pa_cons (pv 1) pa_nil)))) pss_nil)
  (pss_cons (ps_if (pt_cmpR op_eq (pv 0) pe_int (nomark _)) (pss_one (ps_raise rfl (takes_of rfl rfl rfl rfl) (pmk_R1 T.e6 hr rfl (pa_cons (pv 1) pa_nil)))) pss_nil)
  (pss_cons (ps_if (pt_cmpR op_eq (pv 0) pe_int (nomark _)) (pss_one (ps_raise rfl (takes_of rfl rfl rfl rfl) (pmk_R1 T.e7 hr rfl (pa_cons (pv 1) pa_nil)))) pss_nil)
  (pss_cons (ps_if (pt_cmpR op_eq (pv 0) pe_int (nomark _)) (pss_one (ps_raise rfl (takes_of rfl rfl rfl rfl) (pmk_R1 T.e8 hr rfl (pa_cons (pv 1) pa_nil)))) pss_nil)
  (pss_cons (ps_if (pt_cmpR op_eq (pv 0) pe_int (nomark _)) (pss_one (ps_raise rfl (takes_of rfl rfl rfl rfl) (pmk_R1 T.e9 hr rfl (pa_cons (pv 1) pa_nil)))) pss_nil)
  (pss_cons (ps_if (pt_cmpR op_eq (pv 0) pe_int (nomark _)) (pss_one (ps_raise rfl (takes_of rfl rfl rfl rfl) (pmk_R1 T.e10 hr rfl (pa_cons (pv 1) pa_nil)))) pss_nil)
  (pss_cons (ps_if (pt_cmpR op_eq (pv 0) pe_int (nomark _)) (pss_one (ps_raise rfl (takes_of rfl rfl rfl rfl) (pmk_R1 T.e11 hr rfl (pa_cons (pv 1) pa_nil)))) pss_nil)
  (pss_cons (ps_if (pt_cmpR op_eq (pv 0) pe_int (nomark _)) (pss_one (ps_raise rfl (takes_of rfl rfl rfl rfl) (pmk_R1 T.e12 hr rfl (pa_cons (pv 1) pa_nil)))) pss_nil)
  (pss_cons (ps_if (pt_cmpR op_eq (pv 0) pe_int (nomark _)) (pss_one (ps_raise rfl (takes_of rfl rfl rfl rfl) (pmk_R1 T.e13 hr rfl (pa_cons (pv 1) pa_nil)))) pss_nil)
  (pss_cons (ps_if (pt_cmpR op_eq (pv 0) pe_int (nomark _)) (pss_one (ps_raise rfl (takes_of rfl rfl rfl rfl) (pmk_R1 T.e14 hr rfl (pa_cons (pv 1) pa_nil)))) pss_nil)
  (pss_cons (ps_if (pt_cmpR op_eq (pv 0) pe_int (nomark _)) (pss_one (ps_raise rfl (takes_of rfl rfl rfl rfl) (pmk_R1 T.e15 hr rfl (pa_cons (pv 1) pa_nil)))) pss_nil)
  (pss_one (ps_if (pt_cmpR op_eq (pv 0) pe_int (nomark _)) (pss_one (ps_raise rfl (takes_of rfl rfl rfl rfl) (pmk_R1 T.e16 hr rfl (pa_cons (pv 1) pa_nil)))) pss_nil)))))))))))))))))), ?_⟩)
  · obtain ⟨k, v, rfl, _⟩ := h
    rfl
  · obtain ⟨k, v, rfl, hk1, hk2, hQ⟩ := h
    try dsimp only [cxOf]
    walk_at "go"
    refine e_ite (fun h => ?_) (fun h => ?_)
    · obtain rfl : k = 0 := is_nat h
      walk_at "go"
      refine e_R1 ?_
      walk_at "go"
      exact ⟨_, rfl, fun d H2 n s e => hQ _ (some d) H2 ca_0 s (cp_0 e)⟩
    have hk1 := past hk1 h
    walk_at "go"
    refine e_ite (fun h => ?_) (fun h => ?_)
    · obtain rfl : k = 1 := is_nat h
      walk_at "go"
      refine e_R1 ?_
      walk_at "go"
      exact ⟨_, rfl, fun d H2 n s e => hQ _ (some d) H2 ca_1 s (cp_1 e)⟩
    have hk1 := past hk1 h
    walk_at "go"
    refine e_ite (fun h => ?_) (fun h => ?_)
    · obtain rfl : k = 2 := is_nat h
      walk_at "go"
      refine e_R1 ?_
      walk_at "go"
      exact ⟨_, rfl, fun d H2 n s e => hQ _ (some d) H2 ca_2 s (cp_2 e)⟩
    have hk1 := past hk1 h
    walk_at "go"
    refine e_ite (fun h => ?_) (fun h => ?_)
    · obtain rfl : k = 3 := is_nat h
      walk_at "go"
      refine e_R1 ?_
      walk_at "go"
      exact ⟨_, rfl, fun d H2 n s e => hQ _ (some d) H2 ca_3 s (cp_3 e)⟩
    have hk1 := past hk1 h
    walk_at "go"
    refine e_ite (fun h => ?_) (fun h => ?_)
    · obtain rfl : k = 4 := is_nat h
      walk_at "go"
      refine e_R1 ?_
      walk_at "go"
      exact ⟨_, rfl, fun d H2 n s e => hQ _ (some d) H2 ca_4 s (cp_4 e)⟩
    have hk1 := past hk1 h
    walk_at "go"
    refine e_ite (fun h => ?_) (fun h => ?_)
    · obtain rfl : k = 5 := is_nat h
      walk_at "go"
      refine e_R1 ?_
      walk_at "go"
      exact ⟨_, rfl, fun d H2 n s e => hQ _ (some d) H2 ca_5 s (cp_5 e)⟩
    have hk1 := past hk1 h
    walk_at "go"
    refine e_ite (fun h => ?_) (fun h => ?_)
    · obtain rfl : k = 6 := is_nat h
      walk_at "go"
      refine e_R1 ?_
      walk_at "go"
      exact ⟨_, rfl, fun d H2 n s e => hQ _ (some d) H2 ca_6 s (cp_6 e)⟩
    have hk1 := past hk1 h
    walk_at "go"
    refine e_ite (fun h => ?_) (fun h => ?_)
    · obtain rfl : k = 7 := is_nat h
      walk_at "go"
      refine e_R1 ?_
      walk_at "go"
      exact ⟨_, rfl, fun d H2 n s e => hQ _ (some d) H2 ca_7 s (cp_7 e)⟩
    have hk1 := past hk1 h
    walk_at "go"
    refine e_ite (fun h => ?_) (fun h => ?_)
    · obtain rfl : k = 8 := is_nat h
      walk_at "go"
      refine e_R1 ?_
      walk_at "go"
      exact ⟨_, rfl, fun d H2 n s e => hQ _ (some d) H2 ca_8 s (cp_8 e)⟩
    have hk1 := past hk1 h
    walk_at "go"
    refine e_ite (fun h => ?_) (fun h => ?_)
    · obtain rfl : k = 9 := is_nat h
      walk_at "go"
      refine e_R1 ?_
      walk_at "go"
      exact ⟨_, rfl, fun d H2 n s e => hQ _ (some d) H2 ca_9 s (cp_9 e)⟩
    have hk1 := past hk1 h
    walk_at "go"
    refine e_ite (fun h => ?_) (fun h => ?_)
    · obtain rfl : k = 10 := is_nat h
      walk_at "go"
      refine e_R1 ?_
      walk_at "go"
      exact ⟨_, rfl, fun d H2 n s e => hQ _ (some d) H2 ca_10 s (cp_10 e)⟩
    have hk1 := past hk1 h
    walk_at "go"
    refine e_ite (fun h => ?_) (fun h => ?_)
    · obtain rfl : k = 11 := is_nat h
      walk_at "go"
      refine e_R1 ?_
      walk_at "go"
      exact ⟨_, rfl, fun d H2 n s e => hQ _ (some d) H2 ca_11 s (cp_11 e)⟩
    have hk1 := past hk1 h
    walk_at "go"
    refine e_ite (fun h => ?_) (fun h => ?_)
    · obtain rfl : k = 12 := is_nat h
      walk_at "go"
      refine e_R1 ?_
      walk_at "go"
      exact ⟨_, rfl, fun d H2 n s e => hQ _ (some d) H2 ca_12 s (cp_12 e)⟩
    have hk1 := past hk1 h
    walk_at "go"
    refine e_ite (fun h => ?_) (fun h => ?_)
    · obtain rfl : k = 13 := is_nat h
      walk_at "go"
      refine e_R1 ?_
      walk_at "go"
      exact ⟨_, rfl, fun d H2 n s e => hQ _ (some d) H2 ca_13 s (cp_13 e)⟩
    have hk1 := past hk1 h
    walk_at "go"
    refine e_ite (fun h => ?_) (fun h => ?_)
    · obtain rfl : k = 14 := is_nat h
      walk_at "go"
      refine e_R1 ?_
      walk_at "go"
      exact ⟨_, rfl, fun d H2 n s e => hQ _ (some d) H2 ca_14 s (cp_14 e)⟩
    have hk1 := past hk1 h
    walk_at "go"
    refine e_ite (fun h => ?_) (fun h => ?_)
    · obtain rfl : k = 15 := is_nat h
      walk_at "go"
      refine e_R1 ?_
      walk_at "go"
      exact ⟨_, rfl, fun d H2 n s e => hQ _ (some d) H2 ca_15 s (cp_15 e)⟩
    have hk1 := past hk1 h
    walk_at "go"
    refine e_ite (fun h => ?_) (fun h => ?_)
    · obtain rfl : k = 16 := is_nat h
      walk_at "go"
      refine e_R1 ?_
      walk_at "go"
      exact ⟨_, rfl, fun d H2 n s e => hQ _ (some d) H2 ca_16 s (cp_16 e)⟩
    have hk1 := past hk1 h
    walk_at "go"
    omega
theorem sc_raised_b : FnScope ["which", "thing"] ["which", "thing"] d_raised_b.sco := ⟨rfl, rfl, rfl, by decide +kernel, rfl, by decide +kernel, by decide +kernel⟩
theorem ok_raised_b {fd : FuncData} (F : Stands K d_raised_b fd) (T : Es P w K mg base) : FnOk P w K mg base (CX P w) 3 d_raised_b.adr fd ["which", "thing"] (spRaised 17 34) := by
  refine FunD.ok F sc_raised_b (fun vs H Q E h => ?_) (fun cdv A outer s H vs Q E hr h => ⟨_, (pss_cons (ps_if (pt_cmpR op_eq (pv 0) pe_int (nomark _)) (pss_one (ps_raise rfl (takes_of rfl rfl rfl rfl) (pmk_R1 T.e17 hr rfl (pa_cons (pv 1) pa_nil)))) pss_nil)
  (pss_cons (ps_if (pt_cmpR op_eq (pv 0) pe_int (nomark _)) (pss_one (ps_raise rfl (takes_of rfl rfl rfl rfl) (pmk_R1 T.e18 hr rfl (pa_cons (pv 1) pa_nil)))) pss_nil)
  (pss_cons (ps_if (pt_cmpR op_eq (pv 0) pe_int (nomark _)) (pss_one (ps_raise rfl (takes_of rfl rfl rfl rfl) (pmk_R1 T.e19 hr rfl (pa_cons (pv 1) pa_nil)))) pss_nil)
  (pss_cons (ps_if (pt_cmpR op_eq (pv 0) pe_int (nomark _)) (pss_one (ps_raise rfl (takes_of rfl rfl rfl rfl) (pmk_R1 T.e20 hr rfl (pa_cons (pv 1) pa_nil)))) pss_nil)
  (pss_cons (ps_if (pt_cmpR op_eq (pv 0) pe_int (nomark _)) (pss_one (ps_raise rfl (takes_of rfl rfl rfl rfl) (pmk_R1 T.e21 hr rfl (pa_cons (pv 1) pa_nil)))) pss_nil)
  (pss_cons (ps_if (pt_cmpR op_eq (pv 0) pe_int (nomark _)) (pss_one (ps_raise rfl (takes_of rfl rfl rfl rfl) (pmk_R1 T.e22 hr rfl (pa_cons (pv 1) pa_nil)))) pss_nil)
  (pss_cons (ps_if (pt_cmpR op_eq (pv 0) pe_int (nomark _)) (pss_one (ps_raise rfl (takes_of rfl rfl rfl rfl) (pmk_R1 T.e23 hr rfl (pa_cons (pv 1) pa_nil)))) pss_nil)
  (pss_cons (ps_if (pt_cmpR op_eq (pv 0) pe_int (nomark _)) (pss_one (ps_raise rfl (takes_of rfl rfl rfl rfl) (pmk_R1 T.e24 hr rfl (pa_cons (pv 1) pa_nil)))) pss_nil)
  (pss_cons (ps_if (pt_cmpR op_eq (pv 0) pe_int (nomark _)) (pss_one (ps_raise rfl (takes_of rfl rfl rfl rfl) (pmk_R1 T.e25 hr rfl (pa_cons (pv 1) pa_nil)))) pss_nil)
  (pss_cons (ps_if (pt_cmpR op_eq (pv 0) pe_int (nomark _)) (pss_one (ps_raise rfl (takes_of rfl rfl rfl rfl) (pmk_R1 T.e26 hr rfl (pa_cons (pv 1) pa_nil)))) pss_nil)
  (pss_cons (ps_if (pt_cmpR op_eq (pv 0) pe_int (nomark _)) (pss_one (ps_raise rfl (takes_of rfl rfl rfl rfl) (pmk_R1 T.e27 hr rfl (pa_cons (pv 1) pa_nil)))) pss_nil)
  (pss_cons (ps_if (pt_cmpR op_eq (pv 0) pe_int (nomark _)) (pss_one (ps_raise rfl (takes_of rfl rfl rfl rfl) (pmk_R1 T.e28 hr rfl (pa_cons (pv 1) pa_nil)))) pss_nil)
  (pss_cons (ps_if (pt_cmpR op_eq (pv 0) pe_int (nomark _)) (pss_one (ps_raise rfl (takes_of rfl rfl rfl rfl) (pmk_R1 T.e29 hr rfl (pa_cons (pv 1) pa_nil)))) pss_nil)
  (pss_cons (ps_if (pt_cmpR op_eq (pv 0) pe_int (nomark _)) (pss_one (ps_raise rfl (takes_of rfl rfl rfl rfl) (pmk_R1 T.e30 hr rfl (pa_cons (pv 1) pa_nil)))) pss_nil)
  (pss_cons (ps_if (pt_cmpR op_eq (pv 0) pe_int (nomark _)) (pss_one (ps_raise rfl (takes_of rfl rfl rfl rfl) (pmk_R1 T.e31 hr rfl (pa_cons (pv 1) pa_nil)))) pss_nil)
  (pss_cons (ps_if (pt_cmpR op_eq (pv 0) pe_int (nomark _)) (pss_one (ps_raise rfl (takes_of rfl rfl rfl rfl) (pmk_R1 T.e32 hr rfl (pa_cons (pv 1) pa_nil)))) pss_nil)
  (pss_one (ps_if (pt_cmpR op_eq (pv 0) pe_int (nomark _)) (pss_one (ps_raise rfl (takes_of rfl rfl rfl rfl) (pmk_R1 T.e33 hr rfl (pa_cons (pv 1) pa_nil)))) pss_nil)))))))))))))))))), ?_⟩)
  · obtain ⟨k, v, rfl, _⟩ := h
    rfl
  · obtain ⟨k, v, rfl, hk1, hk2, hQ⟩ := h
    try dsimp only [cxOf]
    walk_at "go"
    refine e_ite (fun h => ?_) (fun h => ?_)
    · obtain rfl : k = 17 := is_nat h
      walk_at "go"
      refine e_R1 ?_
      walk_at "go"
      exact ⟨_, rfl, fun d H2 n s e => hQ _ (some d) H2 ca_17 s (cp_17 e)⟩
    have hk1 := past hk1 h
    walk_at "go"
    refine e_ite (fun h => ?_) (fun h => ?_)
    · obtain rfl : k = 18 := is_nat h
      walk_at "go"
      refine e_R1 ?_
      walk_at "go"
      exact ⟨_, rfl, fun d H2 n s e => hQ _ (some d) H2 ca_18 s (cp_18 e)⟩
    have hk1 := past hk1 h
    walk_at "go"
    refine e_ite (fun h => ?_) (fun h => ?_)
    · obtain rfl : k = 19 := is_nat h
      walk_at "go"
      refine e_R1 ?_
      walk_at "go"
      exact ⟨_, rfl, fun d H2 n s e => hQ _ (some d) H2 ca_19 s (cp_19 e)⟩
    have hk1 := past hk1 h
    walk_at "go"
    refine e_ite (fun h => ?_) (fun h => ?_)
    · obtain rfl : k = 20 := is_nat h
      walk_at "go"
      refine e_R1 ?_
      walk_at "go"
      exact ⟨_, rfl, fun d H2 n s e => hQ _ (some d) H2 ca_20 s (cp_20 e)⟩
    have hk1 := past hk1 h
    walk_at "go"
    refine e_ite (fun h => ?_) (fun h => ?_)
    · obtain rfl : k = 21 := is_nat h
      walk_at "go"
      refine e_R1 ?_
      walk_at "go"
      exact ⟨_, rfl, fun d H2 n s e => hQ _ (some d) H2 ca_21 s (cp_21 e)⟩
    have hk1 := past hk1 h
    walk_at "go"
    refine e_ite (fun h => ?_) (fun h => ?_)
    · obtain rfl : k = 22 := is_nat h
      walk_at "go"
      refine e_R1 ?_
      walk_at "go"
      exact ⟨_, rfl, fun d H2 n s e => hQ _ (some d) H2 ca_22 s (cp_22 e)⟩
    have hk1 := past hk1 h
    walk_at "go"
    refine e_ite (fun h => ?_) (fun h => ?_)
    · obtain rfl : k = 23 := is_nat h
      walk_at "go"
      refine e_R1 ?_
      walk_at "go"
      exact ⟨_, rfl, fun d H2 n s e => hQ _ (some d) H2 ca_23 s (cp_23 e)⟩
    have hk1 := past hk1 h
    walk_at "go"
    refine e_ite (fun h => ?_) (fun h => ?_)
    · obtain rfl : k = 24 := is_nat h
      walk_at "go"
      refine e_R1 ?_
      walk_at "go"
      exact ⟨_, rfl, fun d H2 n s e => hQ _ (some d) H2 ca_24 s (cp_24 e)⟩
    have hk1 := past hk1 h
    walk_at "go"
    refine e_ite (fun h => ?_) (fun h => ?_)
    · obtain rfl : k = 25 := is_nat h
      walk_at "go"
      refine e_R1 ?_
      walk_at "go"
      exact ⟨_, rfl, fun d H2 n s e => hQ _ (some d) H2 ca_25 s (cp_25 e)⟩
    have hk1 := past hk1 h
    walk_at "go"
    refine e_ite (fun h => ?_) (fun h => ?_)
    · obtain rfl : k = 26 := is_nat h
      walk_at "go"
      refine e_R1 ?_
      walk_at "go"
      exact ⟨_, rfl, fun d H2 n s e => hQ _ (some d) H2 ca_26 s (cp_26 e)⟩
    have hk1 := past hk1 h
    walk_at "go"
    refine e_ite (fun h => ?_) (fun h => ?_)
    · obtain rfl : k = 27 := is_nat h
      walk_at "go"
      refine e_R1 ?_
      walk_at "go"
      exact ⟨_, rfl, fun d H2 n s e => hQ _ (some d) H2 ca_27 s (cp_27 e)⟩
    have hk1 := past hk1 h
    walk_at "go"
    refine e_ite (fun h => ?_) (fun h => ?_)
    · obtain rfl : k = 28 := is_nat h
      walk_at "go"
      refine e_R1 ?_
      walk_at "go"
      exact ⟨_, rfl, fun d H2 n s e => hQ _ (some d) H2 ca_28 s (cp_28 e)⟩
    have hk1 := past hk1 h
    walk_at "go"
    refine e_ite (fun h => ?_) (fun h => ?_)
    · obtain rfl : k = 29 := is_nat h
      walk_at "go"
      refine e_R1 ?_
      walk_at "go"
      exact ⟨_, rfl, fun d H2 n s e => hQ _ (some d) H2 ca_29 s (cp_29 e)⟩
    have hk1 := past hk1 h
    walk_at "go"
    refine e_ite (fun h => ?_) (fun h => ?_)
    · obtain rfl : k = 30 := is_nat h
      walk_at "go"
      refine e_R1 ?_
      walk_at "go"
      exact ⟨_, rfl, fun d H2 n s e => hQ _ (some d) H2 ca_30 s (cp_30 e)⟩
    have hk1 := past hk1 h
    walk_at "go"
    refine e_ite (fun h => ?_) (fun h => ?_)
    · obtain rfl : k = 31 := is_nat h
      walk_at "go"
      refine e_R1 ?_
      walk_at "go"
      exact ⟨_, rfl, fun d H2 n s e => hQ _ (some d) H2 ca_31 s (cp_31 e)⟩
    have hk1 := past hk1 h
    walk_at "go"
    refine e_ite (fun h => ?_) (fun h => ?_)
    · obtain rfl : k = 32 := is_nat h
      walk_at "go"
      refine e_R1 ?_
      walk_at "go"
      exact ⟨_, rfl, fun d H2 n s e => hQ _ (some d) H2 ca_32 s (cp_32 e)⟩
    have hk1 := past hk1 h
    walk_at "go"
    refine e_ite (fun h => ?_) (fun h => ?_)
    · obtain rfl : k = 33 := is_nat h
      walk_at "go"
      refine e_R1 ?_
      walk_at "go"
      exact ⟨_, rfl, fun d H2 n s e => hQ _ (some d) H2 ca_33 s (cp_33 e)⟩
    have hk1 := past hk1 h
    walk_at "go"
    omega
theorem sc_raised_c : FnScope ["which", "thing"] ["which", "thing"] d_raised_c.sco := ⟨rfl, rfl, rfl, by decide +kernel, rfl, by decide +kernel, by decide +kernel⟩
theorem ok_raised_c {fd : FuncData} (F : Stands K d_raised_c fd) (T : Es P w K mg base) : FnOk P w K mg base (CX P w) 3 d_raised_c.adr fd ["which", "thing"] (spRaised 34 51) := by
  refine FunD.ok F sc_raised_c (fun vs H Q E h => ?_) (fun cdv A outer s H vs Q E hr h => ⟨_, (pss_cons (ps_if (pt_cmpR op_eq (pv 0) pe_int (nomark _)) (pss_one (ps_raise rfl (takes_of rfl rfl rfl rfl) (pmk_R1 T.e34 hr rfl (pa_cons (pv 1) pa_nil)))) pss_nil)
  (pss_cons (ps_if (pt_cmpR op_eq (pv 0) pe_int (nomark _)) (pss_one (ps_raise rfl (takes_of rfl rfl rfl rfl) (pmk_R1 T.e35 hr rfl (pa_cons (pv 1) pa_nil)))) pss_nil)
  (pss_cons (ps_if (pt_cmpR op_eq (pv 0) pe_int (nomark _)) (pss_one (ps_raise rfl (takes_of rfl rfl rfl rfl) (pmk_R1 T.e36 hr rfl (pa_cons (pv 1) pa_nil)))) pss_nil)
  (pss_cons (ps_if (pt_cmpR op_eq (pv 0) pe_int (nomark _)) (pss_one (ps_raise rfl (takes_of rfl rfl rfl rfl) (pmk_R1 T.e37 hr rfl (pa_cons (pv 1) pa_nil)))) pss_nil)
  (pss_cons (ps_if (pt_cmpR op_eq (pv 0) pe_int (nomark _)) (pss_one (ps_raise rfl (takes_of rfl rfl rfl rfl) (pmk_R1 T.e38 hr rfl (pa_cons (pv 1) pa_nil)))) pss_nil)
  (pss_cons (ps_if (pt_cmpR op_eq (pv 0) pe_int (nomark _)) (pss_one (ps_raise rfl (takes_of rfl rfl rfl rfl) (pmk_R1 T.e39 hr rfl (pa_cons (pv 1) pa_nil)))) pss_nil)
  (pss_cons (ps_if (pt_cmpR op_eq (pv 0) pe_int (nomark _)) (pss_one (ps_raise rfl (takes_of rfl rfl rfl rfl) (pmk_R1 T.e40 hr rfl (pa_cons (pv 1) pa_nil)))) pss_nil)
  (pss_cons (ps_if (pt_cmpR op_eq (pv 0) pe_int (nomark _)) (pss_one (ps_raise rfl (takes_of rfl rfl rfl rfl) (pmk_R1 T.e41 hr rfl (pa_cons (pv 1) pa_nil)))) pss_nil)
  (pss_cons (ps_if (pt_cmpR op_eq (pv 0) pe_int (nomark _)) (pss_one (ps_raise rfl (takes_of rfl rfl rfl rfl) (pmk_R1 T.e42 hr rfl (pa_cons (pv 1) pa_nil)))) pss_nil)
  (pss_cons (ps_if (pt_cmpR op_eq (pv 0) pe_int (nomark _)) (pss_one (ps_raise rfl (takes_of rfl rfl rfl rfl) (pmk_R1 T.e43 hr rfl (pa_cons (pv 1) pa_nil)))) pss_nil)
  (pss_cons (ps_if (pt_cmpR op_eq (pv 0) pe_int (nomark _)) (pss_one (ps_raise rfl (takes_of rfl rfl rfl rfl) (pmk_R1 T.e44 hr rfl (pa_cons (pv 1) pa_nil)))) pss_nil)
  (pss_cons (ps_if (pt_cmpR op_eq (pv 0) pe_int (nomark _)) (pss_one (ps_raise rfl (takes_of rfl rfl rfl rfl) (pmk_R1 T.e45 hr rfl (pa_cons (pv 1) pa_nil)))) pss_nil)
  (pss_cons (ps_if (pt_cmpR op_eq (pv 0) pe_int (nomark _)) (pss_one (ps_raise rfl (takes_of rfl rfl rfl rfl) (pmk_R1 T.e46 hr rfl (pa_cons (pv 1) pa_nil)))) pss_nil)
  (pss_cons (ps_if (pt_cmpR op_eq (pv 0) pe_int (nomark _)) (pss_one (ps_raise rfl (takes_of rfl rfl rfl rfl) (pmk_R1 T.e47 hr rfl (pa_cons (pv 1) pa_nil)))) pss_nil)
  (pss_cons (ps_if (pt_cmpR op_eq (pv 0) pe_int (nomark _)) (pss_one (ps_raise rfl (takes_of rfl rfl rfl rfl) (pmk_R0 T.e48 hr rfl))) pss_nil)
  (pss_cons (ps_if (pt_cmpR op_eq (pv 0) pe_int (nomark _)) (pss_one (ps_raise rfl (takes_of rfl rfl rfl rfl) (pmk_R0 T.e49 hr rfl))) pss_nil)
  (pss_one (ps_if (pt_cmpR op_eq (pv 0) pe_int (nomark _)) (pss_one (ps_raise rfl (takes_of rfl rfl rfl rfl) (pmk_R0 T.e50 hr rfl))) pss_nil)))))))))))))))))), ?_⟩)
  · obtain ⟨k, v, rfl, _⟩ := h
    rfl
  · obtain ⟨k, v, rfl, hk1, hk2, hQ⟩ := h
    try dsimp only [cxOf]
    walk_at "go"
    refine e_ite (fun h => ?_) (fun h => ?_)
    · obtain rfl : k = 34 := is_nat h
      walk_at "go"
      refine e_R1 ?_
      walk_at "go"
      exact ⟨_, rfl, fun d H2 n s e => hQ _ (some d) H2 ca_34 s (cp_34 e)⟩
    have hk1 := past hk1 h
    walk_at "go"
    refine e_ite (fun h => ?_) (fun h => ?_)
    · obtain rfl : k = 35 := is_nat h
      walk_at "go"
      refine e_R1 ?_
      walk_at "go"
      exact ⟨_, rfl, fun d H2 n s e => hQ _ (some d) H2 ca_35 s (cp_35 e)⟩
    have hk1 := past hk1 h
    walk_at "go"
    refine e_ite (fun h => ?_) (fun h => ?_)
    · obtain rfl : k = 36 := is_nat h
      walk_at "go"
      refine e_R1 ?_
      walk_at "go"
      exact ⟨_, rfl, fun d H2 n s e => hQ _ (some d) H2 ca_36 s (cp_36 e)⟩
    have hk1 := past hk1 h
    walk_at "go"
    refine e_ite (fun h => ?_) (fun h => ?_)
    · obtain rfl : k = 37 := is_nat h
      walk_at "go"
      refine e_R1 ?_
      walk_at "go"
      exact ⟨_, rfl, fun d H2 n s e => hQ _ (some d) H2 ca_37 s (cp_37 e)⟩
    have hk1 := past hk1 h
    walk_at "go"
    refine e_ite (fun h => ?_) (fun h => ?_)
    · obtain rfl : k = 38 := is_nat h
      walk_at "go"
      refine e_R1 ?_
      walk_at "go"
      exact ⟨_, rfl, fun d H2 n s e => hQ _ (some d) H2 ca_38 s (cp_38 e)⟩
    have hk1 := past hk1 h
    walk_at "go"
    refine e_ite (fun h => ?_) (fun h => ?_)
    · obtain rfl : k = 39 := is_nat h
      walk_at "go"
      refine e_R1 ?_
      walk_at "go"
      exact ⟨_, rfl, fun d H2 n s e => hQ _ (some d) H2 ca_39 s (cp_39 e)⟩
    have hk1 := past hk1 h
    walk_at "go"
    refine e_ite (fun h => ?_) (fun h => ?_)
    · obtain rfl : k = 40 := is_nat h
      walk_at "go"
      refine e_R1 ?_
      walk_at "go"
      exact ⟨_, rfl, fun d H2 n s e => hQ _ (some d) H2 ca_40 s (cp_40 e)⟩
    have hk1 := past hk1 h
    walk_at "go"
    refine e_ite (fun h => ?_) (fun h => ?_)
    · obtain rfl : k = 41 := is_nat h
      walk_at "go"
      refine e_R1 ?_
      walk_at "go"
      exact ⟨_, rfl, fun d H2 n s e => hQ _ (some d) H2 ca_41 s (cp_41 e)⟩
    have hk1 := past hk1 h
    walk_at "go"
    refine e_ite (fun h => ?_) (fun h => ?_)
    · obtain rfl : k = 42 := is_nat h
      walk_at "go"
      refine e_R1 ?_
      walk_at "go"
      exact ⟨_, rfl, fun d H2 n s e => hQ _ (some d) H2 ca_42 s (cp_42 e)⟩
    have hk1 := past hk1 h
    walk_at "go"
    refine e_ite (fun h => ?_) (fun h => ?_)
    · obtain rfl : k = 43 := is_nat h
      walk_at "go"
      refine e_R1 ?_
      walk_at "go"
      exact ⟨_, rfl, fun d H2 n s e => hQ _ (some d) H2 ca_43 s (cp_43 e)⟩
    have hk1 := past hk1 h
    walk_at "go"
    refine e_ite (fun h => ?_) (fun h => ?_)
    · obtain rfl : k = 44 := is_nat h
      walk_at "go"
      refine e_R1 ?_
      walk_at "go"
      exact ⟨_, rfl, fun d H2 n s e => hQ _ (some d) H2 ca_44 s (cp_44 e)⟩
    have hk1 := past hk1 h
    walk_at "go"
    refine e_ite (fun h => ?_) (fun h => ?_)
    · obtain rfl : k = 45 := is_nat h
      walk_at "go"
      refine e_R1 ?_
      walk_at "go"
      exact ⟨_, rfl, fun d H2 n s e => hQ _ (some d) H2 ca_45 s (cp_45 e)⟩
    have hk1 := past hk1 h
    walk_at "go"
    refine e_ite (fun h => ?_) (fun h => ?_)
    · obtain rfl : k = 46 := is_nat h
      walk_at "go"
      refine e_R1 ?_
      walk_at "go"
      exact ⟨_, rfl, fun d H2 n s e => hQ _ (some d) H2 ca_46 s (cp_46 e)⟩
    have hk1 := past hk1 h
    walk_at "go"
    refine e_ite (fun h => ?_) (fun h => ?_)
    · obtain rfl : k = 47 := is_nat h
      walk_at "go"
      refine e_R1 ?_
      walk_at "go"
      exact ⟨_, rfl, fun d H2 n s e => hQ _ (some d) H2 ca_47 s (cp_47 e)⟩
    have hk1 := past hk1 h
    walk_at "go"
    refine e_ite (fun h => ?_) (fun h => ?_)
    · obtain rfl : k = 48 := is_nat h
      walk_at "go"
      exact hQ _ none H ca_48 (Same.refl H) cp_48
    have hk1 := past hk1 h
    walk_at "go"
    refine e_ite (fun h => ?_) (fun h => ?_)
    · obtain rfl : k = 49 := is_nat h
      walk_at "go"
      exact hQ _ none H ca_49 (Same.refl H) cp_49
    have hk1 := past hk1 h
    walk_at "go"
    refine e_ite (fun h => ?_) (fun h => ?_)
    · obtain rfl : k = 50 := is_nat h
      walk_at "go"
      exact hQ _ none H ca_50 (Same.refl H) cp_50
    have hk1 := past hk1 h
    walk_at "go"
    omega

/-- the suite of the except clause, the error's object known as oe -/
def tsO (K : PySem.W.Frag) (a : Addr) (oe : Obj) : TS := tRet (tAndV (tOp (rIxL K) (tCallP spKindsP (a, oe) (tCons (tVar 2) tNil)) (tVar 0)) (tCB (rIsiW (PinE (a, oe)) K) (tCons (tVar 2) (tCons (tC (.ty "ValueError")) tNil))))
def tsC (K : PySem.W.Frag) (a : Addr) (cls : Value) (d : Option Addr) : TS := fun D σ H => ∀ oe, (Zc cls d oe ∧ ∃ vs, oe.data = .fields vs) → tsO K a oe D σ H
theorem kinds_at {k : Nat} (hk : k < 51) : atI (kindsUp 51 k) (k : Int) = some (.bl true) := by
  refine atI_nat ?_
  unfold kindsUp
  rw [List.getElem?_map, List.getElem?_range hk]
  simp
theorem sc_caught : FnScope ["which", "thing", "e"] ["which", "thing"] d_caught.sco := ⟨rfl, rfl, rfl, by decide +kernel, rfl, by decide +kernel, by decide +kernel⟩
theorem ok_caught {fd : FuncData} (F : Stands K d_caught fd) (Tb : Bl mg) (KK : Kinds K) (gW : mg "WorkError" = some (.ref 24)) (Fa : Fn P w K mg base (CX P w) 3 "_law_raised_a" ["which", "thing"] (spRaised 0 17)) (Fb : Fn P w K mg base (CX P w) 3 "_law_raised_b" ["which", "thing"] (spRaised 17 34))
    (Fc : Fn P w K mg base (CX P w) 3 "_law_raised_c" ["which", "thing"] (spRaised 34 51)) (Fk : FnH P w K mg base 1 "_law_kinds" ["error"] spKindsP) : FnOk P w K mg base CX0 4 d_caught.adr fd ["which", "thing"] spCaught := by
  refine FunD.ok F sc_caught (fun vs H Q E h => ?_) (fun cdv A outer s H vs Q E hr h => ⟨_, PSs.nox (pss_cons (ps_try_as (ts := tsC K) (i := 2) rfl rfl sc_caught.nd rfl rfl ⟨rfl, by decide, .inl gW⟩ takes0 (fun W pn xe tk _ => (pss_one (ps_if (pt_cmpR op_lt (pv 0) pe_int (nomark _)) (pss_one (ps_expr (pe_fnS Fa (fun σ => passAt tk σ) hr rfl (pa_cons (pv 0) (pa_cons (pv 1) pa_nil))))) (pss_one (ps_if (pt_cmpR op_lt (pv 0) pe_int (nomark _)) (pss_one (ps_expr (pe_fnS Fb (fun σ => passAt tk σ) hr rfl (pa_cons (pv 0) (pa_cons (pv 1) pa_nil))))) (pss_one (ps_expr (pe_fnS Fc (fun σ => passAt tk σ) hr rfl (pa_cons (pv 0) (pa_cons (pv 1) pa_nil)))))))))) (fun a oe cls d pn hz hf => (pss_any (ts := fun oe => tsO K a oe) oe ⟨hz, hf⟩ (pss_one (ps_ret (pe_and (pe_ix ix_list (pe_fnH Fk (q := (a, oe)) (k := 1) (j := 3) ⟨hr.dp, hr.un⟩ (List.mem_cons_self ..) rfl (pa_cons (pv 2) pa_nil)) (pv 0) (fun _ _ => rfl)) (pe_one (pe_callB (call_isiP (p := (a, oe)) (List.mem_cons_self ..)) rfl Tb.isinstance WkB.b_isinstance (pa_cons (pv 2) (pa_cons (pe_bltn (v := .ty "ValueError") rfl Tb.ValueError WkB.b_ValueError rfl) pa_nil))))))))))
  (pss_one (ps_ret pe_bl))), ?_⟩)
  · obtain ⟨k, v, rfl, _⟩ := h
    rfl
  · obtain ⟨k, v, rfl, hk, hQ⟩ := h
    try dsimp only [cxOf, Cx.nox, Cx.wish]
    walk_at "go"
    have fin : ∀ (C : Addr) (d : Option Addr) (H' : Hp), C = cAd k → Same H H' → Carries H' k d v → WE (wAs K (Value.ref 24) 2 (tsC K) (fun x x_1 x_2 x_3 => False)
            { nx := tRet (tC (V.bl false)) { nx := fun x H' => Q V.non H', rt := Q },
              rt := Q }) (L2.start [Str.ofString "which", Str.ofString "thing", Str.ofString "e"] [V.int (k : Int), v]) (.ref C) d H' := by
      intro C d H' eC s1 hc
      subst eC
      refine ⟨true, KK.exm k hk, fun _ a na oe hzf => ?_, fun z => nomatch z⟩
      obtain ⟨hz, hf⟩ := hzf
      have pin : PinE (a, oe) H' a (cAd k) := ⟨rfl, hz.1, hf, fun d' hd' => by
        have e : d = some d' := hz.2.symm.trans hd'
        unfold Carries at hc
        split at hc
        · obtain ⟨d0, e0, h0⟩ := hc
          rw [e] at e0
          cases e0
          exact ⟨_, h0⟩
        · rw [e] at hc
          cases hc⟩
      unfold tsO
      walk_at "go"
      with_reducible refine e_callP ?_
      walk_at "go"
      refine ⟨a, k, rfl, hk, pin, fun l H2 nl s2 h2 => ?_⟩
      walk_at "go"
      refine e_ixl h2 (kinds_at hk) ?_
      walk_at "go"
      refine e_yes rfl ?_
      walk_at "go"
      exact ⟨a, cAd k, _, _, true, rfl, .ty _, KK.ask k hk, pin.mono s2, KK.ve k hk, hQ _ (s1.trans s2)⟩
    refine e_ite (fun h => ?_) (fun h => ?_)
    · with_reducible refine e_drop ?_
      with_reducible refine e_callS ?_
      walk_at "go"
      exact ⟨k, v, rfl, Nat.zero_le _, by simp at h; omega, fin⟩
    · walk_at "go"
      refine e_ite (fun h' => ?_) (fun h' => ?_)
      · with_reducible refine e_drop ?_
        with_reducible refine e_callS ?_
        walk_at "go"
        exact ⟨k, v, rfl, by simp at h; omega, by simp at h'; omega, fin⟩
      · with_reducible refine e_drop ?_
        with_reducible refine e_callS ?_
        walk_at "go"
        exact ⟨k, v, rfl, by simp at h'; omega, hk, fin⟩
end
end K00
namespace WkR
open PySem PySem.Spec PyProof.Rows L2
theorem Rd.mono {H H' : Hp} (e : Same H H') {a : Addr} {u : HO} (h : Rd H a u) : Rd H' a u := h.elim (fun z => .inl (e _ _ z)) fun ⟨o, z⟩ => .inr ⟨o, e _ _ z⟩
theorem SqT.mono {K : PySem.W.Frag} {H H' : Hp} (e : Same H H') {a : Addr} {xs : List V} (h : SqT K H a xs) : SqT K H' a xs := h.elim (fun z => .inl (Rd.mono e z)) .inr
mutual
theorem Dq.mono {K : PySem.W.Frag} {H H' : Hp} (e : Same H H') : ∀ {v : V} {d : PyData}, Dq K H v d → Dq K H' v d
  | _, _, .non => .non
  | _, _, .bl b => .bl b
  | _, _, .int i => .int i
  | _, _, .str x => .str x
  | _, _, .lst h1 h2 => .lst (Rd.mono e h1) (DqAll.mono e h2)
  | _, _, .tup h1 h2 => .tup (SqT.mono e h1) (DqAll.mono e h2)
  | _, _, .dic h1 h2 h3 => .dic (e _ _ h1) h2 (DqAll.mono e h3)
theorem DqAll.mono {K : PySem.W.Frag} {H H' : Hp} (e : Same H H') : ∀ {vs : List V} {ds : List PyData}, DqAll K H vs ds → DqAll K H' vs ds
  | _, _, .nil => .nil
  | _, _, .cons h1 h2 => .cons (Dq.mono e h1) (DqAll.mono e h2)
end
end WkR
namespace K00
open PySem PySem.Spec PyProof.Rows L2 WkH WkE WkG WkR WkS WkP WkF WkW
/-! ### the values that errors keep -/
inductive Sc : V → PyData → String → Prop
  | int (i : Int) : Sc (.int i) (.int i) "int"
  | str (x : Str) : Sc (.str x) (.str x) "str"
  | non : Sc .non .none "NoneType"
  | bl (b : Bool) : Sc (.bl b) (.bool b) "bool"
inductive Thing (K : PySem.W.Frag) (H : Hp) : V → Prop
  | sc {v : V} {d : PyData} {t : String} (h : Sc v d t) (g : Good d) : Thing K H v
  | tup {p : Addr} {xs : List V} {d : PyData} (h : H p = some (.tup xs)) (q : Dq K H (.ref p) d) (g : Good d) : Thing K H (.ref p)
  | lst {p : Addr} {xs : List V} {d : PyData} (h : H p = some (.lst xs)) (n : xs.length ≤ 100) (q : Dq K H (.ref p) d) (g : Good d) : Thing K H (.ref p)
  | dic {p : Addr} {kvs : List (Key × V)} {d : PyData} (h : H p = some (.dK kvs)) (n : kvs.length ≤ 100) (no : dropK (putK kvs (.inr "more") (.int 1)) (.inr "more") = kvs) (q : Dq K H (.ref p) d) (g : Good d) : Thing K H (.ref p)
  | err {a : Addr} {k : Nat} (hk : k < 51) (h : ErrAt H a (cAd k)) : Thing K H (.ref a)
theorem Thing.mono {K : PySem.W.Frag} {H H' : Hp} (e : Same H H') {v : V} (h : Thing K H v) : Thing K H' v := by
  cases h with
  | sc h g => exact .sc h g
  | tup h q g => exact .tup (e _ _ h) (q.mono e) g
  | lst h n q g => exact .lst (e _ _ h) n (q.mono e) g
  | dic h n no q g => exact .dic (e _ _ h) n no (q.mono e) g
  | err hk h => exact .err hk (h.mono e)
/-- all but what stands at b -/
def era (H : Hp) (b : Addr) : Hp := fun a => if a = b then none else H a
theorem era_ne {H : Hp} {a b : Addr} (h : a ≠ b) : era H b a = H a := if_neg h
theorem era_upd {H : Hp} {b : Addr} {o : HO} : era (upd H b o) b = era H b := by
  funext a
  unfold era
  split
  · rfl
  · rename_i h
    exact upd_ne h
theorem era_sub {H : Hp} {b : Addr} : Same (era H b) H := fun a o h => by
  unfold era at h
  split at h
  · cases h
  · exact h
theorem era_same {H H' : Hp} {b : Addr} (e : Same H H') : Same (era H b) (era H' b) := fun a o h => by
  unfold era at h ⊢
  split at h
  · cases h
  · rename_i z
    rw [if_neg z]
    exact e _ _ h
theorem era_at {H : Hp} {a b : Addr} {o : HO} {ys : List V} (hb : H b = some (.lst ys)) (h : H a = some o) (ne : ∀ ys, o ≠ .lst ys) : era H b a = some o := by
  rw [era_ne, h]
  rintro rfl
  rw [hb] at h
  injection h with h
  exact ne _ h.symm
theorem err1_era {H : Hp} {a b C : Addr} {f : Str} {v : V} {ys : List V} (hb : H b = some (.lst ys)) (h : Err1 H a C f v) : Err1 (era H b) a C f v := by
  obtain ⟨d, h1, h2⟩ := h
  exact ⟨d, era_at hb h1 (fun ys z => by cases z), era_at hb h2 (fun ys z => by cases z)⟩
theorem err0_era {H : Hp} {a b C : Addr} {ys : List V} (hb : H b = some (.lst ys)) (h : Err0 H a C) : Err0 (era H b) a C := era_at hb h (fun ys z => by cases z)
theorem BoxAt.mono {H H' : Hp} {b : Addr} {n : Nat} (e : Same H H') (h : BoxAt H b n) : BoxAt H' b n := by
  obtain ⟨g, big, m, c, h1, h2⟩ := h
  exact ⟨g, big, m, c, e _ _ h1, h2⟩
theorem new_any {H1 : Hp} {o : HO} {Q : V → Hp → Prop} (q : ∀ p H2, H1 p = none → Same H1 H2 → H2 p = some o → Q (.ref p) H2) : ∀ p, H1 p = none → Q (.ref p) (upd H1 p o) := fun p hp =>
  q p _ hp (fun b o e => by rw [upd_ne (ne_of_none e hp)]; exact e) upd_same
theorem ext_new {G : Hp} {p : Addr} (o : HO) (n : G p = none) : ∃ G', upd G p o = G' ∧ Same G G' ∧ G' p = some o := ⟨_, rfl, fun b o e => by rw [upd_ne (ne_of_none e n)]; exact e, upd_same⟩
theorem ext_over {G G' : Hp} {p : Addr} (o : HO) (n : G p = none) (s : Same G G') : ∃ G2, upd G' p o = G2 ∧ Same G G2 ∧ G2 p = some o := ⟨_, rfl, fun b o e => by rw [upd_ne (ne_of_none e n)]; exact s _ _ e, upd_same⟩
theorem small_log {i : Int} (h1 : -1000 ≤ i) (h2 : i ≤ 1001) : i.natAbs.log2 < 1920 := by
  have h : i.natAbs < 2 ^ 11 := by
    show i.natAbs < 2048
    omega
  by_cases h0 : i.natAbs = 0
  · rw [h0]
    decide
  · have := (Nat.log2_lt h0).mpr h
    omega
theorem e_disp {trs : List (TE × TE)} {σ : L2.St} {H : Hp} {Q : VK} (q : ∀ p, H p = none → tPairs trs σ (upd H p (.dK [])) fun ps H2 => H2 p = some (.dK []) ∧ ∃ kvs : List (Key × V), ps = kvs.map (fun kv => (kV kv.1, kv.2)) ∧ kvs.length ≤ 15 ∧ Q (.ref p) (upd H2 p (.dK (mergeK [] kvs)))) : tDisp trs σ H Q := q
theorem e_pairs {tk tv : TE} {σ : L2.St} {H : Hp} {Q : List (V × V) → Hp → Prop} (q : tk σ H fun x H1 => tv σ H1 fun y H2 => Q [(x, y)] H2) : tPairs [(tk, tv)] σ H Q := q
theorem e_new {σ : L2.St} {H : Hp} {Q : VK} (q : ∀ p, H p = none → Q (.ref p) (upd H p (.dK []))) : tDNewK σ H Q := q
theorem e_E0 {C : Addr} {σ : L2.St} {H : Hp} {Q : VK} (q : ∀ a H2, H a = none → (∀ b o, H b = some o → H2 b = some o) → Err0 H2 a C → Q (.ref a) H2) : tE0 C σ H Q := q
theorem era_lift {G G' : Hp} {b p : Addr} {o u : HO} (hb : G b = some u) (n : G p = none) (h : G' p = some o) : era G' b p = some o := by
  rw [era_ne (Ne.symm (ne_of_none hb n)), h]
theorem log_of {i : Int} (h : i.natAbs < 2 ^ 1920) : i.natAbs.log2 < 1920 := by
  by_cases h0 : i.natAbs = 0
  · rw [h0]
    decide
  · exact (Nat.log2_lt h0).mpr h
theorem ln_int {i : Int} {k : Nat} (hk : 0 < k) (h : i.natAbs < 10 ^ k) : (Str.ofString (toString i)).length ≤ k + 1 := by
  rw [PySem.ofString_length]
  exact int_text_length_le10 hk h
theorem ln_str (s : String) : (reprText (Str.ofString s)).length ≤ 10 * s.length + 2 := by
  have h := l_str s
  simp only [PyData.shown] at h
  exact h
theorem sm {i : Int} (h0 : -999 ≤ i) (h1 : i ≤ 1000) : i.natAbs < 10 ^ 4 := by
  show i.natAbs < 10000
  omega
theorem smL {i : Int} (h0 : -999 ≤ i) (h1 : i ≤ 1000) : i.natAbs.log2 < 1920 := small_log (by omega) (by omega)
theorem good_int {i : Int} (h0 : -999 ≤ i) (h1 : i ≤ 1000) : Good (.int i) := by
  refine ⟨by simp [PyData.showable, smL h0 h1], by simp [PyData.depth], ?_⟩
  simp only [PyData.shown]
  have := ln_int (by decide) (sm h0 h1)
  omega
theorem big_lt {i : Int} (h0 : -999 ≤ i) (h1 : i ≤ 1000) : (10 ^ (60 : Int).toNat + i).natAbs < 10 ^ 61 := by
  show ((10 : Int) ^ 60 + i).natAbs < 10 ^ 61
  omega
theorem good_big {i : Int} (h0 : -999 ≤ i) (h1 : i ≤ 1000) : Good (.int (10 ^ (60 : Int).toNat + i)) := by
  have hb := big_lt h0 h1
  refine ⟨?_, by simp [PyData.depth], ?_⟩
  · simp only [PyData.showable]
    exact decide_eq_true (log_of (Nat.lt_trans hb (by decide +kernel)))
  · simp only [PyData.shown]
    have := ln_int (k := 61) (by decide) hb
    omega
theorem good_2 {i : Int} (h0 : -999 ≤ i) (h1 : i ≤ 1000) : Good (.tuple [.int i, .list [.int i]]) := by
  refine ⟨by simp [PyData.showable, PyData.showableAll, smL h0 h1], by simp [PyData.depth, PyData.depthAll], ?_⟩
  simp only [PyData.shown, PyData.shownAll, l_tup2, l_list1]
  have := ln_int (by decide) (sm h0 h1)
  omega
theorem good_str (s : String) (h : s.length ≤ 1000) : Good (.str (Str.ofString s)) := by
  refine ⟨by simp [PyData.showable], by simp [PyData.depth], ?_⟩
  simp only [PyData.shown]
  have := ln_str s
  omega
theorem good_3 {i : Int} (h0 : -999 ≤ i) (h1 : i ≤ 1000) : Good (.str (Str.ofString (toString i))) := by
  refine good_str _ ?_
  have := int_text_length_le10 (k := 4) (by decide) (sm h0 h1)
  omega
theorem good_non : Good .none := ⟨by simp [PyData.showable], by simp [PyData.depth], by simp only [PyData.shown]; exact Nat.le_of_ble_eq_true rfl⟩
theorem good_bl (b : Bool) : Good (.bool b) := ⟨by simp [PyData.showable], by simp [PyData.depth], by simp only [PyData.shown]; cases b <;> exact Nat.le_of_ble_eq_true rfl⟩
theorem ln_none : ("None" : Str).length = 4 := rfl
theorem good_8 {i : Int} (h0 : -999 ≤ i) (h1 : i ≤ 1000) : Good (.list [.int i, .list [.none]]) := by
  refine ⟨by simp [PyData.showable, PyData.showableAll, smL h0 h1], by simp [PyData.depth, PyData.depthAll], ?_⟩
  simp only [PyData.shown, PyData.shownAll, l_list2, l_list1]
  have := ln_int (by decide) (sm h0 h1)
  have := ln_none
  omega
theorem good_9 {i : Int} (h0 : -999 ≤ i) (h1 : i ≤ 1000) : Good (.tuple [.int i, .str "a"]) := by
  refine ⟨by simp [PyData.showable, PyData.showableAll, smL h0 h1], by simp [PyData.depth, PyData.depthAll], ?_⟩
  simp only [PyData.shown, PyData.shownAll, l_tup2]
  have := ln_int (by decide) (sm h0 h1)
  have e : (reprText (Str.ofString "a")).length ≤ 10 * 1 + 2 := ln_str "a"
  omega
theorem good_10 {i : Int} (h0 : -999 ≤ i) (h1 : i ≤ 1000) : Good (.dict [(.str "a", .list [.int i])]) := by
  refine ⟨by simp [PyData.showable, PyData.showableAll, PyData.showableKv, smL h0 h1], by simp [PyData.depth, PyData.depthAll, PyData.depthKv], ?_⟩
  simp only [PyData.shown, PyData.shownAll, PyData.shownKv, l_dict1, l_list1, strLen_append]
  have := ln_int (by decide) (sm h0 h1)
  have e : (reprText (Str.ofString "a")).length ≤ 10 * 1 + 2 := ln_str "a"
  have e2 : ((": " : String) : Str).length = 2 := rfl
  omega
theorem good_11 : Good (.dict []) := ⟨by simp [PyData.showable, PyData.showableKv], by simp [PyData.depth, PyData.depthKv], by simp only [PyData.shown, PyData.shownKv]; exact Nat.le_of_ble_eq_true rfl⟩
theorem good_14 : Good (.list []) := ⟨by simp [PyData.showable, PyData.showableAll], by simp [PyData.depth, PyData.depthAll], by simp only [PyData.shown, PyData.shownAll]; exact Nat.le_of_ble_eq_true rfl⟩
theorem good_15 : Good (.tuple []) := ⟨by simp [PyData.showable, PyData.showableAll], by simp [PyData.depth, PyData.depthAll], by simp only [PyData.shown, PyData.shownAll]; exact Nat.le_of_ble_eq_true rfl⟩
def spThing (K : PySem.W.Frag) : Sp := fun vs H Q _ => ∃ (b : Addr) (n : Nat), vs = [.ref b] ∧ BoxAt H b n ∧ n ≤ 50000 ∧ ∀ v H', Same (era H b) (era H' b) → BoxAt H' b (n + 2) → Thing K (era H' b) v → Q v H'
section
variable {P : Program} {w : World} {K : PySem.W.Frag} {mg : Str → Option Value} {base : Heap}
theorem sc_thing : FnScope ["box", "number", "things"] ["box"] d_thing.sco := ⟨rfl, rfl, rfl, by decide +kernel, rfl, by decide +kernel, by decide +kernel⟩
theorem ok_thing {fd : FuncData} (F : Stands K d_thing fd) (T : Bl mg) (Es : Es P w K mg base) (Ft : Fn P w K mg base CX0 1 "_law_take" ["box", "many"] spTake) : FnOk P w K mg base CX0 3 d_thing.adr fd ["box"] (spThing K) := by
  refine FunD.ok F sc_thing (fun vs H Q E h => ?_) (fun cdv A outer s H vs Q E hr h => ⟨_, PSs.nox (pss_cons (ps_set (i := 1) sc_thing.nd rfl (by first | exact Or.inl rfl | exact Or.inr rfl) (pe_op op_sub (pe_fn Ft hr rfl (pa_cons (pv 0) (pa_cons pe_int pa_nil))) pe_int))
  (pss_cons (ps_set (i := 2) sc_thing.nd rfl (by first | exact Or.inl rfl | exact Or.inr rfl) (pe_lst (pa_cons (pv 1) (pa_cons (pe_op op_add (pe_op op_pow pe_int pe_int) (pv 1)) (pa_cons (pe_tup (pa_cons (pv 1) (pa_cons (pe_lst (pa_cons (pv 1) pa_nil)) pa_nil))) (pa_cons (pe_callTy call_str_int rfl T.str WkB.b_str (pa_cons (pv 1) pa_nil)) (pa_cons pe_str (pa_cons pe_non (pa_cons pe_bl (pa_cons pe_bl (pa_cons (pe_lst (pa_cons (pv 1) (pa_cons (pe_lst (pa_cons pe_non pa_nil)) pa_nil))) (pa_cons (pe_tup (pa_cons (pv 1) (pa_cons pe_str pa_nil))) (pa_cons (pe_disp (pps_cons pe_str (pe_lst (pa_cons (pv 1) pa_nil)) pps_nil) rfl rfl (by decide) (by decide)) (pa_cons pe_dnewK pa_nil))))))))))))))
  (pss_one (ps_ret (pe_ix ix_list (pe_op op_cat (pv 2) (pe_lst (pa_cons (pe_E1 Es.e42 hr rfl (pa_cons (pv 1) pa_nil)) (pa_cons (pe_E0 Es.e50 hr rfl) (pa_cons (pe_lst pa_nil) (pa_cons (pe_tup pa_nil) (pa_cons pe_str (pa_cons (pe_E1 Es.e1 hr rfl (pa_cons (pe_tup (pa_cons pe_int (pa_cons pe_int pa_nil))) pa_nil)) pa_nil)))))))) (pe_fn Ft hr rfl (pa_cons (pv 0) (pa_cons pe_int pa_nil))) (fun _ _ => rfl)))))), ?_⟩)
  · obtain ⟨b, n, rfl, _⟩ := h
    rfl
  · obtain ⟨b, n, rfl, hB, hn, hQ⟩ := h
    try dsimp only [cxOf, Cx.nox, Cx.wish]
    walk_at "go"
    refine ⟨b, n, 2000, rfl, hB, by omega, by decide, by decide, fun r ys r0 r1 hB1 => ?_⟩
    walk_at "go"
    obtain ⟨G0, e0⟩ : ∃ G0, G0 = upd H b (.lst ys) := ⟨_, rfl⟩
    rw [← e0] at hB1 ⊢
    have b0 : G0 b = some (.lst ys) := by rw [e0]; exact upd_same
    have ee0 : era G0 b = era H b := by rw [e0]; exact era_upd
    refine e_I (show CPow _ _ from ⟨by decide, by decide, by decide⟩) ?_
    walk_at "go"
    refine ⟨sz 1, fun p1 n1 => ?_⟩
    obtain ⟨G1, e1, s1, h1⟩ := ext_new (.lst [.int (r - 999)]) n1
    rw [e1]
    walk_at "go"
    refine ⟨sz 2, fun p2 n2 => ?_⟩
    obtain ⟨G2, e2, s2, h2⟩ := ext_new (.tup [.int (r - 999), .ref p1]) n2
    rw [e2]
    walk_at "go"
    refine ⟨small_log (i := r - 999) (by omega) (by omega), ?_⟩
    walk_at "go"
    refine ⟨sz 1, fun p3 n3 => ?_⟩
    obtain ⟨G3, e3, s3, h3⟩ := ext_new (.lst [.non]) n3
    rw [e3]
    walk_at "go"
    refine ⟨sz 2, fun p4 n4 => ?_⟩
    obtain ⟨G4, e4, s4, h4⟩ := ext_new (.lst [.int (r - 999), .ref p3]) n4
    rw [e4]
    walk_at "go"
    refine ⟨sz 2, fun p5 n5 => ?_⟩
    obtain ⟨G5, e5, s5, h5⟩ := ext_new (.tup [.int (r - 999), .str "a"]) n5
    rw [e5]
    walk_at "go"
    refine e_disp ?_
    refine fun p6 n6 => ?_
    obtain ⟨G6, e6, s6, h6⟩ := ext_new (.dK []) n6
    rw [e6]
    refine e_pairs ?_
    walk_at "go"
    refine ⟨sz 1, fun p7 n7 => ?_⟩
    obtain ⟨G7, e7, s7, h7⟩ := ext_new (.lst [.int (r - 999)]) n7
    rw [e7]
    refine ⟨s7 _ _ h6, [(.inr "a", .ref p7)], rfl, Nat.le_of_ble_eq_true rfl, ?_⟩
    obtain ⟨G8, e8, s8, h8⟩ := ext_over (G := G5) (.dK [(.inr "a", .ref p7)]) n6 (s6.trans s7)
    have h7 : G8 p7 = some (.lst [.int (r - 999)]) := by rw [← e8, upd_ne (Ne.symm (ne_of_none h6 n7))]; exact h7
    have e8 : upd G7 p6 (.dK (mergeK [] [(.inr "a", V.ref p7)])) = G8 := e8
    rw [e8]
    walk_at "go"
    refine e_new ?_
    refine fun p9 n9 => ?_
    obtain ⟨G9, e9, s9, h9⟩ := ext_new (.dK []) n9
    rw [e9]
    walk_at "go"
    refine ⟨sz 12, fun p10 n10 => ?_⟩
    obtain ⟨G10, e10, s10, h10⟩ := ext_new (.lst [.int (r - 999), .int (10 ^ (60 : Int).toNat + (r - 999)), .ref p2, .str (toString (r - 999)), .str "ab", .non, .bl true, .bl false, .ref p4, .ref p5, .ref p6, .ref p9]) n10
    rw [e10]
    walk_at "go"
    refine e_E1 ?_
    walk_at "go"
    refine ⟨_, rfl, fun p11 G11 n11 s11 h11 => ?_⟩
    walk_at "go"
    refine e_E0 fun p12 G12 n12 s12 h12 => ?_
    walk_at "go"
    refine ⟨sz 0, fun p13 n13 => ?_⟩
    obtain ⟨G13, e13, s13, h13⟩ := ext_new (.lst []) n13
    rw [e13]
    walk_at "go"
    refine ⟨sz 0, fun p14 n14 => ?_⟩
    obtain ⟨G14, e14, s14, h14⟩ := ext_new (.tup []) n14
    rw [e14]
    walk_at "go"
    refine e_E1 ?_
    walk_at "go"
    refine ⟨sz 2, fun p15 n15 => ?_⟩
    obtain ⟨G15, e15, s15, h15⟩ := ext_new (.tup [.int 1, .int 2]) n15
    rw [e15]
    walk_at "go"
    refine ⟨_, rfl, fun p16 G16 n16 s16 h16 => ?_⟩
    walk_at "go"
    refine ⟨sz 6, fun p17 n17 => ?_⟩
    obtain ⟨G17, e17, s17, h17⟩ := ext_new (.lst [.ref p11, .ref p12, .ref p13, .ref p14, .str "", .ref p16]) n17
    rw [e17]
    have t16 := s17
    have t15 := Same.trans s16 t16
    have t14 := Same.trans s15 t15
    have t13 := Same.trans s14 t14
    have t12 := Same.trans s13 t13
    have t11 := Same.trans s12 t12
    have t10 := Same.trans s11 t11
    refine e_cat (t10 _ _ h10) h17 (sz 18) fun p18 n18 => ?_
    obtain ⟨G18, e18, s18, h18⟩ := ext_new (.lst ([.int (r - 999), .int (10 ^ (60 : Int).toNat + (r - 999)), .ref p2, .str (toString (r - 999)), .str "ab", .non, .bl true, .bl false, .ref p4, .ref p5, .ref p6, .ref p9] ++ [.ref p11, .ref p12, .ref p13, .ref p14, .str "", .ref p16])) n18
    rw [e18]
    walk_at "go"
    refine ⟨b, n + 1, 18, rfl, BoxAt.mono (Same.trans s1 (Same.trans s2 (Same.trans s3 (Same.trans s4 (Same.trans s5 (Same.trans s8 (Same.trans s9 (Same.trans s10 (Same.trans t10 s18))))))))) hB1, by omega, by decide, by decide, fun j ys2 j0 j1 hB2 => ?_⟩
    have u17 : Same G17 G18 := s18
    have u16 : Same G16 G18 := Same.trans s17 u17
    have u15 : Same G15 G18 := Same.trans s16 u16
    have u14 : Same G14 G18 := Same.trans s15 u15
    have u13 : Same G13 G18 := Same.trans s14 u14
    have u12 : Same G12 G18 := Same.trans s13 u13
    have u11 : Same G11 G18 := Same.trans s12 u12
    have u10 : Same G10 G18 := Same.trans s11 u11
    have u9 : Same G9 G18 := Same.trans s10 u10
    have u8 : Same G8 G18 := Same.trans s9 u9
    have u5 : Same G5 G18 := Same.trans s8 u8
    have u4 : Same G4 G18 := Same.trans s5 u5
    have u3 : Same G3 G18 := Same.trans s4 u4
    have u2 : Same G2 G18 := Same.trans s3 u3
    have u1 : Same G1 G18 := Same.trans s2 u2
    have u0 : Same G0 G18 := Same.trans s1 u1
    have v0 : Same G0 G0 := Same.refl _
    have v1 : Same G0 G1 := Same.trans v0 s1
    have v2 : Same G0 G2 := Same.trans v1 s2
    have v3 : Same G0 G3 := Same.trans v2 s3
    have v4 : Same G0 G4 := Same.trans v3 s4
    have v5 : Same G0 G5 := Same.trans v4 s5
    have v6 : Same G0 G6 := Same.trans v5 s6
    have v8 : Same G0 G8 := Same.trans v5 s8
    have v9 : Same G0 G9 := Same.trans v8 s9
    have v10 : Same G0 G10 := Same.trans v9 s10
    have v11 : Same G0 G11 := Same.trans v10 s11
    have v12 : Same G0 G12 := Same.trans v11 s12
    have v13 : Same G0 G13 := Same.trans v12 s13
    have v14 : Same G0 G14 := Same.trans v13 s14
    have v15 : Same G0 G15 := Same.trans v14 s15
    have v16 : Same G0 G16 := Same.trans v15 s16
    have v17 : Same G0 G17 := Same.trans v16 s17
    have k1 := era_lift (v0 _ _ b0) n1 (u1 _ _ h1)
    have k2 := era_lift (v1 _ _ b0) n2 (u2 _ _ h2)
    have k3 := era_lift (v2 _ _ b0) n3 (u3 _ _ h3)
    have k4 := era_lift (v3 _ _ b0) n4 (u4 _ _ h4)
    have k5 := era_lift (v4 _ _ b0) n5 (u5 _ _ h5)
    have k6 := era_lift (v5 _ _ b0) n6 (u8 _ _ h8)
    have k7 := era_lift (v6 _ _ b0) n7 (u8 _ _ h7)
    have k9 := era_lift (v8 _ _ b0) n9 (u9 _ _ h9)
    have k13 := era_lift (v12 _ _ b0) n13 (u13 _ _ h13)
    have k14 := era_lift (v13 _ _ b0) n14 (u14 _ _ h14)
    have b18 : G18 b = some (.lst ys) := u0 _ _ b0
    have q1 : Dq K (era G18 b) (.ref p1) (.list [.int (r - 999)]) := .lst (.inl k1) (.cons (.int _) .nil)
    have q2 : Dq K (era G18 b) (.ref p2) (.tuple [.int (r - 999), .list [.int (r - 999)]]) := .tup (SqT.of k2) (.cons (.int _) (.cons q1 .nil))
    have q3 : Dq K (era G18 b) (.ref p3) (.list [.none]) := .lst (.inl k3) (.cons .non .nil)
    have q4 : Dq K (era G18 b) (.ref p4) (.list [.int (r - 999), .list [.none]]) := .lst (.inl k4) (.cons (.int _) (.cons q3 .nil))
    have q5 : Dq K (era G18 b) (.ref p5) (.tuple [.int (r - 999), .str "a"]) := .tup (SqT.of k5) (.cons (.int _) (.cons (.str _) .nil))
    have q7 : Dq K (era G18 b) (.ref p7) (.list [.int (r - 999)]) := .lst (.inl k7) (.cons (.int _) .nil)
    have q6 : Dq K (era G18 b) (.ref p6) (.dict [(.str "a", .list [.int (r - 999)])]) := .dic k6 rfl (.cons q7 .nil)
    have q9 : Dq K (era G18 b) (.ref p9) (.dict []) := .dic k9 rfl .nil
    have q13 : Dq K (era G18 b) (.ref p13) (.list []) := .lst (.inl k13) .nil
    have q14 : Dq K (era G18 b) (.ref p14) (.tuple []) := .tup (SqT.of k14) .nil
    have hr0 : -999 ≤ r - 999 := by omega
    have hr1 : r - 999 ≤ 1000 := by omega
    have fin : ∀ v, Thing K (era G18 b) v → Q v (upd G18 b (.lst ys2)) := fun v t => hQ v _ (by rw [era_upd, ← ee0]; exact era_same u0) hB2 (by rw [era_upd]; exact t)
    have hP : upd G18 b (.lst ys2) p18 = some _ := (upd_ne (Ne.symm (ne_of_none ((Same.trans v17 (Same.refl _)) _ _ b0) n18))).trans h18
    obtain ⟨m, rfl⟩ := Int.eq_ofNat_of_zero_le j0
    have hm : m = 0 ∨ m = 1 ∨ m = 2 ∨ m = 3 ∨ m = 4 ∨ m = 5 ∨ m = 6 ∨ m = 7 ∨ m = 8 ∨ m = 9 ∨ m = 10 ∨ m = 11 ∨ m = 12 ∨ m = 13 ∨ m = 14 ∨ m = 15 ∨ m = 16 ∨ m = 17 := by omega
    rcases hm with rfl | rfl | rfl | rfl | rfl | rfl | rfl | rfl | rfl | rfl | rfl | rfl | rfl | rfl | rfl | rfl | rfl | rfl
    · exact e_ixl hP rfl (fin _ (.sc (.int _) (good_int (by omega) (by omega))))
    · exact e_ixl hP rfl (fin _ (.sc (.int _) (good_big hr0 hr1)))
    · exact e_ixl hP rfl (fin _ (.tup k2 q2 (good_2 hr0 hr1)))
    · exact e_ixl hP rfl (fin _ (.sc (.str _) (good_3 hr0 hr1)))
    · exact e_ixl hP rfl (fin _ (.sc (.str _) (good_str "ab" (by decide))))
    · exact e_ixl hP rfl (fin _ (.sc .non good_non))
    · exact e_ixl hP rfl (fin _ (.sc (.bl _) (good_bl _)))
    · exact e_ixl hP rfl (fin _ (.sc (.bl _) (good_bl _)))
    · exact e_ixl hP rfl (fin _ (.lst k4 (Nat.le_of_ble_eq_true rfl) q4 (good_8 hr0 hr1)))
    · exact e_ixl hP rfl (fin _ (.tup k5 q5 (good_9 hr0 hr1)))
    · exact e_ixl hP rfl (fin _ (.dic k6 (Nat.le_of_ble_eq_true rfl) (by rfl) q6 (good_10 hr0 hr1)))
    · exact e_ixl hP rfl (fin _ (.dic k9 (Nat.le_of_ble_eq_true rfl) (by rfl) q9 good_11))
    · exact e_ixl hP rfl (fin _ (.err (k := 42) (by decide) (.one _ _ (err1_era b18 (Err1.mono u11 h11)))))
    · exact e_ixl hP rfl (fin _ (.err (k := 50) (by decide) (.no (err0_era b18 (Err0.mono u12 h12)))))
    · exact e_ixl hP rfl (fin _ (.lst k13 (Nat.le_of_ble_eq_true rfl) q13 good_14))
    · exact e_ixl hP rfl (fin _ (.tup k14 q14 good_15))
    · exact e_ixl hP rfl (fin _ (.sc (.str _) (good_str "" (by decide))))
    · exact e_ixl hP rfl (fin _ (.err (k := 1) (by decide) (.one _ _ (err1_era b18 (Err1.mono u16 h16)))))

end
end K00
namespace K00
open PySem PySem.Spec PyProof.Rows L2 WkH WkE WkG WkR WkS WkP WkF WkW
def spAlike (K : PySem.W.Frag) : Sp := fun vs H Q _ => ∃ v : V, vs = [v, v] ∧ Thing K H v ∧ ∀ H', Same H H' → Q (.bl true) H'
theorem thing_cases {K : PySem.W.Frag} {H : Hp} {v : V} (h : Thing K H v) :
    (∃ (t : String) (d : PyData) (b : Bool), TyX K H v (.type t) ∧ t ∈ ["int", "str", "NoneType", "bool", "tuple"] ∧ PySem.W.kitOne K (.type t) (.type "list") = some false ∧ PySem.W.kitOne K (.type t) (.type "dict") = some false ∧ PySem.W.kitOne K (.type t) (.type "bool") = some b ∧ Dq K H v d ∧ Good d) ∨
    (∃ (p : Addr) (xs : List V) (d : PyData), v = .ref p ∧ H p = some (.lst xs) ∧ xs.length ≤ 100 ∧ Dq K H (.ref p) d ∧ Good d) ∨
    (∃ (p : Addr) (kvs : List (Key × V)) (d : PyData), v = .ref p ∧ H p = some (.dK kvs) ∧ kvs.length ≤ 100 ∧ dropK (putK kvs (.inr "more") (.int 1)) (.inr "more") = kvs ∧ Dq K H (.ref p) d ∧ Good d) ∨
    (∃ (a : Addr) (k : Nat), v = .ref a ∧ k < 51 ∧ ErrAt H a (cAd k)) := by
  cases h with
  | sc h g =>
    cases h with
    | int i => exact .inl ⟨"int", _, _, .base (.int i), by decide, kit_ty (by decide +kernel), kit_ty (by decide +kernel), kit_ty (r := false) (by decide +kernel), .int i, g⟩
    | str x => exact .inl ⟨"str", _, _, .base (.str x), by decide, kit_ty (by decide +kernel), kit_ty (by decide +kernel), kit_ty (r := false) (by decide +kernel), .str x, g⟩
    | non => exact .inl ⟨"NoneType", _, _, .base .non, by decide, kit_ty (by decide +kernel), kit_ty (by decide +kernel), kit_ty (r := false) (by decide +kernel), .non, g⟩
    | bl b => exact .inl ⟨"bool", _, _, .base (.bl b), by decide, kit_ty (by decide +kernel), kit_ty (by decide +kernel), kit_ty (r := true) (by decide +kernel), .bl b, g⟩
  | tup h q g => exact .inl ⟨"tuple", _, _, .base (.tup h), by decide, kit_ty (by decide +kernel), kit_ty (by decide +kernel), kit_ty (r := false) (by decide +kernel), q, g⟩
  | lst h n q g => exact .inr (.inl ⟨_, _, _, rfl, h, n, q, g⟩)
  | dic h n no q g => exact .inr (.inr (.inl ⟨_, _, _, rfl, h, n, no, q, g⟩))
  | err hk h => exact .inr (.inr (.inr ⟨_, _, rfl, hk, h⟩))
theorem e_isi {K : PySem.W.Frag} {H : Hp} {x : V} {t u : String} {b : Bool} {Q : VK} (ty : TyX K H x (.type t)) (e : PySem.W.kitOne K (.type t) (.type u) = some b) (q : Q (.bl b) H) : rIsiA K [x, .ty u] H Q := .inl ⟨x, .ty u, .type t, .type u, b, rfl, .ty u, ty, e, q⟩
theorem e_isiO {K : PySem.W.Frag} {H : Hp} {x : V} {t : String} {C : Addr} {b : Bool} {Q : VK} (ty : TyX K H x (.type t)) (e : PySem.W.kitOne K (.type t) (.ref C) = some b) (q : Q (.bl b) H) : rIsiA K [x, .ref C] H Q := .inl ⟨x, .ref C, .type t, .ref C, b, rfl, .own C, ty, e, q⟩
theorem e_isiE {K : PySem.W.Frag} {H : Hp} {a C : Addr} {c : V} {u : Value} {b : Bool} {Q : VK} (k : ClsV c u) (T : AskC K C) (h : ErrAt H a C) (e : PySem.W.kitOne K (.ref C) u = some b) (q : Q (.bl b) H) : rIsiA K [.ref a, c] H Q := .inr ⟨a, C, c, u, b, rfl, k, T, h, e, q⟩
theorem e_repr {K : PySem.W.Frag} {H : Hp} {x : V} {d : PyData} {Q : VK} (h : Dq K H x d) (g : Good d) (q : Q (.str d.shown) H) : rRepr K [x] H Q := ⟨x, d, rfl, h, g.sh, g.dp, g.ln, q⟩
theorem e_len {K : PySem.W.Frag} {H : Hp} {p : Addr} {xs : List V} {Q : VK} (h : H p = some (.lst xs)) (q : Q (.int xs.length) H) : ∃ p' ys, [V.ref p] = [V.ref p'] ∧ (SqL K H p' ys ∨ SqT K H p' ys) ∧ Q (.int ys.length) H := ⟨p, xs, rfl, .inl (.of h), q⟩
theorem e_dput {td ty tv : TE} {D : Ends} {σ : L2.St} {H : Hp} (q : tv σ H fun v H1 => td σ H1 fun x H2 => ty σ H2 fun y H3 => ∃ a H4, x = .ref a ∧ DPut H3 a y v H4 ∧ D.nx σ H4) : sDPut td ty tv D σ H := q
theorem e_dget1 {td ty : TE} {σ : L2.St} {H : Hp} {Q : VK} (q : td σ H fun x H1 => ∃ a, x = .ref a ∧ IsD H1 a ∧ ty σ H1 fun y H2 => ∃ o, DGet H2 a y o ∧ Q (o.getD .non) H2) : tDGet1 td ty σ H Q := q
theorem e_dpop1 {td ty : TE} {σ : L2.St} {H : Hp} {Q : VK} (q : td σ H fun x H1 => ∃ a, x = .ref a ∧ IsD H1 a ∧ ty σ H1 fun y H2 => ∃ kvs k v, H2 a = some (.dK kvs) ∧ y = kV k ∧ valV kvs k = some v ∧ Q v (upd H2 a (.dK (dropK kvs k)))) : tDPop1 td ty σ H Q := q
theorem back_same {H H3 : Hp} {p : Addr} {o : HO} (hp : H p = some o) (s : ∀ b u, b ≠ p → H b = some u → H3 b = some u) : Same H (upd H3 p o) := fun b u h => by
  by_cases e : b = p
  · subst e
    rw [hp] at h
    rw [upd_same]
    exact h
  · rw [upd_ne e]
    exact s b u e h
theorem cut_last (xs : List V) (y : V) : cutV (xs ++ [y]) (some (-1)) none = [y] := by
  have e : HT.sIx (xs ++ [y]).length 0 (some (-1)) = xs.length := by
    unfold HT.sIx
    rw [List.length_append]
    show (if (-1 : Int) < 0 then (-1 + ((xs.length + 1 : Nat) : Int)).toNat else _) = _
    rw [if_pos (by decide)]
    omega
  have e2 : HT.sIx (xs ++ [y]).length (xs ++ [y]).length none = xs.length + 1 := by
    rw [HT.sIx_none, List.length_append]
    rfl
  unfold cutV
  rw [e, e2, List.drop_left, Nat.add_sub_cancel_left]
  rfl
def kd (k : Nat) : List PyData := (List.range 51).map fun j => .bool (decide (j = k))
theorem kd_ok : ∀ k, k < 51 → SeqAt.shaped (.list (kd k)) = true ∧ PyData.eqv (.list (kd k)) (.list (kd k)) = true := by decide +kernel
theorem dp_bools {K : PySem.W.Frag} {H : Hp} {f : Nat → Bool} : ∀ ns : List Nat, DpAll K H (ns.map fun j => .bl (f j)) (ns.map fun j => .bool (f j))
  | [] => .nil
  | _ :: ns => .cons (.bl _) (dp_bools ns)
theorem dp_kinds {K : PySem.W.Frag} {H : Hp} {l : Addr} {k : Nat} (h : H l = some (.lst (kindsUp 51 k))) : Dp K H (.ref l) (.list (kd k)) := .lst (SqL.of h) (dp_bools (f := fun j => decide (j = k)) _)
structure KW (K : PySem.W.Frag) : Prop where
  sys : sysB K = true
  no : ∀ t : String, t ∈ ["int", "str", "NoneType", "bool", "tuple"] → PySem.W.kitOne K (.type t) (.ref 24) = some false
section
variable {P : Program} {w : World} {K : PySem.W.Frag} {mg : Str → Option Value} {base : Heap}
theorem sc_alike : FnScope ["kept", "thing", "right"] ["kept", "thing"] d_alike.sco := ⟨rfl, rfl, rfl, by decide +kernel, rfl, by decide +kernel, by decide +kernel⟩
theorem ok_alike {fd : FuncData} (F : Stands K d_alike fd) (T : Bl mg) (KK : Kinds K) (KX : KW K) (gW : mg "WorkError" = some (.ref 24)) (Fk : Fn P w K mg base CX0 1 "_law_kinds" ["error"] spKinds) : FnG P w K mg base CX0 3 d_alike.adr fd ["kept", "thing"] (spAlike K) := by
  have hy := KX.sys
  refine okG F sc_alike (fun vs H Q E h => ?_) (fun cdv A outer s H vs Q E hG hr h => ⟨_, PSs.nox (pss_cons (ps_if (pt_val (pe_callB call_isiA rfl T.isinstance WkB.b_isinstance (pa_cons (pv 1) (pa_cons (pe_bltn (v := .ty "list") rfl T.list WkB.b_list rfl) pa_nil)))) (pss_cons (ps_expr (pe_bm PySem.F.plainAttrs_list PySem.F.slot_list_append PySem.F.type_list_append mt_append (pv 1) (pa_cons pe_str pa_nil)))
  (pss_cons (ps_set (i := 2) sc_alike.nd rfl (by first | exact Or.inl rfl | exact Or.inr rfl) (pe_and (pe_callB call_isiA rfl T.isinstance WkB.b_isinstance (pa_cons (pv 0) (pa_cons (pe_bltn (v := .ty "list") rfl T.list WkB.b_list rfl) pa_nil))) (pe_and (pe_cmpR op_eq (pe_callB call_len_seq rfl T.len WkB.b_len (pa_cons (pv 0) pa_nil)) (pe_callB call_len_seq rfl T.len WkB.b_len (pa_cons (pv 1) pa_nil)) (nomark _)) (pe_one (pe_cmpR (op_eqD (by have := hr.un; dsimp only [cxOf, Cx.nox]; omega)) (pe_slice sl_list (pv 0) (po_some (pe_un un_neg pe_int)) po_none) (pe_lst (pa_cons pe_str pa_nil)) (nomark _))))))
  (pss_cons (ps_expr (pe_bm0 PySem.F.plainAttrs_list PySem.F.slot_list_pop PySem.F.type_list_pop mt_pop (pv 1)))
  (pss_one (ps_ret (pe_and (pv 2) (pe_one (pe_cmpR op_eq (pe_callB (cr_repr hG hr hy) rfl T.repr WkB.b_repr (pa_cons (pv 0) pa_nil)) (pe_callB (cr_repr hG hr hy) rfl T.repr WkB.b_repr (pa_cons (pv 1) pa_nil)) (nomark _))))))))) pss_nil)
  (pss_cons (ps_if (pt_val (pe_callB call_isiA rfl T.isinstance WkB.b_isinstance (pa_cons (pv 1) (pa_cons (pe_bltn (v := .ty "dict") rfl T.dict WkB.b_dict rfl) pa_nil)))) (pss_cons (ps_dput (by have := hr.un; dsimp only [cxOf, Cx.nox]; omega) (pv 1) pe_str pe_int rfl)
  (pss_cons (ps_set (i := 2) sc_alike.nd rfl (by first | exact Or.inl rfl | exact Or.inr rfl) (pe_and (pe_callB call_isiA rfl T.isinstance WkB.b_isinstance (pa_cons (pv 0) (pa_cons (pe_bltn (v := .ty "dict") rfl T.dict WkB.b_dict rfl) pa_nil))) (pe_one (pe_cmpR op_eq (pe_dget1 (by have := hr.un; dsimp only [cxOf, Cx.nox]; omega) (pv 0) pe_str ⟨rfl, rfl, rfl, rfl⟩) pe_int (nomark _)))))
  (pss_cons (ps_expr (pe_dpop1 (pv 1) pe_str ⟨rfl, rfl, rfl, rfl⟩))
  (pss_one (ps_ret (pe_and (pv 2) (pe_one (pe_cmpR op_eq (pe_callB (cr_repr hG hr hy) rfl T.repr WkB.b_repr (pa_cons (pv 0) pa_nil)) (pe_callB (cr_repr hG hr hy) rfl T.repr WkB.b_repr (pa_cons (pv 1) pa_nil)) (nomark _))))))))) pss_nil)
  (pss_cons (ps_if (pt_val (pe_callB call_isiA rfl T.isinstance WkB.b_isinstance (pa_cons (pv 1) (pa_cons (pe_glob (v := .ref 24) rfl gW rfl) pa_nil)))) (pss_one (ps_ret (pe_and (pe_callB call_isiA rfl T.isinstance WkB.b_isinstance (pa_cons (pv 0) (pa_cons (pe_glob (v := .ref 24) rfl gW rfl) pa_nil))) (pe_one (pe_cmpR (op_eqD (by have := hr.un; dsimp only [cxOf, Cx.nox]; omega)) (pe_fn Fk hr rfl (pa_cons (pv 0) pa_nil)) (pe_fn Fk hr rfl (pa_cons (pv 1) pa_nil)) (nomark _)))))) pss_nil)
  (pss_one (ps_ret (pe_and (pe_cmpR op_eq (pe_callB (cr_repr hG hr hy) rfl T.repr WkB.b_repr (pa_cons (pv 0) pa_nil)) (pe_callB (cr_repr hG hr hy) rfl T.repr WkB.b_repr (pa_cons (pv 1) pa_nil)) (nomark _)) (pe_one (pe_cmpR op_eq (pe_callB call_isiA rfl T.isinstance WkB.b_isinstance (pa_cons (pv 0) (pa_cons (pe_bltn (v := .ty "bool") rfl T.bool WkB.b_bool rfl) pa_nil))) (pe_callB call_isiA rfl T.isinstance WkB.b_isinstance (pa_cons (pv 1) (pa_cons (pe_bltn (v := .ty "bool") rfl T.bool WkB.b_bool rfl) pa_nil))) (nomark _))))))))), ?_⟩)
  · obtain ⟨v, rfl, _⟩ := h
    rfl
  · obtain ⟨v, rfl, hT, hQ⟩ := h
    try dsimp only [cxOf, Cx.nox, Cx.wish]
    walk_at "go"
    rcases thing_cases hT with ⟨t, d, b, ty, ht, k1, k2, k3, q, g⟩ | ⟨p, xs, d, rfl, hp, n, q, g⟩ | ⟨p, kvs, d, rfl, hp, n, no, q, g⟩ | ⟨a, k, rfl, hk, ha⟩
    · refine e_isi ty k1 ?_
      walk_at "go"
      refine e_no rfl ?_
      walk_at "go"
      refine e_isi ty k2 ?_
      walk_at "go"
      refine e_no rfl ?_
      walk_at "go"
      refine e_isiO ty (KX.no t ht) ?_
      walk_at "go"
      refine e_no rfl ?_
      walk_at "go"
      refine e_repr q g ?_
      walk_at "go"
      refine e_repr q g ?_
      walk_at "go"
      refine e_yes (decide_eq_true rfl) ?_
      walk_at "go"
      refine e_isi ty k3 ?_
      walk_at "go"
      refine e_isi ty k3 ?_
      walk_at "go"
      have e : decide (V.bl b = V.bl b) = true := decide_eq_true rfl
      rw [e]
      exact hQ H (Same.refl H)
    · have ty : TyX K H (.ref p) (.type "list") := .base (.lst hp)
      refine e_isi ty (kit_ty (r := true) (by decide +kernel)) ?_
      walk_at "go"
      refine e_yes rfl ?_
      walk_at "go"
      refine ⟨.inl ⟨rfl, _, SqL.of hp⟩, ?_⟩
      walk_at "go"
      refine ⟨p, xs, _, rfl, rfl, hp, sz (xs.length + 1) (by omega), ?_⟩
      obtain ⟨G1, e1⟩ : ∃ G, upd H p (.lst (xs ++ [.str "more"])) = G := ⟨_, rfl⟩
      have g1 : G1 p = some (.lst (xs ++ [.str "more"])) := by rw [← e1]; exact upd_same
      have s1 : ∀ b u, b ≠ p → H b = some u → G1 b = some u := fun b u z h => by rw [← e1, upd_ne z]; exact h
      rw [e1]
      walk_at "go"
      have ty : TyX K G1 (.ref p) (.type "list") := .base (.lst g1)
      refine e_isi ty (kit_ty (r := true) (by decide +kernel)) ?_
      walk_at "go"
      refine e_yes rfl ?_
      walk_at "go"
      refine ⟨p, _, rfl, Or.inl (SqL.of g1), ?_⟩
      walk_at "go"
      refine ⟨p, _, rfl, Or.inl (SqL.of g1), ?_⟩
      walk_at "go"
      refine e_yes (decide_eq_true rfl) ?_
      walk_at "go"
      refine ⟨p, _, rfl, SqL.of g1, fun p1 n1 => ?_⟩
      rw [cut_last]
      obtain ⟨G2, e2, s2, h2⟩ := ext_new (.lst [.str "more"]) n1
      rw [e2]
      walk_at "go"
      refine ⟨sz 1, fun p2 n2 => ?_⟩
      obtain ⟨G3, e3, s3, h3⟩ := ext_new (.lst [.str "more"]) n2
      rw [e3]
      walk_at "go"
      refine ⟨.list [.str "more"], .list [.str "more"], .lst (SqL.of (s3 _ _ h2)) (.cons (.str _) .nil), .lst (SqL.of h3) (.cons (.str _) .nil), by decide +kernel, by decide +kernel, ?_⟩
      have eb : PyData.eqv (.list [.str "more"]) (.list [.str "more"]) = true := by decide +kernel
      rw [eb]
      walk_at "go"
      have g3 : G3 p = some (.lst (xs ++ [.str "more"])) := s3 _ _ (s2 _ _ g1)
      refine ⟨.inl ⟨rfl, _, SqL.of g3⟩, ?_⟩
      refine ⟨p, _, .str "more", rfl, rfl, g3, by simp, ?_⟩
      rw [List.dropLast_concat]
      have ss : Same H (upd G3 p (.lst xs)) := back_same hp fun b u z h => s3 _ _ (s2 _ _ (s1 b u z h))
      walk_at "go"
      refine e_yes rfl ?_
      walk_at "go"
      refine e_repr (q.mono ss) g ?_
      walk_at "go"
      refine e_repr (q.mono ss) g ?_
      walk_at "go"
      have e : decide (V.str d.shown = V.str d.shown) = true := decide_eq_true rfl
      rw [e]
      exact hQ _ ss
    · have ty : TyX K H (.ref p) (.type "dict") := .base (.dK hp)
      refine e_isi ty (kit_ty (r := false) (by decide +kernel)) ?_
      walk_at "go"
      refine e_no rfl ?_
      walk_at "go"
      refine e_isi ty (kit_ty (r := true) (by decide +kernel)) ?_
      walk_at "go"
      refine e_yes rfl ?_
      walk_at "go"
      refine e_dput ?_
      walk_at "go"
      refine ⟨p, _, rfl, DPut.k (k := .inr "more") hp (sz (kvs.length + 1) (by omega)), ?_⟩
      obtain ⟨G1, e1⟩ : ∃ G, upd H p (.dK (putK kvs (.inr "more") (.int 1))) = G := ⟨_, rfl⟩
      have g1 : G1 p = some (.dK (putK kvs (.inr "more") (.int 1))) := by rw [← e1]; exact upd_same
      have s1 : ∀ b u, b ≠ p → H b = some u → G1 b = some u := fun b u z h => by rw [← e1, upd_ne z]; exact h
      rw [e1]
      walk_at "go"
      have ty : TyX K G1 (.ref p) (.type "dict") := .base (.dK g1)
      refine e_isi ty (kit_ty (r := true) (by decide +kernel)) ?_
      walk_at "go"
      refine e_yes rfl ?_
      walk_at "go"
      refine e_dget1 ?_
      walk_at "go"
      have ev : valV (putK kvs (.inr "more") (.int 1)) (.inr "more") = some (.int 1) := by rw [valV_put, if_pos rfl]
      refine ⟨p, rfl, .inl ⟨_, .inl g1⟩, ?_⟩
      walk_at "go"
      refine ⟨_, DGet.k (k := .inr "more") g1, ?_⟩
      rw [ev]
      have eg : (some (V.int 1)).getD V.non = V.int 1 := rfl
      rw [eg]
      walk_at "go"
      refine e_dpop1 ?_
      walk_at "go"
      refine ⟨p, rfl, .inl ⟨_, .inl g1⟩, ?_⟩
      walk_at "go"
      refine ⟨_, .inr "more", _, g1, rfl, ev, ?_⟩
      rw [no]
      have ss : Same H (upd G1 p (.dK kvs)) := back_same hp s1
      walk_at "go"
      refine e_yes (decide_eq_true rfl) ?_
      walk_at "go"
      refine e_repr (q.mono ss) g ?_
      walk_at "go"
      refine e_repr (q.mono ss) g ?_
      walk_at "go"
      have e : decide (V.str d.shown = V.str d.shown) = true := decide_eq_true rfl
      rw [e]
      exact hQ _ ss
    · refine e_isiE (.ty _) (KK.ask k hk) ha (KK.li k hk) ?_
      walk_at "go"
      refine e_no rfl ?_
      walk_at "go"
      refine e_isiE (.ty _) (KK.ask k hk) ha (KK.di k hk) ?_
      walk_at "go"
      refine e_no rfl ?_
      walk_at "go"
      refine e_isiE (.own _) (KK.ask k hk) ha (KK.wk k hk) ?_
      walk_at "go"
      refine e_yes rfl ?_
      walk_at "go"
      refine e_isiE (.own _) (KK.ask k hk) ha (KK.wk k hk) ?_
      walk_at "go"
      refine e_yes rfl ?_
      walk_at "go"
      refine ⟨a, k, rfl, hk, ha, fun l1 H1 n1 s1 h1 => ?_⟩
      walk_at "go"
      refine ⟨a, k, rfl, hk, ha.mono s1, fun l2 H2 n2 s2 h2 => ?_⟩
      have ek := kd_ok k hk
      refine ⟨.list (kd k), .list (kd k), dp_kinds (s2 _ _ h1), dp_kinds h2, ek.1, ek.1, ?_⟩
      rw [ek.2]
      exact hQ _ (s1.trans s2)
end
end K00
namespace K00
open PySem PySem.Spec PyProof.Rows L2 WkH WkE WkG WkR WkS WkP WkF WkW
theorem e_lcR {n : Nat} {g : TG} {tt : TT} {te : TE} {vs : List Nat} {σ : L2.St} {H : Hp} {Q : VK} (hn : n < 2 ^ 62) (Pv : Addr → Nat → Hp → Prop) (h0 : ∀ D, H D = none → Pv D 0 (upd H D (.lst [])))
    (hs : ∀ D i H', H D = none → i < n → Pv D i H' → g (.int (0 + (i : Int))) (wipe σ vs) H' fun σ2 H2 => wipe σ2 vs = wipe σ vs ∧ tt σ2 H2 fun b H3 =>
      if b = true then te σ2 H3 fun y H4 => ∃ acc, H4 D = some (.lst acc) ∧ acc.length < sizeLine ∧ Pv D (i + 1) (upd H4 D (.lst (acc ++ [y]))) else Pv D (i + 1) H3) (hd : ∀ D H', H D = none → Pv D n H' → Q (.ref D) H') :
    tLc (iRng1 (tCons (tC (.int (n : Int))) tNil)) g tt te vs σ H Q := by
  refine ⟨(n : Int), rfl, by omega, by omega, fun D nD => ?_⟩
  rw [Int.toNat_natCast]
  exact lc_range (Pv D) (h0 D nD) (fun i H' hi p => hs D i H' nD hi p) (fun H' p => hd D H' nD p)
theorem e_tYes {σ : L2.St} {H : Hp} {Q : Bool → Hp → Prop} (q : Q true H) : tYes σ H Q := q
theorem dec_nat (j k : Nat) : decide (V.int (0 + (j : Int)) = V.int (k : Int)) = decide (j = k) := by
  refine decide_eq_decide.mpr ⟨fun e => ?_, fun e => ?_⟩
  · injection e with e
    omega
  · rw [e, Int.zero_add]
theorem kindsUp_succ (i k : Nat) : kindsUp (i + 1) k = kindsUp i k ++ [.bl (decide (i = k))] := by
  unfold kindsUp
  rw [List.range_succ, List.map_append]
  rfl
def spRight (K : PySem.W.Frag) : Sp := fun vs H Q _ => ∃ (k : Nat) (v o : V) (b : Bool), vs = [.int k, v, o, .bl b] ∧ k < 51 ∧ Thing K H v ∧ Thing K H o ∧ ∀ H', Same H H' → Q (.bl true) H'
section
variable {P : Program} {w : World} {K : PySem.W.Frag} {mg : Str → Option Value} {base : Heap}
theorem sc_right : FnScope ["which", "thing", "other", "by_name", "error", "second", "k"] ["which", "thing", "other", "by_name"] d_right.sco := ⟨rfl, rfl, rfl, by decide +kernel, rfl, by decide +kernel, by decide +kernel⟩
theorem ok_right {fd : FuncData} (F : Stands K d_right fd) (T : Bl mg) (KK : Kinds K) (gW : mg "WorkError" = some (.ref 24)) (Fk : Fn P w K mg base CX0 1 "_law_kinds" ["error"] spKinds) (Fm : Fn P w K mg base CX0 4 "_law_made" ["which", "thing", "by_name"] (spMade 0 51))
    (Fc : Fn P w K mg base CX0 4 "_law_caught" ["which", "thing"] spCaught) (Ff : Fn P w K mg base CX0 1 "_law_field" ["which", "error"] spField) (Fa : FnC P w K mg base CX0 3 "_law_alike" ["kept", "thing"] (spAlike K)) : FnG P w K mg base CX0 5 d_right.adr fd ["which", "thing", "other", "by_name"] (spRight K) := by
  refine okG F sc_right (fun vs H Q E h => ?_) (fun cdv A outer s H vs Q E hG hr h => ⟨_, PSs.nox (pss_cons (ps_par (i := 4) (j := 5) rfl sc_right.nd rfl rfl (by decide) rfl rfl (pa_cons (pe_fn Fm hr rfl (pa_cons (pv 0) (pa_cons (pv 1) (pa_cons (pv 3) pa_nil)))) (pa_cons (pe_fn Fm hr rfl (pa_cons (pv 0) (pa_cons (pv 2) (pa_cons (pe_not (pv 3)) pa_nil)))) pa_nil)) rfl)
  (pss_cons (ps_if (PW.pt (pw_or (pt_cmpR (op_neD (by have := hr.un; dsimp only [cxOf, Cx.nox]; omega)) (pe_fn Fk hr rfl (pa_cons (pv 4) pa_nil)) (pe_lc (own := [("k", 6)]) (g := (gName 6)) rfl sc_right.nd (pi_range1 rfl T.range (pa_cons pe_int pa_nil)) (blkOk_by (own := [("k", 6)]) (N := ["which", "thing", "other", "by_name", "error", "second", "k"]) (sc := d_right.sco) (by decide +kernel)) (fun _ _ _ _ _ => (pg_name (i := 6) sc_right.nd rfl (by first | exact Or.inl rfl | exact Or.inr rfl))) (fun _ _ _ _ _ => pts_nil) (fun _ _ _ _ _ => (pe_cmpR op_eq (pv 6) (pv 0) (nomark _)))) (nomark _)) (pw_or (pt_not (pt_val (pe_callB call_isiA rfl T.isinstance WkB.b_isinstance (pa_cons (pv 4) (pa_cons (pe_glob (v := .ref 24) rfl gW rfl) pa_nil))))) (pw_or1 (pt_not (pt_val (pe_callB call_isiA rfl T.isinstance WkB.b_isinstance (pa_cons (pv 4) (pa_cons (pe_bltn (v := .ty "ValueError") rfl T.ValueError WkB.b_ValueError rfl) pa_nil))))))))) (pss_one (ps_ret pe_bl)) pss_nil)
  (pss_cons (ps_if (PW.pt (pw_or (pt_val (pe_callB call_isiA rfl T.isinstance WkB.b_isinstance (pa_cons (pv 4) (pa_cons (pe_bltn (v := .ty "LookupError") rfl T.LookupError WkB.b_LookupError rfl) pa_nil)))) (pw_or (pt_val (pe_callB call_isiA rfl T.isinstance WkB.b_isinstance (pa_cons (pv 4) (pa_cons (pe_bltn (v := .ty "ArithmeticError") rfl T.ArithmeticError WkB.b_ArithmeticError rfl) pa_nil)))) (pw_or1 (pt_not (pt_val (pe_fn Fc hr rfl (pa_cons (pv 0) (pa_cons (pv 1) pa_nil))))))))) (pss_one (ps_ret pe_bl)) pss_nil)
  (pss_cons (ps_if (pt_cmpR op_ge (pv 0) pe_int (nomark _)) (pss_one (ps_ret pe_bl)) pss_nil)
  (pss_one (ps_ret (pe_and (pe_fnC Fa hG hr rfl (pa_cons (pe_fn Ff hr rfl (pa_cons (pv 0) (pa_cons (pv 4) pa_nil))) (pa_cons (pv 1) pa_nil))) (pe_one (pe_fnC Fa hG hr rfl (pa_cons (pe_fn Ff hr rfl (pa_cons (pv 0) (pa_cons (pv 5) pa_nil))) (pa_cons (pv 2) pa_nil))))))))))), ?_⟩)
  · obtain ⟨k, v, o, b, rfl, _⟩ := h
    rfl
  · obtain ⟨k, v, o, b, rfl, hk, hv, ho, hQ⟩ := h
    try dsimp only [cxOf, Cx.nox, Cx.wish]
    walk_at "go"
    refine ⟨k, v, b, rfl, Nat.zero_le _, hk, fun a1 H1 n1 s1 h1 => ?_⟩
    walk_at "go"
    refine ⟨k, o, !b, rfl, Nat.zero_le _, hk, fun a2 H2 n2 s2 h2 => ?_⟩
    walk_at "go"
    have h1 := h1.mono s2
    refine ⟨a1, k, rfl, hk, h1.at_, fun l H3 n3 s3 h3 => ?_⟩
    walk_at "go"
    refine e_lcR (n := 51) (by decide) (fun D i G => G D = some (.lst (kindsUp i k)) ∧ ∀ b u, b ≠ D → H3 b = some u → G b = some u) (fun D nD => ⟨upd_same, fun b u z h => by rw [upd_ne z]; exact h⟩) (fun D i G nD hi p => ?_) fun D H4 nD p => ?_
    · obtain ⟨p1, p2⟩ := p
      walk_at "go"
      refine ⟨rfl, ?_⟩
      refine e_tYes ?_
      refine e_yes rfl ?_
      walk_at "go"
      refine ⟨_, p1, sz (List.length (kindsUp i k) + 1) (by unfold kindsUp; rw [List.length_map, List.length_range]; omega), ?_, fun b u z h => by rw [upd_ne z]; exact p2 b u z h⟩
      rw [upd_same, dec_nat, kindsUp_succ]
    · obtain ⟨p1, p2⟩ := p
      have s4 : Same H3 H4 := fun b u h => p2 b u (ne_of_none h nD) h
      have ek := kd_ok k hk
      refine ⟨.list (kd k), .list (kd k), dp_kinds (s4 _ _ h3), dp_kinds p1, ek.1, ek.1, ?_⟩
      rw [ek.2]
      have h4 := h1.mono (s3.trans s4)
      have h2 := h2.mono (s3.trans s4)
      have s04 : Same H H4 := s1.trans (s2.trans (s3.trans s4))
      walk_at "go"
      refine e_no rfl ?_
      walk_at "go"
      refine e_isiE (.own _) (KK.ask k hk) h4.at_ (KK.wk k hk) ?_
      walk_at "go"
      refine e_no rfl ?_
      walk_at "go"
      refine e_isiE (.ty _) (KK.ask k hk) h4.at_ (KK.ve k hk) ?_
      walk_at "go"
      refine e_no rfl ?_
      walk_at "go"
      refine e_isiE (.ty _) (KK.ask k hk) h4.at_ (KK.le k hk) ?_
      walk_at "go"
      refine e_no rfl ?_
      walk_at "go"
      refine e_isiE (.ty _) (KK.ask k hk) h4.at_ (KK.ae k hk) ?_
      walk_at "go"
      refine e_no rfl ?_
      walk_at "go"
      refine ⟨k, v, rfl, hk, fun H5 s5 => ?_⟩
      walk_at "go"
      refine e_no rfl ?_
      walk_at "go"
      refine e_ite (fun h => ?_) (fun h => ?_)
      · walk_at "go"
        exact hQ _ (s04.trans s5)
      · walk_at "go"
        have hk48 : k < 48 := by simp at h; omega
        refine ⟨k, a1, v, rfl, hk48, h4.mono s5, ?_⟩
        walk_at "go"
        refine ⟨v, rfl, hv.mono (s04.trans s5), fun H6 s6 => ?_⟩
        walk_at "go"
        refine e_yes rfl ?_
        walk_at "go"
        refine ⟨k, a2, o, rfl, hk48, h2.mono (s5.trans s6), ?_⟩
        walk_at "go"
        exact ⟨o, rfl, ho.mono (s04.trans (s5.trans s6)), fun H7 s7 => hQ _ (s04.trans (s5.trans (s6.trans s7)))⟩
end
end K00
namespace K00
open PySem PySem.Spec PyProof.Rows L2 WkH WkE WkG WkR WkS WkP WkF WkW
def LoopR (lo : Int) (n : Nat) (g : TG) (tb : TS) (D : Ends) (σ : L2.St) (H : Hp) : Prop := ∃ W : Nat → Nat → L2.St → Hp → Prop, (∃ m, W 0 m σ H) ∧ ∀ i m σ H, W i m σ H →
      ((Itr lo n).stop i H ∧ D.nx σ H) ∨ ((Itr lo n).go i H ∧ ∃ N : L2.St → Hp → Prop, (∀ σ' H', N σ' H' → ∃ m', m' < m ∧ W (i + 1) m' σ' H') ∧ ∀ x H', (Itr lo n).yld i H x H' → g x σ H' fun σ2 H2 => tb { D with nx := N, ct := N, bk := D.nx } σ2 H2)
theorem e_for1 {ta : TA} {g : TG} {tb : TS} {D : Ends} {σ : L2.St} {H : Hp} (q : ta σ H fun vs H1 => ∃ j : Int, vs = [.int j] ∧ -(2 ^ 62) ≤ j ∧ j < 2 ^ 62 ∧ LoopR 0 j.toNat g tb D σ H1) : tFor (iRng1 ta) g tb D σ H := q
theorem loop_by {n : Nat} {g : TG} {tb : TS} {D : Ends} {σ : L2.St} {H : Hp} (Pv : Nat → L2.St → Hp → Prop) (h0 : Pv 0 σ H)
    (hs : ∀ i σ H, i < n → Pv i σ H → g (.int (0 + (i : Int))) σ H fun σ2 H2 => tb { D with nx := Pv (i + 1), ct := Pv (i + 1), bk := D.nx } σ2 H2) (hd : ∀ σ H, Pv n σ H → D.nx σ H) : LoopR 0 n g tb D σ H := for_range Pv h0 hs hd
def spLaw (K : PySem.W.Frag) : Sp := fun vs H Q _ => ∃ (a : Addr) (ns : List Int), vs = [.ref a] ∧ SqL K H a (ns.map V.int) ∧ ns.length ≤ 100000 ∧ ∀ H', Q (.bl true) H'
section
variable {P : Program} {w : World} {K : PySem.W.Frag} {mg : Str → Option Value} {base : Heap}
theorem sclaw : FnScope ["script", "k", "box", "by_name", "which"] ["script"] dlaw.sco := ⟨rfl, rfl, rfl, by decide +kernel, rfl, by decide +kernel, by decide +kernel⟩
theorem ok_law {fd : FuncData} (F : Stands K dlaw fd) (T : Bl mg) (Fc : Fn P w K mg base CX0 1 "_law_cell" ["script", "k"] (spCell K)) (Fb : Fn P w K mg base CX0 1 "_law_box" ["great"] spBox) (Ft : Fn P w K mg base CX0 1 "_law_take" ["box", "many"] spTake)
    (Fh : Fn P w K mg base CX0 3 "_law_thing" ["box"] (spThing K)) (Fr : FnC P w K mg base CX0 5 "_law_right" ["which", "thing", "other", "by_name"] (spRight K)) : FnG P w K mg base CX0 6 dlaw.adr fd ["script"] (spLaw K) := by
  refine okG F sclaw (fun vs H Q E h => ?_) (fun cdv A outer s H vs Q E hG hr h => ⟨_, PSs.nox (pss_cons (ps_for PassesOwn.never rfl (pi_range1 rfl T.range (pa_cons (pe_callB (call_max2 rfl) rfl T.max WkB.b_max (pa_cons pe_int (pa_cons (pe_callB (call_min2 rfl) rfl T.min WkB.b_min (pa_cons pe_int (pa_cons (pe_callB call_len_seq rfl T.len WkB.b_len (pa_cons (pv 0) pa_nil)) pa_nil))) pa_nil))) pa_nil)) (pg_name (i := 1) sclaw.nd rfl (by first | exact Or.inl rfl | exact Or.inr rfl)) (pss_cons (ps_set (i := 2) sclaw.nd rfl (by first | exact Or.inl rfl | exact Or.inr rfl) (pe_fn Fb hr rfl (pa_cons (pe_fn Fc hr rfl (pa_cons (pv 0) (pa_cons (pv 1) pa_nil))) pa_nil)))
  (pss_cons (ps_set (i := 3) sclaw.nd rfl (by first | exact Or.inl rfl | exact Or.inr rfl) (pe_cmpR op_eq (pe_fn Ft hr rfl (pa_cons (pv 2) (pa_cons pe_int pa_nil))) pe_int (nomark _)))
  (pss_one (ps_for PassesOwn.never rfl (pi_range1 rfl T.range (pa_cons pe_int pa_nil)) (pg_name (i := 4) sclaw.nd rfl (by first | exact Or.inl rfl | exact Or.inr rfl)) (pss_cons (ps_if (pt_not (pt_val (pe_fnC Fr hG hr rfl (pa_cons (pv 4) (pa_cons (pe_fn Fh hr rfl (pa_cons (pv 2) pa_nil)) (pa_cons (pe_fn Fh hr rfl (pa_cons (pv 2) pa_nil)) (pa_cons (pv 3) pa_nil))))))) (pss_one (ps_ret pe_bl)) pss_nil)
  (pss_one (ps_set (i := 3) sclaw.nd rfl (by first | exact Or.inl rfl | exact Or.inr rfl) (pe_not (pv 3))))))))))
  (pss_one (ps_ret pe_bl))), ?_⟩)
  · obtain ⟨a, ns, rfl, _⟩ := h
    rfl
  · obtain ⟨a, ns, rfl, hS, hl, hQ⟩ := h
    try dsimp only [cxOf, Cx.nox, Cx.wish]
    walk_at "go"
    with_reducible refine e_for1 ?_
    walk_at "go"
    refine ⟨a, _, rfl, Or.inl hS, ?_⟩
    walk_at "go"
    refine ⟨_, _, rfl, ?_⟩
    walk_at "go"
    refine ⟨_, _, rfl, ?_⟩
    walk_at "go"
    rw [List.length_map]
    have hj : ∀ L : Nat, 0 ≤ (if (if (L : Int) < 4 then (L : Int) else 4) > 2 then (if (L : Int) < 4 then (L : Int) else 4) else 2) ∧ (if (if (L : Int) < 4 then (L : Int) else 4) > 2 then (if (L : Int) < 4 then (L : Int) else 4) else 2) ≤ 4 := fun L => by
      split <;> split <;> omega
    obtain ⟨j0, j4⟩ := hj ns.length
    generalize (if (if (ns.length : Int) < 4 then (ns.length : Int) else 4) > 2 then (if (ns.length : Int) < 4 then (ns.length : Int) else 4) else 2) = J at j0 j4
    refine ⟨by omega, by omega, ?_⟩
    refine loop_by (fun i σ H' => ∃ x1 x2 x3 x4, σ = [some (.ref a), x1, x2, x3, x4] ∧ Same H H') ⟨_, _, _, _, rfl, Same.refl H⟩ (fun i σ H1 hi p => ?_) (fun σ H' p => ?_)
    · obtain ⟨x1, x2, x3, x4, rfl, s1⟩ := p
      walk_at "go"
      refine ⟨a, ns, i, by rw [Int.zero_add]; rfl, s1.seq hS, by omega, fun g H2 s2 => ?_⟩
      walk_at "go"
      refine ⟨g, rfl, fun b H3 n3 s3 hb => ?_⟩
      walk_at "go"
      refine ⟨b, 0, 2, rfl, hb, by decide, by decide, by decide, fun r ys r0 r1 hb => ?_⟩
      obtain ⟨H4, e4⟩ : ∃ G, upd H3 b (.lst ys) = G := ⟨_, rfl⟩
      have nb : H b = none := Same.free s1 (Same.free s2 n3)
      have s4 : Same H H4 := fun c o h => by
        rw [← e4, upd_ne (ne_of_none h nb)]
        exact s3 _ _ (s2 _ _ (s1 _ _ h))
      rw [e4] at hb ⊢
      walk_at "go"
      with_reducible refine e_for1 ?_
      walk_at "go"
      refine ⟨by decide, by decide, ?_⟩
      refine loop_by (fun m σ H' => ∃ (t : Bool) (z : Option V), σ = [some (.ref a), some (.int (0 + (i : Int))), some (.ref b), some (.bl t), z] ∧ Same H H' ∧ BoxAt H' b (1 + 4 * m)) ⟨_, _, rfl, s4, hb⟩ (fun m σ H5 hm p => ?_) (fun σ H' p => ?_)
      · obtain ⟨t, z, rfl, s5, hb5⟩ := p
        have hm : m < 51 := hm
        walk_at "go"
        refine ⟨b, 1 + 4 * m, rfl, hb5, by omega, fun v1 H6 s6 hb6 t6 => ?_⟩
        walk_at "go"
        refine ⟨b, 1 + 4 * m + 2, rfl, hb6, by omega, fun v2 H7 s7 hb7 t7 => ?_⟩
        walk_at "go"
        have s57 : Same H H7 := fun c o h => era_sub _ _ (s7 _ _ (s6 _ _ (by rw [era_ne (ne_of_none h nb)]; exact s5 _ _ h)))
        refine ⟨m, v1, v2, t, by rw [Int.zero_add]; rfl, hm, (t6.mono s7).mono era_sub, t7.mono era_sub, fun H8 s8 => ?_⟩
        walk_at "go"
        refine e_no rfl ?_
        walk_at "go"
        exact ⟨_, _, rfl, s57.trans s8, hb7.mono s8⟩
      · obtain ⟨t, z, rfl, s5, hb5⟩ := p
        exact ⟨_, _, _, _, rfl, s5⟩
    · obtain ⟨x1, x2, x3, x4, rfl, s1⟩ := p
      walk_at "go"
      exact hQ _
end
end K00
namespace WkH
open PySem PySem.Spec PyProof.Rows L2
theorem seeL_join {K : PySem.W.Frag} {e1 e2 e3 : PySem.W.Frag → Bool} {f1 f2 : List DefL} (a : seeL e1 f1 K = wantL f1) (b : seeL e2 f2 K = wantL f2) (c : seeL e3 [] K = wantL []) : seeL (fun K => e1 K && (e2 K && e3 K)) (f1 ++ f2) K = wantL (f1 ++ f2) := by
  have a1 : (e1 K && f1.all fun d => d.good K) = true := congrArg (fun z : AlL => z.1) a
  have a2 : (f1.map fun d => fnA K d.adr) = f1.map DefL.row := congrArg (fun z : AlL => z.2) a
  have b1 : (e2 K && f2.all fun d => d.good K) = true := congrArg (fun z : AlL => z.1) b
  have b2 : (f2.map fun d => fnA K d.adr) = f2.map DefL.row := congrArg (fun z : AlL => z.2) b
  have c1 : (e3 K && ([] : List DefL).all fun d => d.good K) = true := congrArg (fun z : AlL => z.1) c
  obtain ⟨a11, a12⟩ := Bool.and_eq_true_iff.mp a1
  obtain ⟨b11, b12⟩ := Bool.and_eq_true_iff.mp b1
  obtain ⟨c11, c12⟩ := Bool.and_eq_true_iff.mp c1
  unfold seeL wantL
  dsimp only
  rw [a11, b11, c11, List.all_append, a12, b12, List.map_append, List.map_append, a2, b2]
  rfl
theorem join3 {o : Option PySem.W.SharedT} {as : List Addr} {e1 e2 e3 : PySem.W.Frag → Bool} {f1 f2 : List DefL} (a : o.map (obL as e1 f1) = some (wantL f1)) (b : o.map (obL as e2 f2) = some (wantL f2)) (c : o.map (obL as e3 []) = some (wantL [])) :
    o.map (obL as (fun K => e1 K && (e2 K && e3 K)) (f1 ++ f2)) = some (wantL (f1 ++ f2)) := by
  cases o with
  | none => cases a
  | some s =>
    rw [Option.map_some, Option.some.injEq] at a b c ⊢
    exact seeL_join a b c
end WkH
namespace K00
open PySem PySem.Spec PyProof.Rows L2 WkH WkE WkG WkR WkS WkP WkF WkW
def ex (K : PySem.W.Frag) : Bool := exA K && (exB K && exC K)
abbrev hk : PySem.W.Hook := hookL seen ex fn
def ob (s : PySem.W.SharedT) : AlL := obL seen ex fn s
theorem ob_eq (s : PySem.W.SharedT) : ob s = hk.obs s.abs := obL_eq _ _ _ s
theorem run (w : World) : HandSHeadRun.RunEq R vw hk ob 20000 loose w := fun os =>
  three (runL w os) (runS w os) (join3 (runA w os) (runB w os) (runC w os))
theorem facts {P : Program} {w : World} {K : PySem.W.Frag} {h : Heap} {mg : Str → Option Value} {f : Addr} (X : K.In h) (G : h.Ns mainGlobals mg) (hfa : mg ("law" : Str) = some (.ref f)) (c : Told ex fn K) :
    ∃ fd : FuncData, (∀ (s : Shared) (v : Value), BindsTo s fd ⟨[v], []⟩ [("script", v)]) ∧ ∀ base : Heap, K.In base → base.Ns mainGlobals mg → FnG P w K mg base CX0 6 f fd ["script"] (spLaw K) := by
  have hA : exA K = true := (ba c.more).1
  have hB : exB K = true := (ba (ba c.more).2).1
  have hC : exC K = true := (ba (ba c.more).2).2
  have gl : ∀ q ∈ globs, mg q.1 = some (.ref q.2) := fun q hq => gloB_ok X G (List.all_eq_true.mp (ba hA).1 q hq)
  have fr : ∀ x ∈ bltn, mg x = none := fun x hx => freeB_ok X G (List.all_eq_true.mp (ba (ba hA).2).1 x hx)
  have hW : BaseC K 24 := baseB_ok (ba (ba (ba hA).2).2).1
  have hy : sysB K = true := (ba (ba (ba (ba hA).2).2).2).1
  have hk5 := (ba (ba (ba (ba hA).2).2).2).2
  have KX : KW K := ⟨hy, fun t ht => of_decide_eq_true (List.all_eq_true.mp hk5 t ht)⟩
  have KK : Kinds K := kinds_mk hB hC
  have T : Bl mg := ⟨fr _ (List.mem_of_getElem? (i := 0) rfl), fr _ (List.mem_of_getElem? (i := 1) rfl), fr _ (List.mem_of_getElem? (i := 2) rfl), fr _ (List.mem_of_getElem? (i := 3) rfl), fr _ (List.mem_of_getElem? (i := 4) rfl), fr _ (List.mem_of_getElem? (i := 5) rfl),
    fr _ (List.mem_of_getElem? (i := 6) rfl), fr _ (List.mem_of_getElem? (i := 7) rfl), fr _ (List.mem_of_getElem? (i := 8) rfl), fr _ (List.mem_of_getElem? (i := 9) rfl), fr _ (List.mem_of_getElem? (i := 10) rfl), fr _ (List.mem_of_getElem? (i := 11) rfl),
    fr _ (List.mem_of_getElem? (i := 12) rfl), fr _ (List.mem_of_getElem? (i := 13) rfl), fr _ (List.mem_of_getElem? (i := 14) rfl), fr _ (List.mem_of_getElem? (i := 15) rfl)⟩
  have gW : mg "WorkError" = some (.ref 24) := gl ("WorkError", 24) (List.mem_of_getElem? (i := 17) rfl)
  have st : ∀ d ∈ fn, ∃ fd, Stands K d fd := c.defs
  have stI : ∀ d ∈ inis, ∃ fd, Stands K d fd := fun d hd => st d (List.mem_append_right _ hd)
  have stL : ∀ d ∈ laws, ∃ fd, Stands K d fd := fun d hd => st d (List.mem_append_left _ hd)
  have at_ : ∀ (i : Nat) (d : DefL), laws[i]? = some d → ∃ fd, Stands K d fd := fun i d e => stL d (List.mem_of_getElem? e)
  have gat : ∀ (i : Nat) (q : Str × Addr), globs[i]? = some q → mg q.1 = some (.ref q.2) := fun i q e => gl q (List.mem_of_getElem? e)
  obtain ⟨f0, F0⟩ := at_ 0 d_cell rfl
  obtain ⟨f1, F1⟩ := at_ 1 d_box rfl
  obtain ⟨f2, F2⟩ := at_ 2 d_take rfl
  obtain ⟨f3, F3⟩ := at_ 3 d_thing rfl
  obtain ⟨f4, F4⟩ := at_ 4 d_made_a rfl
  obtain ⟨f5, F5⟩ := at_ 5 d_made_b rfl
  obtain ⟨f6, F6⟩ := at_ 6 d_made_c rfl
  obtain ⟨f7, F7⟩ := at_ 7 d_made rfl
  obtain ⟨f8, F8⟩ := at_ 8 d_kinds rfl
  obtain ⟨f9, F9⟩ := at_ 9 d_field rfl
  obtain ⟨f10, F10⟩ := at_ 10 d_alike rfl
  obtain ⟨f11, F11⟩ := at_ 11 d_raised_a rfl
  obtain ⟨f12, F12⟩ := at_ 12 d_raised_b rfl
  obtain ⟨f13, F13⟩ := at_ 13 d_raised_c rfl
  obtain ⟨f14, F14⟩ := at_ 14 d_caught rfl
  obtain ⟨f15, F15⟩ := at_ 15 d_right rfl
  obtain ⟨f16, F16⟩ := at_ 16 dlaw rfl
  have e := hfa.symm.trans (gat 16 ("law", 1113) rfl)
  cases e
  have b16 := FunD.bindsA (ps := ["script"]) F16 fun _ _ _ _ _ _ us hl => match us, hl with | [_], _ => rfl
  refine ⟨f16, fun s v => b16 s [v] rfl, fun base KB GB => ?_⟩
  have Es : Es P w K mg base := es_mk hB hW gW X G stI
  have C0 : Fn P w K mg base CX0 1 "_law_cell" ["script", "k"] (spCell K) := .mk' F0 (gat 0 ("_law_cell", 1003) rfl) (bind2 F0 fun _ _ _ _ _ _ _ _ => rfl) (ok_cell F0 T)
  have C1 : Fn P w K mg base CX0 1 "_law_box" ["great"] spBox := .mk' F1 (gat 1 ("_law_box", 1010) rfl) (bind1 F1 fun _ _ _ _ _ _ _ => rfl) (ok_box F1 T)
  have C2 : Fn P w K mg base CX0 1 "_law_take" ["box", "many"] spTake := .mk' F2 (gat 2 ("_law_take", 1017) rfl) (bind2 F2 fun _ _ _ _ _ _ _ _ => rfl) (ok_take F2 T)
  have C3 : Fn P w K mg base CX0 3 "_law_thing" ["box"] (spThing K) := .mk' F3 (gat 3 ("_law_thing", 1024) rfl) (bind1 F3 fun _ _ _ _ _ _ _ => rfl) (ok_thing F3 T Es C2)
  have C4 : Fn P w K mg base CX0 3 "_law_made_a" ["which", "thing", "by_name"] (spMade 0 17) := .mk' F4 (gat 4 ("_law_made_a", 1031) rfl) (bind3 F4 fun _ _ _ _ _ _ _ _ _ => rfl) (ok_made_a F4 Es)
  have C5 : Fn P w K mg base CX0 3 "_law_made_b" ["which", "thing", "by_name"] (spMade 17 34) := .mk' F5 (gat 5 ("_law_made_b", 1038) rfl) (bind3 F5 fun _ _ _ _ _ _ _ _ _ => rfl) (ok_made_b F5 Es)
  have C6 : Fn P w K mg base CX0 3 "_law_made_c" ["which", "thing", "by_name"] (spMade 34 51) := .mk' F6 (gat 6 ("_law_made_c", 1045) rfl) (bind3 F6 fun _ _ _ _ _ _ _ _ _ => rfl) (ok_made_c F6 Es)
  have C7 : Fn P w K mg base CX0 4 "_law_made" ["which", "thing", "by_name"] (spMade 0 51) := .mk' F7 (gat 7 ("_law_made", 1052) rfl) (bind3 F7 fun _ _ _ _ _ _ _ _ _ => rfl) (ok_made F7 C4 C5 C6)
  have C8 : Fn P w K mg base CX0 1 "_law_kinds" ["error"] spKinds := .mk' F8 (gat 8 ("_law_kinds", 1059) rfl) (bind1 F8 fun _ _ _ _ _ _ _ => rfl) (ok_kinds F8 T Es KK)
  have C8P : FnH P w K mg base 1 "_law_kinds" ["error"] spKindsP := .mk' F8 (gat 8 ("_law_kinds", 1059) rfl) (bind1 F8 fun _ _ _ _ _ _ _ => rfl) (ok_kindsP F8 T Es KK)
  have C9 : Fn P w K mg base CX0 1 "_law_field" ["which", "error"] spField := .mk' F9 (gat 9 ("_law_field", 1066) rfl) (bind2 F9 fun _ _ _ _ _ _ _ _ => rfl) (ok_field F9 hB KK)
  have C10 : FnC P w K mg base CX0 3 "_law_alike" ["kept", "thing"] (spAlike K) := .mk' F10 (gat 10 ("_law_alike", 1073) rfl) (bind2 F10 fun _ _ _ _ _ _ _ _ => rfl) (ok_alike F10 T KK KX gW C8)
  have C11 : Fn P w K mg base (CX P w) 3 "_law_raised_a" ["which", "thing"] (spRaised 0 17) := .mk' F11 (gat 11 ("_law_raised_a", 1080) rfl) (bind2 F11 fun _ _ _ _ _ _ _ _ => rfl) (ok_raised_a F11 Es)
  have C12 : Fn P w K mg base (CX P w) 3 "_law_raised_b" ["which", "thing"] (spRaised 17 34) := .mk' F12 (gat 12 ("_law_raised_b", 1087) rfl) (bind2 F12 fun _ _ _ _ _ _ _ _ => rfl) (ok_raised_b F12 Es)
  have C13 : Fn P w K mg base (CX P w) 3 "_law_raised_c" ["which", "thing"] (spRaised 34 51) := .mk' F13 (gat 13 ("_law_raised_c", 1094) rfl) (bind2 F13 fun _ _ _ _ _ _ _ _ => rfl) (ok_raised_c F13 Es)
  have C14 : Fn P w K mg base CX0 4 "_law_caught" ["which", "thing"] spCaught := .mk' F14 (gat 14 ("_law_caught", 1101) rfl) (bind2 F14 fun _ _ _ _ _ _ _ _ => rfl) (ok_caught F14 T KK gW C11 C12 C13 C8P)
  have C15 : FnC P w K mg base CX0 5 "_law_right" ["which", "thing", "other", "by_name"] (spRight K) := .mk' F15 (gat 15 ("_law_right", 1106) rfl) (bind4 F15 fun _ _ _ _ _ _ _ _ _ _ => rfl) (ok_right F15 T KK gW C8 C7 C14 C9 C10)
  exact ok_law F16 T C0 C1 C2 C3 C15
end K00
open PySem PySem.W PySem.Calls PyProof.Rows
theorem PySem.Challenge.cw_workwide_k00_errors_holds : PySem.Challenge.rw_workwide_k00_errors.Holds := by
  w_on; o_law
  refine HandSHeadRun.head_any (r := OpenLaw.row PySem.Challenge.rw_workwide_k00_errors) (q := K00.vw) (H := K00.hk) (ob := K00.ob) (M := 20000) (loose := K00.loose) (d := HandSHeadRun.topDef (OpenLaw.row PySem.Challenge.rw_workwide_k00_errors).prog 70) (kwd := []) K00.ob_eq
    (by kernel_rfl) (fun s => by kernel_rfl) K00.run (by kernel_rfl) (by kernel_rfl) (by kernel_rfl) (by rfl) (by first | assumption | decide +kernel) (by decide +kernel) ⟨rfl, rfl, rfl, rfl, rfl, by decide +kernel⟩ ?hw ?hc
  case hw => w_witness2
  case hc =>
    refine WkG.walkG (l := PySem.Challenge.rw_workwide_k00_errors) (n := 63) (k := 6) (x := "script") (CX := L2.CX0) rfl (by rw [PySem.sizeLine_eq]; decide) (by kernel_rfl) ⟨rfl, by decide, by decide⟩ ?F (fun _ _ _ _ z => z)
    intro w mg fa h Y G hmg0
    obtain ⟨K, KX, c⟩ := Y
    have hmg : mg ("law" : PySem.Str) = some (.ref fa) := by
      have e : (HandSHeadRun.topDef (OpenLaw.row PySem.Challenge.rw_workwide_k00_errors).prog 70).name = ("law" : PySem.Str) := by kernel_rfl
      rw [← e]
      exact hmg0
    obtain ⟨fd, hb, hF⟩ := K00.facts (P := (PySem.Challenge.rw_workwide_k00_errors).prog) (w := w) KX G hmg c
    exact ⟨K, fd, K00.spLaw K, KX, hb, fun H a ns hl _ hS => ⟨a, ns, rfl, hS, by omega, fun _ => rfl⟩, hF⟩
#print axioms PySem.Challenge.cw_workwide_k00_errors_holds
