import PyProof.Rows.All
import HandS.ForMost
import HandS.ExcInit
import HandS.Head2
import HandS.Head3
import HandS.HeadHook2
import HandS.HeadEnd
import HandS.ClsMeth
import HandS.IsInst
import HandS.ExcField
import HandS.Defaults
import KE.KExcIs
import HandS.WordsExc
import HandS.HotCalls
import HandS.EndBits
import HandS.List
import HandS.Dict
import PyProof.ReprRoads
import PyProof.CallFns
import PySem.Challenge.RW_workwide_k35_searches
import HandS.Gcd
import HandS.TupAny
import HandS.Deep
import HandS.Wide
import HandS.More
import HandS.DictComp
import HandS.TupSets
import HandS.Star
import HandS.TupLe
import HandS.Text
import KE.DataFind
import PyProof.ReprLen
import PyProof.FitsInt
import HandS.Call
import HandS.ExcOwn
import HandS.Style
set_option Elab.async false
set_option linter.all false
set_option maxRecDepth 100000
set_option maxHeartbeats 0
/-! The head by addresses: what stands at written addresses behind the top, told by one Bool and by the defs' rows. -/
namespace WkH
open PySem PySem.Spec PyProof.Rows L2

/-- a def at a written address -/
structure DefL where
  adr : Addr
  nm : Str
  qual : Str
  pars : Arguments
  bod : List Stmt
  sco : Scope
def fnA (K : PySem.W.Frag) (a : Addr) : He.FnW := match K.lookup a with
  | some ⟨_, _, .func q, _⟩ => some (q.name, q.qualname, q.params, q.body, q.scope, q.globals, q.closure, q.builtins)
  | _ => none
def DefL.row (d : DefL) : He.FnW := some (d.nm, d.qual, d.pars, .stmts d.bod, d.sco, mainGlobals, [], builtinsNs)
def DefL.good (K : PySem.W.Frag) (d : DefL) : Bool := match K.lookup d.adr with
  | some ⟨_, _, .func q, _⟩ => PySem.W.codeIn K q.code d.qual && (match q.defaults with
    | .none => true
    | _ => false)
  | _ => false
/-- the def d stands there -/
abbrev Stands (K : PySem.W.Frag) (d : DefL) (fd : FuncData) : Prop := FunD K d.nm d.qual d.pars d.bod d.sco [] [] d.adr fd
theorem DefL.stands {K : PySem.W.Frag} {d : DefL} (e : fnA K d.adr = d.row) (c : d.good K = true) : ∃ fd, Stands K d fd := by
  unfold DefL.good at c
  unfold fnA at e
  have kp : PySem.W.keepIn K (.ref d.adr) = true := by
    unfold PySem.W.keepIn
    dsimp only
    split at e
    · rename_i hq
      rw [hq]
    · cases e
  cases q : K.lookup d.adr with
  | none =>
    rw [q] at c
    cases c
  | some o =>
    obtain ⟨oc, od, dt, osl⟩ := o
    rw [q] at c e
    cases dt with
    | func fd =>
      obtain ⟨n1, n2, n3, n4, n5, n6, n7, n8, n9, n10, n11, n12, n13, n14, n15⟩ := fd
      have e2 : (some (n1, n2, n3, n4, n5, n6, n7, n15) : He.FnW) = some (d.nm, d.qual, d.pars, .stmts d.bod, d.sco, mainGlobals, [], builtinsNs) := e
      simp only [Option.some.injEq, Prod.mk.injEq] at e2
      obtain ⟨h1, h2, h3, h4, h5, h6, h7, h8⟩ := e2
      subst h1 h2 h3 h4 h5 h6 h7 h8
      obtain ⟨k1, k2⟩ := Bool.and_eq_true_iff.mp c
      cases n8 with
      | none => exact ⟨_, ⟨oc, od, .none, n9, n10, n11, n12, n13, n14, osl, rfl, q, k1, .inl ⟨rfl, rfl⟩, .inl rfl⟩, kp⟩
      | _ => cases k2
    | _ => cases c

/-! ### the hook -/
abbrev AlL : Type := Bool × List He.FnW
def seeL (ex : PySem.W.Frag → Bool) (fn : List DefL) (K : PySem.W.Frag) : AlL := (ex K && fn.all fun d => d.good K, fn.map fun d => fnA K d.adr)
def wantL (fn : List DefL) : AlL := (true, fn.map DefL.row)
structure Told (ex : PySem.W.Frag → Bool) (fn : List DefL) (K : PySem.W.Frag) : Prop where
  more : ex K = true
  defs : ∀ d ∈ fn, ∃ fd, Stands K d fd
theorem told_of {ex : PySem.W.Frag → Bool} {fn : List DefL} {K : PySem.W.Frag} (e : seeL ex fn K = wantL fn) : Told ex fn K := by
  have e1 : (ex K && fn.all fun d => d.good K) = true := congrArg (fun z : AlL => z.1) e
  have e2 : (fn.map fun d => fnA K d.adr) = fn.map DefL.row := congrArg (fun z : AlL => z.2) e
  obtain ⟨a, b⟩ := Bool.and_eq_true_iff.mp e1
  refine ⟨a, fun d hd => ?_⟩
  obtain ⟨i, hi, rfl⟩ := List.mem_iff_getElem.mp hd
  have e3 : (fn.map fun d => fnA K d.adr)[i]? = (fn.map DefL.row)[i]? := by rw [e2]
  rw [List.getElem?_map, List.getElem?_map, List.getElem?_eq_getElem hi] at e3
  exact DefL.stands (Option.some.inj e3) (List.all_eq_true.mp b _ (List.getElem_mem hi))
def hookL (as : List Addr) (ex : PySem.W.Frag → Bool) (fn : List DefL) : PySem.W.Hook where
  α := AlL
  obs := fun s => seeL ex fn (He.frG s.heap.get? as)
  val := fun _ => wantL fn
  says := fun _ h => ∃ K : PySem.W.Frag, K.In h ∧ Told ex fn K
  of := fun _ _ e => ⟨_, He.frG_in, told_of e⟩
  keeps := fun _ _ _ ⟨K, hK, c⟩ k => ⟨K, PySem.W.Frag.In.keeps hK k, c⟩
def obL (as : List Addr) (ex : PySem.W.Frag → Bool) (fn : List DefL) (s : PySem.W.SharedT) : AlL := seeL ex fn (He.frG (HandSHeadRun.getT s) as)
theorem obL_eq (as : List Addr) (ex : PySem.W.Frag → Bool) (fn : List DefL) (s : PySem.W.SharedT) : obL as ex fn s = (hookL as ex fn).obs s.abs := by
  have e : HandSHeadRun.getT s = s.abs.heap.get? := funext (HandSHeadRun.getT_eq s)
  unfold obL
  rw [e]
  rfl
/-- three looks at one end, told one by one -/
theorem three {σ α β γ : Type} {o : Option σ} {f : σ → α} {g : σ → β} {k : σ → γ} {a : α} {b : β} {c : γ} (h1 : o.map f = some a) (h2 : o.map g = some b) (h3 : o.map k = some c) : o.map (fun s => (f s, g s, k s)) = some (a, b, c) := by
  cases o with
  | none => cases h1
  | some s =>
    rw [Option.map_some, Option.some.injEq] at h1 h2 h3
    rw [Option.map_some, h1, h2, h3]

/-! ### facts of names -/
/-- the module's name x is the object at a -/
def gloB (K : PySem.W.Frag) (x : Str) (a : Addr) : Bool := match PySem.W.nsIn K mainGlobals x with
  | some (some (.ref b)) => Nat.beq b a
  | _ => false
theorem gloB_ok {K : PySem.W.Frag} {h : Heap} {mg : Str → Option Value} (X : K.In h) (G : h.Ns mainGlobals mg) {x : Str} {a : Addr} (c : gloB K x a = true) : mg x = some (.ref a) := by
  unfold gloB at c
  split at c
  · rename_i b hb
    have e : b = a := Nat.eq_of_beq_eq_true c
    rw [e] at hb
    exact PySem.W.mg_of X G hb
  · cases c
def freeB (K : PySem.W.Frag) (x : Str) : Bool := match PySem.W.nsIn K mainGlobals x with
  | some none => true
  | _ => false
theorem freeB_ok {K : PySem.W.Frag} {h : Heap} {mg : Str → Option Value} (X : K.In h) (G : h.Ns mainGlobals mg) {x : Str} (c : freeB K x = true) : mg x = none := by
  unfold freeB at c
  split at c
  · rename_i hb
    exact PySem.W.mg_none_of X G hb
  · cases c
def intB (K : PySem.W.Frag) (x : Str) (i : Int) : Bool := match PySem.W.nsIn K mainGlobals x with
  | some (some (.int j _)) => decide (j = i)
  | _ => false
theorem intB_ok {K : PySem.W.Frag} {h : Heap} {mg : Str → Option Value} (X : K.In h) (G : h.Ns mainGlobals mg) {x : Str} {i : Int} (c : intB K x i = true) : ∃ t, mg x = some (.int i t) := by
  unfold intB at c
  split at c
  · rename_i j t hb
    rw [of_decide_eq_true c] at hb
    exact ⟨t, PySem.W.mg_of X G hb⟩
  · cases c

/-! ### an own exception class over ValueError -/
def isSet (K : PySem.W.Frag) (C : Addr) (n : Str) (v : Option Value) : Bool := decide (PySem.W.findIn K (.ref C) n = some v)
/-- the class object itself -/
def clsB (K : PySem.W.Frag) (C : Addr) : Bool := match K.lookup C with
  | some ⟨.type t, _, .cls cd, sl⟩ => decide (t = "type") && (match cd.mro, sl.toList with
    | .ref D :: bm, [_, _, _, _, some (.builtin n), _] => decide (D = C) && (decide (n = "ValueError.__new__") && (cd.hasDict && (!cd.hasDel && PySem.HandSPX.refsVE bm)))
    | _, _ => false)
  | _ => false
theorem clsB_ok {K : PySem.W.Frag} {C : Addr} (c : clsB K C = true) :
    ∃ nm q N bs bm sn sub ab col dd k0 k1 k2 k3 k5, K.lookup C = some (excClassObj nm q C N bs bm true sn sub ab col dd k0 k1 k2 k3 k5 "ValueError.__new__") ∧ PySem.HandSPX.refsVE bm = true := by
  unfold clsB at c
  split at c
  · rename_i t dd cd sl hl
    obtain ⟨c1, c2⟩ := Bool.and_eq_true_iff.mp c
    split at c2
    · rename_i D bm k0 k1 k2 k3 n k5 hm hs
      obtain ⟨d1, c3⟩ := Bool.and_eq_true_iff.mp c2
      obtain ⟨d2, c4⟩ := Bool.and_eq_true_iff.mp c3
      obtain ⟨d3, c5⟩ := Bool.and_eq_true_iff.mp c4
      obtain ⟨d4, d5⟩ := Bool.and_eq_true_iff.mp c5
      obtain ⟨nm, bs, mro, ns, qn, hd, sn, sub, ab, col, del⟩ := cd
      have e1 := of_decide_eq_true c1
      have e2 := of_decide_eq_true d1
      have e3 := of_decide_eq_true d2
      dsimp only at hm d3 d4
      subst e1 e2 e3 hm d3
      have e4 : del = false := by
        cases del with
        | false => rfl
        | true => cases d4
      subst e4
      have hsl : sl = #[k0, k1, k2, k3, some (.builtin "ValueError.__new__"), k5] := by
        obtain ⟨l⟩ := sl
        simp only at hs
        rw [hs]
      subst hsl
      exact ⟨nm, qn, ns, bs, bm, sn, sub, ab, col, dd, k0, k1, k2, k3, k5, hl, d5⟩
    · cases c2
  · cases c
/-- what is asked of the class at C, whose __init__ is the def at f (none: WorkError's own, the base's) -/
def excB (K : PySem.W.Frag) (C : Addr) : Bool :=
  clsB K C && (isSet K C "__setattr__" (some (.builtin "object.__setattr__")) && (isSet K C "__getattribute__" (some (.builtin "BaseException.__getattribute__")) && (isSet K C "__getattr__" none &&
    (decide (PySem.W.subIn K (.ref C) (.type "BaseException") = some true) && (decide (PySem.W.typeIn K (.ref C) = some (.type "type")) && PySem.W.keepIn K (.ref C))))))
structure ExcC (K : PySem.W.Frag) (C : Addr) : Prop where
  oex : OexC K C
  ga : PySem.W.findIn K (.ref C) "__getattribute__" = some (some (.builtin "BaseException.__getattribute__"))
  gt : PySem.W.findIn K (.ref C) "__getattr__" = some none
theorem excB_ok {K : PySem.W.Frag} {C : Addr} (c : excB K C = true) : ExcC K C := by
  obtain ⟨c1, c⟩ := Bool.and_eq_true_iff.mp c
  obtain ⟨c2, c⟩ := Bool.and_eq_true_iff.mp c
  obtain ⟨c3, c⟩ := Bool.and_eq_true_iff.mp c
  obtain ⟨c4, c⟩ := Bool.and_eq_true_iff.mp c
  obtain ⟨c5, c⟩ := Bool.and_eq_true_iff.mp c
  obtain ⟨c6, c7⟩ := Bool.and_eq_true_iff.mp c
  exact ⟨⟨clsB_ok c1, of_decide_eq_true c2, of_decide_eq_true c5, of_decide_eq_true c6, c7⟩, of_decide_eq_true c3, of_decide_eq_true c4⟩
/-- its __init__ is the def at f, which sets the attribute a -/
def iniB (K : PySem.W.Frag) (C f : Addr) (a : Option Str) : Bool := isSet K C "__init__" (some (.ref f)) && (decide (PySem.W.typeIn K (.ref f) = some (.type "function")) && (match a with
  | some x => isSet K C x none
  | none => true))
structure IniC (K : PySem.W.Frag) (C f : Addr) (a : Option Str) : Prop where
  ini : PySem.W.findIn K (.ref C) "__init__" = some (some (.ref f))
  typ : PySem.W.typeIn K (.ref f) = some (.type "function")
  att : ∀ x, a = some x → PySem.W.findIn K (.ref C) x = some none
theorem iniB_ok {K : PySem.W.Frag} {C f : Addr} {a : Option Str} (c : iniB K C f a = true) : IniC K C f a := by
  obtain ⟨c1, c⟩ := Bool.and_eq_true_iff.mp c
  obtain ⟨c2, c3⟩ := Bool.and_eq_true_iff.mp c
  refine ⟨of_decide_eq_true c1, of_decide_eq_true c2, fun x e => ?_⟩
  subst e
  exact of_decide_eq_true c3
/-- whether instances of the class at C are instances of the class at D (its own or a base) -/
def kitB (K : PySem.W.Frag) (C : Addr) (D : Value) (b : Bool) : Bool := decide (PySem.W.kitOne K (.ref C) D = some b)
theorem kitB_ok {K : PySem.W.Frag} {C : Addr} {D : Value} {b : Bool} (c : kitB K C D b = true) : PySem.W.kitOne K (.ref C) D = some b := of_decide_eq_true c
end WkH
/-! The package's errors: made (by position, by name, without arguments), kept as values, asked for their class, read. -/
namespace PySem
namespace WkMade
open PySem.W PySem.Calls PyProof.Rows PySem.HandSPX
section
variable {M : Model} {A : Around} {E : Value → Shared → Prop} {h : Heap} {g : Array GenState} {d : Drawn} {t : Nat} {os : OsState}
variable {nm q : Str} {C N : Addr} {bs bm bmB : List Value} {hdct : Bool} {sn : List Str} {sub : List Value} {ab : Bool} {col : Option Bool} {dd : Option Addr} {k0 k1 k2 k3 k5 : Option Value} {B newId initId : String}
theorem check_new_kw (F : ExcBaseFacts B newId initId bmB) (hT : ∀ Y : String, bm.contains (.type Y) = bmB.contains (.type Y)) {rest : List Value} {kw : List (Str × Value)} {Q : Unit → Shared → Prop}
    (hC : h.get? C = some (excClassObj nm q C N bs bm hdct sn sub ab col dd k0 k1 k2 k3 k5 newId)) (hq : Q () ⟨h, g, d, t, os⟩) : wpAny M A (checkBuiltinCall newId ⟨.ref C :: rest, kw⟩) Q E ⟨h, g, d, t, os⟩ := by
  have hin : (Value.ref C :: bm).contains (.type B) = true := by rw [List.contains_cons, hT, F.hasB, Bool.or_true]
  have hs := F.noStar
  simp only [checkBuiltinCall, F.newKind, F.newSplit, F.newRow]
  repeat (first | refine wpAny_loadPart_at hC ?_ | (refine wpAny_isSubtype_exc hC ?_; rw [hin]) | refine wpAny_staticBase_exc hC ?_ | refine wpAny_madeBy_exc hC ?_ | simp only [bne_self_eq_false, Bool.false_eq_true, if_false] | wp_step)
  exact hq
end
section
variable {prog : Program} {w : World} {A : Around} {E : Value → Shared → Prop} {R : Result → Shared → Prop} {h : Heap} {g : Array GenState} {d : Drawn} {t : Nat} {os : OsState}
variable {nm q : Str} {C N : Addr} {bs bm bmB : List Value} {hdct : Bool} {sn : List Str} {sub : List Value} {ab : Bool} {col : Option Bool} {dd : Option Addr} {k0 k1 k2 k3 k5 : Option Value} {B newId initId : String}
theorem new_kw (F : ExcBaseFacts B newId initId bmB) (hT : ∀ Y : String, bm.contains (.type Y) = bmB.contains (.type Y)) {rest : List Value} {kw : List (Str × Value)}
    (hC : h.get? C = some (excClassObj nm q C N bs bm hdct sn sub ab col dd k0 k1 k2 k3 k5 newId))
    (hq : R (.ok (.ret (.ref (h.objs.size + 1)))) ⟨(h.push (kdv_tup rest)).push (excO C h.objs.size), g, d, t, os⟩) (hr : rest.length ≤ sizeLine) :
    codeAny (model prog w) A (.builtin newId ⟨.ref C :: rest, kw⟩) R ⟨h, g, d, t, os⟩ := by
  have he := F.ends
  have hB : (Value.ref C :: bm).contains (.type B) = true := by rw [List.contains_cons, hT, F.hasB, Bool.or_true]
  have hA : (Value.ref C :: bm).contains (.type "AttributeError") = false := by rw [List.contains_cons, hT, F.noAttr]; rfl
  have hN : (Value.ref C :: bm).contains (.type "NameError") = false := by rw [List.contains_cons, hT, F.noName]; rfl
  refine codeAny_builtinAt F.entry ?_
  unfold Builtin.«BaseException.__new__»
  refine wpAt_bind ?_
  show wpAt _ _ _ (stack >>= _) _ _ _
  refine wpAt_bind (wpAt_stack fun p below => wpAt_of_wpAny ?_)
  wp_walk
  refine wpAt_of_wpAny ?_
  rw [F.owner]
  repeat (first | with_reducible refine wpAny_madeHere_exc F.canon hC ?_ | with_reducible refine wpAny_loadPart_at hC ?_ | (with_reducible refine wpAny_isSubtype_exc hC ?_; first | rw [hB] | rw [hA] | rw [hN]) | wp_step)
  show R _ _
  rw [Heap.size_push]
  exact hq
theorem type_call_kw (F : ExcBaseFacts B newId initId bmB) (hT : ∀ Y : String, bm.contains (.type Y) = bmB.contains (.type Y)) {rest : List Value} {kw : List (Str × Value)} {fI : Addr} {Q : Fin → Shared → Prop}
    (hC : h.get? C = some (excClassObj nm q C N bs bm hdct sn sub ab col dd k0 k1 k2 k3 k5 newId))
    (hi : W.Looks (model prog w) h (typeLookup (.ref C) "__init__") (some (.ref fI))) (hb : ∀ self, W.Looks (model prog w) h (bindSpecial (.ref fI) self) (.ref fI, [self])) (hr : rest.length ≤ sizeLine)
    (hq : codeAny (model prog w) A (.call (.ref fI) ⟨.ref (h.objs.size + 1) :: rest, kw⟩)
      (fun r s' => match r with | .ok (.ret v) => v = .none ∧ Q (.done (.ret (.ref (h.objs.size + 1)))) s' | .ok _ => False | .error e => E e s')
      ⟨(h.push (kdv_tup rest)).push (excO C h.objs.size), g, d, t, os⟩) :
    wpAny (model prog w) A (Builtin.«type.__call__» ⟨.ref C :: rest, kw⟩) Q E ⟨h, g, d, t, os⟩ := by
  repeat (first | with_reducible refine wpAny_loadPart_at hC ?_ | with_reducible refine wpAny_madeBy_exc hC ?_ | wp_step)
  refine codeAny_call_builtin_code (Code.quiet_builtin _ F.quiet) (check_new_kw F hT hC ?_)
  refine new_kw F hT hC ?_ hr
  show wpAny _ _ _ _ _ _
  have k : ∀ b o, h.get? b = some o → ((h.push (kdv_tup rest)).push (excO C h.objs.size)).get? b = some o := fun b o e => Heap.get?_push_of_some _ (Heap.get?_push_of_some _ e)
  have hC1 := k _ _ hC
  have hget : ((h.push (kdv_tup rest)).push (excO C h.objs.size)).get? (h.objs.size + 1) = some (excO C h.objs.size) := by heap_get
  have hcC : (Value.ref C :: bm).contains (.ref C) = true := by simp
  have i1 := hi.keeps k
  have b1 := (hb (.ref (h.objs.size + 1))).keeps k
  unfold isInstance
  repeat (first | with_reducible refine wpAny_loadPart_at hget ?_ | (with_reducible refine wpAny_isSubtype_exc hC1 ?_; rw [hcC]) | wp_step)
  show wpAny _ _ (typeLookup (.ref C) _) _ _ _
  refine i1.at ?_
  refine wpAny_holding (wpAny_bind (b1.at ?_))
  refine wpAny_bind (wpAny_call (codeAny_mono hq fun r s' z => ?_))
  rcases r with e | (v | _ | _ | _) <;> first | exact z | exact z.elim | skip
  obtain ⟨rfl, z⟩ := z
  first
    | exact wpAny_pure (wpAny_pure z)
    | (wp_walk; exact z)
theorem call_kw (F : ExcBaseFacts B newId initId bmB) (hT : ∀ Y : String, bm.contains (.type Y) = bmB.contains (.type Y)) {rest : List Value} {kw : List (Str × Value)} {fI : Addr}
    (hC : h.get? C = some (excClassObj nm q C N bs bm hdct sn sub ab col dd k0 k1 k2 k3 k5 newId))
    (hi : W.Looks (model prog w) h (typeLookup (.ref C) "__init__") (some (.ref fI))) (hb : ∀ self, W.Looks (model prog w) h (bindSpecial (.ref fI) self) (.ref fI, [self])) (hr : rest.length ≤ sizeLine)
    (hq : codeAny (model prog w) (A.under (.builtin "type.__call__" ⟨.ref C :: rest, kw⟩)) (.call (.ref fI) ⟨.ref (h.objs.size + 1) :: rest, kw⟩) (W.InitBack (h.objs.size + 1) R)
      ⟨(h.push (kdv_tup rest)).push (excO C h.objs.size), g, d, t, os⟩) :
    codeAny (model prog w) A (.call (.ref C) ⟨rest, kw⟩) R ⟨h, g, d, t, os⟩ := by
  have f1 := tc_lookup
  have f2 := tc_bind (.ref C)
  have hTy : (⟨h, g, d, t, os⟩ : Shared).TypeIs (.ref C) "type" := ⟨_, hC, rfl⟩
  refine codeAny_of_tree ?_
  show wpAny _ _ (callAny (.ref C) _) _ _ _
  repeat (any_goals (first | assumption | with_reducible refine wpAny_loadPart_at hC ?_ | wp_step))
  refine ⟨rfl, ?_⟩
  refine codeAny_call_builtin_at (Code.quiet_builtin _ (by decide +kernel)) entry_typeCall (wpAny_check_type_call_sub hC (type_call_kw F hT hC hi hb hr ?_))
  refine codeAny_mono hq fun r s' z => ?_
  rcases r with e | (v | _ | _ | _) <;> exact z
end
end WkMade
end PySem
namespace WkE
open PySem PySem.Spec PyProof.Rows L2 WkH

/-! ### WorkError's own __init__, read off the class -/
structure BaseC (K : PySem.W.Frag) (B : Addr) : Prop where
  rd : PySem.W.readsIn K B (.type "type") = true
  ga : PySem.W.specialIn K (.ref B) "__getattribute__" = some (some (.builtin "type.__getattribute__"))
  at_ : PySem.W.findCls K (.ref B) (.type "type") "__init__" = some (.val (.builtin "ValueError.__init__"))
def isVal (x : Option PySem.W.CFound) (v : Value) : Bool := match x with
  | some (.val u) => decide (u = v)
  | _ => false
def baseB (K : PySem.W.Frag) (B : Addr) : Bool := PySem.W.readsIn K B (.type "type") && (decide (PySem.W.specialIn K (.ref B) "__getattribute__" = some (some (.builtin "type.__getattribute__"))) &&
  isVal (PySem.W.findCls K (.ref B) (.type "type") "__init__") (.builtin "ValueError.__init__"))
theorem baseB_ok {K : PySem.W.Frag} {B : Addr} (c : baseB K B = true) : BaseC K B := by
  obtain ⟨c1, c⟩ := Bool.and_eq_true_iff.mp c
  obtain ⟨c2, c3⟩ := Bool.and_eq_true_iff.mp c
  refine ⟨c1, of_decide_eq_true c2, ?_⟩
  unfold isVal at c3
  split at c3
  · rename_i u hu
    rw [hu, of_decide_eq_true c3]
  · cases c3
section
variable {X : Cx} {e : Expr} {es : List Expr} {ta : TA} {p1 p2 pos : Pos} {x : Str} {B : Addr}
/-- B.__init__(self, ..) -/
theorem pe_binit {pl : Sem Bool} (T : BaseC X.K B) (hg : Gl X x) (hm : X.mg x = some (.ref B)) (ha : PA X (e :: es) ta) (hd : (x == ("__debug__" : Str)) = false := by decide)
    (hc : eval (.Call (.Attribute (.Name x p1) "__init__" p2) (e :: es) [] pos) X.env = (do
      let ov ← eval (.Name x p1) X.env
      standAt p2.atName
      let (f, first) ← holding [ov] (getMethod ov "__init__" pl)
      callWith pos f first (backTo pos (starEach (e :: es) X.env)) (backToKw pos (keywordEach [] X.env))) := by rfl)
    (he : starEach (e :: es) X.env = (false, eval e X.env) :: starEach es X.env := by rfl) (hp : (backTo pos (starEach es X.env)).any (·.1) = false := by rfl) :
    PE X (.Call (.Attribute (.Name x p1) "__init__" p2) (e :: es) [] pos) (tVeI X.K ta) := by
  refine ⟨fun pins s σ H Q I h => ?_⟩
  refine PySem.W.methodCall_KW (ld_glob I hg hm ?_ hd) hc
  refine PySem.W.method_cls I.kIn T.ga (PySem.W.cls_value I.kIn T.rd T.at_ (by decide +kernel) ?_)
  show wpAny _ _ (callWith pos (Value.builtin "ValueError.__init__") [] (backTo pos (starEach (e :: es) X.env)) []) _ _ _
  refine PyProof.Rows.callWith_method1 (thn (ha.run pos pins _ σ H _ (I.tok _) h) fun us s1 ⟨vs, H1, I1, r1, a, C, ws, ev, hl, T1, ea, q⟩ => ?_) he hp
  subst ev
  cases r1 with
  | @cons _ u0 _ ur ra rw' =>
    obtain rfl : u0 = Value.ref a := ra
    have hlen : ur.length ≤ sizeLine := by
      rw [← Paired.length rw', sizeLine_eq]
      omega
    exact oinit_ok T1 I1 ea hlen fun s' J => ⟨.non, H1, J, rfl, q⟩
end

/-! ### an error as a value -/
/-- the error at a, of the class at C; what it keeps: nothing, or v under f in its own dict at d -/
def Err0 (H : Hp) (a C : Addr) : Prop := H a = some (exo a C none)
def Err1 (H : Hp) (a C : Addr) (f : Str) (v : V) : Prop := ∃ d, H a = some (exo a C (some d)) ∧ H d = some (exd d [(f, v)])
inductive ErrAt (H : Hp) (a C : Addr) : Prop where
  | no (h : Err0 H a C)
  | one (f : Str) (v : V) (h : Err1 H a C f v)
theorem Err0.mono {H H' : Hp} {a C : Addr} (e : ∀ b o, H b = some o → H' b = some o) (h : Err0 H a C) : Err0 H' a C := e _ _ h
theorem Err1.mono {H H' : Hp} {a C : Addr} {f : Str} {v : V} (e : ∀ b o, H b = some o → H' b = some o) (h : Err1 H a C f v) : Err1 H' a C f v := by
  obtain ⟨d, h1, h2⟩ := h
  exact ⟨d, e _ _ h1, e _ _ h2⟩
theorem ErrAt.mono {H H' : Hp} {a C : Addr} (e : ∀ b o, H b = some o → H' b = some o) (h : ErrAt H a C) : ErrAt H' a C := by
  cases h with
  | no h => exact .no (h.mono e)
  | one f v h => exact .one f v (h.mono e)
section
variable {X : Cx} {pins : List (Addr × Obj)} {σ : L2.St} {H : Hp} {s : Shared} {a C : Addr}
theorem ErrAt.inst (I : Inv X pins σ H s) (h : ErrAt H a C) : ∃ oe od, PySem.W.InstAt s.heap a oe C od := by
  cases h with
  | no h =>
    obtain ⟨t1, ho⟩ := exo_at I.hok h
    exact ⟨_, none, ho, rfl, rfl, trivial⟩
  | one f v h =>
    obtain ⟨d, h1, h2⟩ := h
    obtain ⟨t1, ho⟩ := exo_at I.hok h1
    obtain ⟨mA, ⟨od, es, ep, hd, r⟩, _⟩ := exd_at I.hok h2
    exact ⟨_, some od, ho, rfl, rfl, hd⟩
end
/-- what the class at C says, so that isinstance and attributes of its instances are read plainly -/
structure AskC (K : PySem.W.Frag) (C : Addr) : Prop where
  cl : (PySem.W.clsIn K C).isSome = true
  hd : PySem.W.hasDictIn K C = true
  ga : PySem.W.findIn K (.ref C) "__getattribute__" = some (some (.builtin "BaseException.__getattribute__"))
  gt : PySem.W.findIn K (.ref C) "__getattr__" = some none
  ex : PySem.W.subIn K (.ref C) (.type "BaseException") = some true
  ca : PySem.W.findIn K (.ref C) "__class__" = some (some (.builtin "object.__class__"))
  sg : PySem.W.specialIn K (.builtin "object.__class__") "__get__" = some (some (.builtin "getset_descriptor.__get__"))
  tk : PySem.W.takesIn K (.builtin "object.__class__") = some true
  mo : PySem.W.mroIn K C (.type "object") = some true
def askB (K : PySem.W.Frag) (C : Addr) : Bool :=
  PySem.W.hasDictIn K C && (isSet K C "__getattribute__" (some (.builtin "BaseException.__getattribute__")) && (isSet K C "__getattr__" none && (decide (PySem.W.subIn K (.ref C) (.type "BaseException") = some true) &&
    (isSet K C "__class__" (some (.builtin "object.__class__")) && decide (PySem.W.mroIn K C (.type "object") = some true)))))
theorem askB_ok {K : PySem.W.Frag} {C : Addr} (c : askB K C = true) : AskC K C := by
  obtain ⟨c1, c⟩ := Bool.and_eq_true_iff.mp c
  obtain ⟨c2, c⟩ := Bool.and_eq_true_iff.mp c
  obtain ⟨c3, c⟩ := Bool.and_eq_true_iff.mp c
  obtain ⟨c4, c⟩ := Bool.and_eq_true_iff.mp c
  obtain ⟨c5, c6⟩ := Bool.and_eq_true_iff.mp c
  refine ⟨?_, c1, of_decide_eq_true c2, of_decide_eq_true c3, of_decide_eq_true c4, of_decide_eq_true c5, ?_, ?_, of_decide_eq_true c6⟩
  · obtain ⟨cd, hc, _⟩ := PySem.W.any_some c1
    rw [hc]
    rfl
  · kernel_rfl
  · kernel_rfl
/-- isinstance(e, c), e an error of the class at C -/
def rIsiE (K : PySem.W.Frag) : List V → Hp → VK → Prop := fun xs H Q => ∃ (a C : Addr) (c : V) (u : Value) (b : Bool), xs = [.ref a, c] ∧ ClsV c u ∧ AskC K C ∧ ErrAt H a C ∧ PySem.W.kitOne K (.ref C) u = some b ∧ Q (.bl b) H
theorem call_isiE {X : Cx} : CallR X (.builtin "isinstance") (rIsiE X.K) := by
  intro pins s σ H xs us Q I r h
  obtain ⟨a, C, c, u, b, rfl, k, T, ea, e, q⟩ := h
  obtain ⟨u1, u2, rfl, r1, r2⟩ := vals2 r
  cases (show u1 = Value.ref a from r1)
  have e2 := k.eq r2
  subst e2
  obtain ⟨oe, od, J⟩ := ea.inst I
  exact PySem.W.kia_one (PySem.W.kitx_exc T.cl T.ga T.gt T.ex T.ca T.sg T.tk T.mo) I.kIn J e (fun z => nomatch z) fun tk => ⟨.bl b, H, I.tok tk, rfl, q⟩
/-- isinstance(x, c): an error, or anything else -/
def rIsiA (K : PySem.W.Frag) : List V → Hp → VK → Prop := fun xs H Q => rIsi K xs H Q ∨ rIsiE K xs H Q
theorem call_isiA {X : Cx} : CallR X (.builtin "isinstance") (rIsiA X.K) := by
  intro pins s σ H xs us Q I r h
  rcases h with h | h
  · exact call_isi pins s σ H xs us Q I r h
  · exact call_isiE pins s σ H xs us Q I r h
/-- e.f -/
def tErrF (K : PySem.W.Frag) (f : Str) (te : TE) : TE := fun σ H Q => te σ H fun x H1 => ∃ (a C : Addr) (v : V), x = .ref a ∧ AskC K C ∧ PySem.W.findIn K (.ref C) f = some none ∧ Err1 H1 a C f v ∧ Q v H1
theorem pe_errF {X : Cx} {e : Expr} {te : TE} {pos : Pos} {f : Str} (he : PE X e te) (hb : attributeBase e f X.env (eval e X.env) = eval e X.env := by rfl) : PE X (.Attribute e f pos) (tErrF X.K f te) := by
  refine ⟨fun pins s σ H Q I h => ?_⟩
  refine attr_of hb (thn (he.run pins s σ H _ I h) fun u s1 hh => ?_)
  obtain ⟨x, H1, I1, rx, a, C, v, ex, T, hno, ⟨d, h1, h2⟩, q⟩ := hh
  subst ex
  obtain rfl : u = Value.ref a := rx
  obtain ⟨t1, ho⟩ := exo_at I1.hok h1
  obtain ⟨mA, hns, hr⟩ := exd_at I1.hok h2
  obtain ⟨od, hod, hl⟩ := lookIn_ns hns
  have l : List.lookup f [(f, v)] = some v := by simp [List.lookup]
  obtain ⟨u, hu, ru⟩ := RelO.some_of (v := v) (o := mA f) (by rw [← l]; exact hr f)
  exact HandSPX.exc_get I1.kIn (od := some od) ⟨ho, rfl, rfl, hod⟩ T.ga T.gt T.ex (PySem.W.findObj_own T.hd hno rfl (by rw [hl, hu])) (handed_of ru) ⟨v, H1, I1.tok _, ru, q⟩

/-! ### making -/
section
variable {X : Cx} {CX : CXT} {k n : Nat} {C fI : Addr} {fd : FuncData} {ps ks : List Str} {sp : Sp} {x : Str} {p pos : Pos} {e : Expr} {es : List Expr} {kws : List Keyword} {t tk : TA} {g : List Value → List Value → List Value} {gV : List V → List V → List V}
/-- what stands behind the call of the class, before its __init__ -/
theorem err_made {pins : List (Addr × Obj)} {σ : L2.St} {H : Hp} {s : Shared} {Q : VK} {us ws : List Value} {vs zs : List V} (T : OexC X.K C) (iC : PySem.W.findIn X.K (.ref C) "__init__" = some (some (.ref fI))) (tI : PySem.W.typeIn X.K (.ref fI) = some (.type "function"))
    (FI : FnOk X.prog X.w X.K X.mg X.base CX k fI fd ps sp) (hr : Room (k + 1) X.A) (hb : KBn X.K fd ps (n + 1) ks g gV) (hx : Passes CX X E0) (I : Inv X pins σ H s) (r : Vals vs us) (rz : Vals zs ws) (l1 : vs.length = n) (l2 : zs.length = ks.length) (lz : vs.length ≤ 1000)
    (h : ∀ a, H a = none → sp (gV (.ref a :: vs) zs) (upd H a (exo a C none)) (fun v H2 => v = .non ∧ Q (.ref a) H2) E0) : wpAny (model X.prog X.w) X.A (call (.ref C) us (ks.zip ws)) (EP X pins σ Q) X.xe s := by
  obtain ⟨nm, q, N, bs, bm, sn, sub, ab, col, dd, k0, k1, k2, k3, k5, hC, hbm⟩ := T.cls
  obtain ⟨hp, gg, dr, tok, os⟩ := s
  have hsz : hp.objs.size ≤ hp.objs.size + 1 := Nat.le_succ _
  have hq := h (hp.objs.size + 1) (I.hok.fresh hsz)
  have kk : ∀ b o, hp.get? b = some o → ((hp.push (PySem.W.kdv_tup us)).push (PySem.HandSPX.excO C hp.objs.size)).get? b = some o := fun b o e => Heap.get?_push_of_some _ (Heap.get?_push_of_some _ e)
  have hget : ((hp.push (PySem.W.kdv_tup us)).push (PySem.HandSPX.excO C hp.objs.size)).get? (hp.objs.size + 1) = some (PySem.HandSPX.excO C hp.objs.size) := by heap_get
  have J : Inv X pins σ (upd H (hp.objs.size + 1) (exo (hp.objs.size + 1) C none)) ⟨(hp.push (PySem.W.kdv_tup us)).push (PySem.HandSPX.excO C hp.objs.size), gg, dr, tok, os⟩ :=
    I.laid (t' := tok) (a := hp.objs.size + 1) (o := exo (hp.objs.size + 1) C none) (h' := (hp.push (PySem.W.kdv_tup us)).push (PySem.HandSPX.excO C hp.objs.size)) kk hsz (exo_ok hget)
  have r1 : Vals (V.ref (hp.objs.size + 1) :: vs) (Value.ref (hp.objs.size + 1) :: us) := .cons rfl r
  have r2 := hb.rel r1 rz
  have e1 : (Value.ref (hp.objs.size + 1) :: us).length = n + 1 := r1.length.symm.trans (congrArg Nat.succ l1)
  have e2 : ws.length = ks.length := rz.length.symm.trans l2
  have hus : us.length ≤ sizeLine := by
    rw [← Paired.length r, sizeLine_eq]
    omega
  refine wpAny_call (PySem.WkMade.call_kw PySem.F.excBase_ValueError (fun Y => PySem.HandSPX.refsVE_contains Y bm hbm) (I.kIn _ _ hC) (PySem.W.looks_findIn I.kIn iC) (fun self => PySem.W.bind_fn I.kIn self tI) hus
    (codeAny_mono (FI.run _ X.stack _ _ ⟨Value.ref (hp.objs.size + 1) :: us, ks.zip ws⟩ (g (Value.ref (hp.objs.size + 1) :: us) ws) _ _ E0 (hr.make C us (ks.zip ws)) (J.env0.make C us (ks.zip ws)) (hb.to _ (Value.ref (hp.objs.size + 1) :: us) ws J.kIn e1 e2) r2 hq) fun r s' hq' => ?_))
  cases r with
  | error er => exact hx pins σ _ _ er s' J hq'
  | ok fl =>
    cases fl with
    | ret u =>
      obtain ⟨v, H', I3, rv, ev, q3⟩ := J.after hq'
      subst ev
      exact ⟨rv, ⟨V.ref (hp.objs.size + 1), H', I3, rfl, q3⟩⟩
    | next => exact False.elim hq'
    | brk => exact False.elim hq'
    | cont => exact False.elim hq'
/-- C(e) -/
def tErr1 (C : Addr) (sp : Sp) (t : TA) : TE := fun σ H Q => t σ H fun vs H1 => vs.length = 1 ∧ ∀ a, H1 a = none → sp (.ref a :: vs) (upd H1 a (exo a C none)) (fun v H2 => v = .non ∧ Q (.ref a) H2) E0
theorem pe_err1 (T : OexC X.K C) (iC : PySem.W.findIn X.K (.ref C) "__init__" = some (some (.ref fI))) (tI : PySem.W.typeIn X.K (.ref fI) = some (.type "function")) (FI : FnOk X.prog X.w X.K X.mg X.base CX k fI fd ps sp) (hr : Room (k + 1) X.A)
    (hb : KBn X.K fd ps 2 [] (fun us _ => us) (fun vs _ => vs)) (hx : Passes CX X E0) (hg : Gl X x) (hm : X.mg x = some (.ref C)) (ha : PA X (e :: es) t) (hd : (x == ("__debug__" : Str)) = false := by decide)
    (he : starEach (e :: es) X.env = (false, eval e X.env) :: starEach es X.env := by rfl) (hpl : (backTo pos (starEach es X.env)).any (·.1) = false := by rfl) : PE X (.Call (.Name x p) (e :: es) [] pos) (tErr1 C sp t) := by
  refine ⟨fun pins s σ H Q I h => ?_⟩
  refine wpAny_Call_Name_kw (ld_glob I hg hm ?_ hd)
  refine PySem.W.callWith_K (h₀ := X.base) I.ok.mod.kin T.kC (thn (ha.run pos pins s σ H _ I h) fun us s1 ⟨vs, H1, I1, r1, l1, q1⟩ => ⟨I1.kIn, ?_⟩) he hpl
  exact err_made (n := 1) (ks := []) (ws := []) (zs := []) T iC tI FI hr hb hx I1 r1 .nil l1 rfl (by omega) q1
/-- C() -/
def tErr0 (C : Addr) (sp : Sp) : TE := fun _ H Q => ∀ a, H a = none → sp [.ref a] (upd H a (exo a C none)) (fun v H2 => v = .non ∧ Q (.ref a) H2) E0
theorem pe_err0 (T : OexC X.K C) (iC : PySem.W.findIn X.K (.ref C) "__init__" = some (some (.ref fI))) (tI : PySem.W.typeIn X.K (.ref fI) = some (.type "function")) (FI : FnOk X.prog X.w X.K X.mg X.base CX k fI fd ps sp) (hr : Room (k + 1) X.A)
    (hb : KBn X.K fd ps 1 [] (fun us _ => us) (fun vs _ => vs)) (hx : Passes CX X E0) (hg : Gl X x) (hm : X.mg x = some (.ref C)) (hd : (x == ("__debug__" : Str)) = false := by decide) : PE X (.Call (.Name x p) [] [] pos) (tErr0 C sp) := by
  refine ⟨fun pins s σ H Q I h => ?_⟩
  refine wpAny_Call_Name_kw (ld_glob I hg hm ?_ hd)
  exact PySem.W.callWith_K0 I.kIn T.kC (err_made (n := 0) (ks := []) (ws := []) (zs := []) (us := []) (vs := []) T iC tI FI hr hb hx I .nil .nil rfl rfl (Nat.zero_le _) h)
/-- C(f = e) -/
def tErrK (C : Addr) (sp : Sp) (tk : TA) : TE := fun σ H Q => tk σ H fun zs H1 => zs.length = 1 ∧ ∀ a, H1 a = none → sp (.ref a :: zs) (upd H1 a (exo a C none)) (fun v H2 => v = .non ∧ Q (.ref a) H2) E0
theorem pe_errK {f : Str} (T : OexC X.K C) (iC : PySem.W.findIn X.K (.ref C) "__init__" = some (some (.ref fI))) (tI : PySem.W.typeIn X.K (.ref fI) = some (.type "function")) (FI : FnOk X.prog X.w X.K X.mg X.base CX k fI fd ps sp) (hr : Room (k + 1) X.A)
    (hb : KBn X.K fd ps 1 [f] (fun us ws => us ++ ws) (fun vs zs => vs ++ zs)) (hx : Passes CX X E0) (hg : Gl X x) (hm : X.mg x = some (.ref C)) (hkw : PK X kws tk)
    (hall : (backToKw pos (keywordEach kws X.env)).all (·.1.isSome) = true := by rfl) (hks : (backToKw pos (keywordEach kws X.env)).filterMap (·.1) = [f] := by rfl) (hd : (x == ("__debug__" : Str)) = false := by decide)
    (hpl : ((backTo pos (starEach [] X.env)).any (·.1) || (backToKw pos (keywordEach kws X.env)).any (·.1.isNone)) = false := by rfl) : PE X (.Call (.Name x p) [] kws pos) (tErrK C sp tk) := by
  refine ⟨fun pins s σ H Q I h => ?_⟩
  refine wpAny_Call_Name_kw (ld_glob I hg hm ?_ hd)
  refine PySem.W.callWith_KW0 (h₀ := X.base) I.ok.mod.kin T.kC hall (thn (hkw.run pos pins s σ H _ I h) fun ws s2 ⟨zs, H2, I2, rz, l2, q2⟩ => ⟨I2.kIn, ?_⟩) hpl
  rw [hks]
  exact err_made (n := 0) (us := []) (vs := []) T iC tI FI hr hb hx I2 .nil rz rfl l2 (Nat.zero_le _) q2
end
end WkE
/-! The errors' own __init__: WorkError's, then the one attribute; their making and raising, told in short. -/
namespace WkE
open PySem PySem.Spec PyProof.Rows L2 WkH
/-! ### the text of such an __init__ -/
def iniPars (f : Str) (q1 q2 : Pos) : Arguments := { posonlyargs := [], args := [{ arg := "self", annotation := none, pos := q1 }, { arg := f, annotation := none, pos := q2 }], vararg := none, kwonlyargs := [], kw_defaults := [], kwarg := none, defaults := [] }
def iniSco (f : Str) : Scope := { kind := .function, names := [(PySem.Str.ofString "self", .local), (f, .local), (PySem.Str.ofString "WorkError", .globalImplicit)], isGenerator := false, isCoroutine := false, more := [] }
def iniBod (f t : Str) (i : Nat) (p1 p2 p3 p4 p5 p6 p7 p8 p9 p10 : Pos) : List Stmt :=
  [.Expr (.Call (.Attribute (.Name "WorkError" p1) "__init__" p2) [.Name "self" p3, .Constant (.str t) i p4] [] p5) p6, .Assign [.Attribute (.Name "self" p7) f p8] (.Name f p9) p10]
def iniPars0 (q1 : Pos) : Arguments := { posonlyargs := [], args := [{ arg := "self", annotation := none, pos := q1 }], vararg := none, kwonlyargs := [], kw_defaults := [], kwarg := none, defaults := [] }
def iniSco0 : Scope := { kind := .function, names := [(PySem.Str.ofString "self", .local), (PySem.Str.ofString "WorkError", .globalImplicit)], isGenerator := false, isCoroutine := false, more := [] }
def iniBod0 (t : Str) (i : Nat) (p1 p2 p3 p4 p5 p6 : Pos) : List Stmt := [.Expr (.Call (.Attribute (.Name "WorkError" p1) "__init__" p2) [.Name "self" p3, .Constant (.str t) i p4] [] p5) p6]
/-- the attributes' names -/
def attrs : List Str := ["given", "count", "name", "told", "line"]
/-! ### promises -/
def spIni (C : Addr) (f : Str) : Sp := fun vs H Q _ => ∃ (a : Addr) (v : V), vs = [.ref a, v] ∧ H a = some (exo a C none) ∧ ∀ d, H d = none → d ≠ a → Q .non (upd (upd H d (exd d [(f, v)])) a (exo a C (some d)))
def spIni0 (C : Addr) : Sp := fun vs H Q _ => ∃ a : Addr, vs = [.ref a] ∧ H a = some (exo a C none) ∧ Q .non H
section
variable {P : Program} {w : World} {K : PySem.W.Frag} {mg : Str → Option Value} {base : Heap} {C B : Addr} {f : Str}
theorem sc_ini (hf : f ∈ attrs) : FnScope ["self", f] ["self", f] (iniSco f) := by
  simp only [attrs, List.mem_cons, List.mem_nil_iff, or_false] at hf
  rcases hf with rfl | rfl | rfl | rfl | rfl
  all_goals exact ⟨rfl, rfl, rfl, by decide +kernel, rfl, by decide +kernel, by decide +kernel⟩
theorem sc_ini0 : FnScope ["self"] ["self"] iniSco0 := ⟨rfl, rfl, rfl, by decide +kernel, rfl, by decide +kernel, by decide +kernel⟩
theorem one_line {x m : Str} {p1 p2 p5 : Pos} {e : Expr} {es : List Expr} {env : Env} (hl : (p2.endLine == p5.line) = true) (hf : methodCallForm ((e :: es).length + ([] : List Keyword).length) (backTo p5 (starEach (e :: es) env)) (backToKw p5 (keywordEach [] env)) = true) :
    eval (.Call (.Attribute (.Name x p1) m p2) (e :: es) [] p5) env = (do
      let ov ← eval (.Name x p1) env
      standAt p2.atName
      let (f, first) ← holding [ov] (getMethod ov m (do return (← importBound (.Name x p1) env).getD true))
      callWith p5 f first (backTo p5 (starEach (e :: es) env)) (backToKw p5 (keywordEach [] env))) := by
  have e1 : methodCallPos true (.Name x p1) env p2 p5 = pure p5 := by
    unfold methodCallPos
    exact if_pos (by rw [hl, Bool.or_true])
  have e2 : ∀ ov, methodCall (.Name x p1) m p2 p5 env ov ((e :: es).length + ([] : List Keyword).length) (backTo p5 (starEach (e :: es) env)) (backToKw p5 (keywordEach [] env)) = (do
      let (f, first) ← holding [ov] (getMethod ov m (do return (← importBound (.Name x p1) env).getD true))
      callWith p5 f first (backTo p5 (starEach (e :: es) env)) (backToKw p5 (keywordEach [] env))) := fun ov => by
    unfold methodCall
    rw [hf, e1]
    rfl
  show (do
    let ov ← eval (.Name x p1) env
    standAt p2.atName
    methodCall (.Name x p1) m p2 p5 env ov ((e :: es).length + ([] : List Keyword).length) (backTo p5 (starEach (e :: es) env)) (backToKw p5 (keywordEach [] env))) = _
  simp only [e2]
theorem ok_ini {d : DefL} {fd : FuncData} {t : Str} {i : Nat} {p1 p2 p3 p4 p5 p6 p7 p8 p9 p10 : Pos} (F : Stands K d fd) (hb : d.bod = iniBod f t i p1 p2 p3 p4 p5 p6 p7 p8 p9 p10) (hs : d.sco = iniSco f) (hf : f ∈ attrs) (hl : (p2.endLine == p5.line) = true)
    (T : BaseC K B) (gB : mg "WorkError" = some (.ref B)) (oex : OexC K C) (no : PySem.W.findIn K (.ref C) f = some none) : FnOk P w K mg base CX0 1 d.adr fd ["self", f] (spIni C f) := by
  have S : FnScope ["self", f] ["self", f] d.sco := by
    rw [hs]
    exact sc_ini hf
  refine FunD.ok F S (fun vs H Q E h => ?_) (fun cdv A outer s H vs Q E hr h => ?_)
  · obtain ⟨a, v, rfl, _⟩ := h
    rfl
  · obtain ⟨a, v, rfl, ha, hQ⟩ := h
    rw [hb]
    revert hr
    rw [hs]
    intro hr
    simp only [attrs, List.mem_cons, List.mem_nil_iff, or_false] at hf
    have key : ∀ {g : Str}, f = g → True := fun _ => trivial
    refine ⟨tSeq (tDrop (tVeI K (tCons (tVar 0) (tCons (tC (.str t)) tNil)))) (tOst K f (tVar 0) (tVar 1)), PSs.nox ?_, ?_⟩
    · rcases hf with rfl | rfl | rfl | rfl | rfl
      all_goals exact pss_cons (ps_expr (pe_binit (B := B) T rfl gB (pa_cons (pv 0) (pa_cons pe_str pa_nil)) (by decide) (one_line hl rfl))) (pss_one (ps_ost (pv 0) (pv 1)))
    · refine ⟨_, rfl, ?_⟩
      refine ⟨a, C, [.str t], rfl, Nat.le_of_ble_eq_true rfl, oex, ha, ?_⟩
      refine ⟨_, rfl, _, rfl, a, C, rfl, oex, no, .inl ⟨ha, fun dx h1 h2 => hQ dx h1 h2⟩⟩
theorem ok_ini0 {d : DefL} {fd : FuncData} {t : Str} {i : Nat} {p1 p2 p3 p4 p5 p6 : Pos} (F : Stands K d fd) (hb : d.bod = iniBod0 t i p1 p2 p3 p4 p5 p6) (hs : d.sco = iniSco0) (hl : (p2.endLine == p5.line) = true) (T : BaseC K B) (gB : mg "WorkError" = some (.ref B)) (oex : OexC K C) :
    FnOk P w K mg base CX0 1 d.adr fd ["self"] (spIni0 C) := by
  have S : FnScope ["self"] ["self"] d.sco := by
    rw [hs]
    exact sc_ini0
  refine FunD.ok F S (fun vs H Q E h => ?_) (fun cdv A outer s H vs Q E hr h => ?_)
  · obtain ⟨a, rfl, _⟩ := h
    rfl
  · obtain ⟨a, rfl, ha, hQ⟩ := h
    rw [hb]
    revert hr
    rw [hs]
    intro hr
    refine ⟨tDrop (tVeI K (tCons (tVar 0) (tCons (tC (.str t)) tNil))), PSs.nox (pss_one (ps_expr (pe_binit (B := B) T rfl gB (pa_cons (pv 0) (pa_cons pe_str pa_nil)) (by decide) (one_line hl rfl)))), ?_⟩
    refine ⟨_, rfl, ?_⟩
    exact ⟨a, C, [.str t], rfl, Nat.le_of_ble_eq_true rfl, oex, ha, hQ⟩
/-! ### a class of the package, whole -/
structure ErrC (P : Program) (w : World) (K : PySem.W.Frag) (mg : Str → Option Value) (base : Heap) (x : Str) (C : Addr) (f : Str) : Prop where
  g : mg x = some (.ref C)
  oex : OexC K C
  ask : AskC K C
  no : PySem.W.findIn K (.ref C) f = some none
  fn : ∃ (fI : Addr) (fd : FuncData), PySem.W.findIn K (.ref C) "__init__" = some (some (.ref fI)) ∧ PySem.W.typeIn K (.ref fI) = some (.type "function") ∧ FnOk P w K mg base CX0 1 fI fd ["self", f] (spIni C f) ∧ Binds K fd ["self", f] [] ∧
    KBn K fd ["self", f] 2 [] (fun us _ => us) (fun vs _ => vs) ∧ KBn K fd ["self", f] 1 [f] (fun us ws => us ++ ws) (fun vs zs => vs ++ zs)
structure ErrC0 (P : Program) (w : World) (K : PySem.W.Frag) (mg : Str → Option Value) (base : Heap) (x : Str) (C : Addr) : Prop where
  g : mg x = some (.ref C)
  oex : OexC K C
  ask : AskC K C
  fn : ∃ (fI : Addr) (fd : FuncData), PySem.W.findIn K (.ref C) "__init__" = some (some (.ref fI)) ∧ PySem.W.typeIn K (.ref fI) = some (.type "function") ∧ FnOk P w K mg base CX0 1 fI fd ["self"] (spIni0 C) ∧ KBn K fd ["self"] 1 [] (fun us _ => us) (fun vs _ => vs)
theorem errC_mk {x : Str} {d : DefL} {t : Str} {i : Nat} {p1 p2 p3 p4 p5 p6 p7 p8 p9 p10 q1 q2 : Pos} (c1 : excB K C = true) (c2 : askB K C = true) (c3 : iniB K C d.adr (some f) = true) (g : mg x = some (.ref C)) (st : ∃ fd, Stands K d fd)
    (hb : d.bod = iniBod f t i p1 p2 p3 p4 p5 p6 p7 p8 p9 p10) (hs : d.sco = iniSco f) (hp : d.pars = iniPars f q1 q2) (hf : f ∈ attrs) (hl : (p2.endLine == p5.line) = true) (T : BaseC K B) (gB : mg "WorkError" = some (.ref B)) : ErrC P w K mg base x C f := by
  have X := excB_ok c1
  have N := iniB_ok c3
  obtain ⟨fd, F⟩ := st
  refine ⟨g, X.oex, askB_ok c2, N.att f rfl, d.adr, fd, N.ini, N.typ, ok_ini F hb hs hf hl T gB X.oex (N.att f rfl), ?_, ⟨?_, fun h _ => h⟩, ⟨?_, fun h1 h2 => h1.append h2⟩⟩
  · refine FunD.bindsN F fun kV doc pm an cdv ct us hl => ?_
    rw [hp, hs, hb]
    simp only [attrs, List.mem_cons, List.mem_nil_iff, or_false] at hf
    match us, hl with
    | [_, _], _ => rcases hf with rfl | rfl | rfl | rfl | rfl <;> rfl
  · intro s us ws _ h1 h2
    have e : ws = [] := List.length_eq_zero_iff.mp h2
    subst e
    refine FunD.bindsA F (fun kV doc pm an cdv ct us hl => ?_) s us h1
    rw [hp, hs, hb]
    simp only [attrs, List.mem_cons, List.mem_nil_iff, or_false] at hf
    match us, hl with
    | [_, _], _ => rcases hf with rfl | rfl | rfl | rfl | rfl <;> rfl
  · intro s us ws _ h1 h2
    obtain ⟨oc, od, dV, kV, doc, pm, an, cdv, ct, osl, rfl, lk, hcd, hD, hK⟩ := F.ex
    rcases hD with ⟨_, rfl⟩ | ⟨e, _⟩
    · refine .of_eq ?_
      rw [hp, hs, hb]
      simp only [attrs, List.mem_cons, List.mem_nil_iff, or_false] at hf
      match us, ws, h1, h2 with
      | [_], [_], _, _ => rcases hf with rfl | rfl | rfl | rfl | rfl <;> rfl
    · exact absurd rfl e
theorem errC0_mk {x : Str} {d : DefL} {t : Str} {i : Nat} {p1 p2 p3 p4 p5 p6 q1 : Pos} (c1 : excB K C = true) (c2 : askB K C = true) (c3 : iniB K C d.adr none = true) (g : mg x = some (.ref C)) (st : ∃ fd, Stands K d fd)
    (hb : d.bod = iniBod0 t i p1 p2 p3 p4 p5 p6) (hs : d.sco = iniSco0) (hp : d.pars = iniPars0 q1) (hl : (p2.endLine == p5.line) = true) (T : BaseC K B) (gB : mg "WorkError" = some (.ref B)) : ErrC0 P w K mg base x C := by
  have X := excB_ok c1
  have N := iniB_ok c3
  obtain ⟨fd, F⟩ := st
  refine ⟨g, X.oex, askB_ok c2, d.adr, fd, N.ini, N.typ, ok_ini0 F hb hs hl T gB X.oex, ⟨?_, fun h _ => h⟩⟩
  intro s us ws _ h1 h2
  have e : ws = [] := List.length_eq_zero_iff.mp h2
  subst e
  refine FunD.bindsA F (fun kV doc pm an cdv ct us hl => ?_) s us h1
  rw [hp, hs, hb]
  match us, hl with
  | [_], _ => rfl
end
/-! ### made, kept as a value -/
section
variable {X : Cx} {C : Addr} {x f : Str} {p pos : Pos} {e : Expr} {es : List Expr} {kws : List Keyword} {t tk : TA}
theorem ini_leaves {H1 : Hp} {a : Addr} {v : V} {Q : VK} (na : H1 a = none) (q : ∀ a H2, H1 a = none → (∀ b o, H1 b = some o → H2 b = some o) → Err1 H2 a C f v → Q (.ref a) H2) :
    spIni C f [.ref a, v] (upd H1 a (exo a C none)) (fun v H2 => v = .non ∧ Q (.ref a) H2) E0 := by
  refine ⟨a, v, rfl, upd_same, fun d hd hda => ⟨rfl, q a _ na (fun b o hb => ?_) ⟨d, upd_same, ?_⟩⟩⟩
  · have hba : b ≠ a := ne_of_none hb na
    have hbd : b ≠ d := by
      rintro rfl
      rw [upd_ne hba, hb] at hd
      cases hd
    rw [upd_ne hba, upd_ne hbd, upd_ne hba]
    exact hb
  · rw [upd_ne hda]
    exact upd_same
/-- C(e) -/
def tE1 (C : Addr) (f : Str) (t : TA) : TE := fun σ H Q => t σ H fun vs H1 => ∃ v, vs = [v] ∧ ∀ a H2, H1 a = none → (∀ b o, H1 b = some o → H2 b = some o) → Err1 H2 a C f v → Q (.ref a) H2
theorem pe_E1 (T : ErrC X.prog X.w X.K X.mg X.base x C f) (hr : Room 2 X.A) (hg : Gl X x) (ha : PA X (e :: es) t) (hd : (x == ("__debug__" : Str)) = false := by decide)
    (he : starEach (e :: es) X.env = (false, eval e X.env) :: starEach es X.env := by rfl) (hpl : (backTo pos (starEach es X.env)).any (·.1) = false := by rfl) : PE X (.Call (.Name x p) (e :: es) [] pos) (tE1 C f t) := by
  obtain ⟨fI, fd, iC, tI, FI, _, hb, _⟩ := T.fn
  refine ⟨fun pins s σ H Q I h => ?_⟩
  refine wpAny_Call_Name_kw (ld_glob I hg T.g ?_ hd)
  refine PySem.W.callWith_K (h₀ := X.base) I.ok.mod.kin T.oex.kC (thn (ha.run pos pins s σ H _ I h) fun us s1 ⟨vs, H1, I1, r1, v, ev, q1⟩ => ⟨I1.kIn, ?_⟩) he hpl
  subst ev
  exact err_made (n := 1) (ks := []) (ws := []) (zs := []) T.oex iC tI FI hr hb pass0 I1 r1 .nil rfl rfl (Nat.le_of_ble_eq_true rfl) fun a na => ini_leaves na q1
/-- C(f = e) -/
def tEK (C : Addr) (f : Str) (t : TA) : TE := tE1 C f t
theorem pe_EK (T : ErrC X.prog X.w X.K X.mg X.base x C f) (hr : Room 2 X.A) (hg : Gl X x) (hkw : PK X kws tk) (hall : (backToKw pos (keywordEach kws X.env)).all (·.1.isSome) = true := by rfl)
    (hks : (backToKw pos (keywordEach kws X.env)).filterMap (·.1) = [f] := by rfl) (hd : (x == ("__debug__" : Str)) = false := by decide)
    (hpl : ((backTo pos (starEach [] X.env)).any (·.1) || (backToKw pos (keywordEach kws X.env)).any (·.1.isNone)) = false := by rfl) : PE X (.Call (.Name x p) [] kws pos) (tE1 C f tk) := by
  obtain ⟨fI, fd, iC, tI, FI, _, _, hb⟩ := T.fn
  refine ⟨fun pins s σ H Q I h => ?_⟩
  refine wpAny_Call_Name_kw (ld_glob I hg T.g ?_ hd)
  refine PySem.W.callWith_KW0 (h₀ := X.base) I.ok.mod.kin T.oex.kC hall (thn (hkw.run pos pins s σ H _ I h) fun ws s2 ⟨zs, H2, I2, rz, v, ev, q2⟩ => ⟨I2.kIn, ?_⟩) hpl
  subst ev
  rw [hks]
  exact err_made (n := 0) (us := []) (vs := []) T.oex iC tI FI hr hb pass0 I2 .nil rz rfl rfl (Nat.zero_le _) fun a na => ini_leaves na q2
/-- C() -/
def tE0 (C : Addr) : TE := fun _ H Q => ∀ a H2, H a = none → (∀ b o, H b = some o → H2 b = some o) → Err0 H2 a C → Q (.ref a) H2
theorem pe_E0 (T : ErrC0 X.prog X.w X.K X.mg X.base x C) (hr : Room 2 X.A) (hg : Gl X x) (hd : (x == ("__debug__" : Str)) = false := by decide) : PE X (.Call (.Name x p) [] [] pos) (tE0 C) := by
  obtain ⟨fI, fd, iC, tI, FI, hb⟩ := T.fn
  refine ⟨fun pins s σ H Q I h => ?_⟩
  refine wpAny_Call_Name_kw (ld_glob I hg T.g ?_ hd)
  refine PySem.W.callWith_K0 I.kIn T.oex.kC (err_made (n := 0) (ks := []) (ws := []) (zs := []) (us := []) (vs := []) T.oex iC tI FI hr hb pass0 I .nil .nil rfl rfl (Nat.zero_le _) fun a na => ?_)
  refine ⟨a, rfl, upd_same, rfl, h a _ na (fun b o hb => ?_) upd_same⟩
  rw [upd_ne (ne_of_none hb na)]
  exact hb
/-! ### raised -/
/-- raise C(e): d, the error's own dict, holds the value -/
def tR1 (C : Addr) (f : Str) (t : TA) : L2.St → Hp → XK → Prop := fun σ H Q => t σ H fun vs H1 => ∃ v, vs = [v] ∧ ∀ d H2, H1 d = none → (∀ b o, H1 b = some o → H2 b = some o) → H2 d = some (.xd [(f, v)]) → Q (.ref C) (some d) H2
theorem pmk_R1 (T : ErrC X.prog X.w X.K X.mg X.base x C f) (hr : Room 2 X.A) (hg : Gl X x) (ha : PA X (e :: es) t) (hd : (x == ("__debug__" : Str)) = false := by decide)
    (he : starEach (e :: es) X.env = (false, eval e X.env) :: starEach es X.env := by rfl) (hpl : (backTo pos (starEach es X.env)).any (·.1) = false := by rfl) : PMk X (.Call (.Name x p) (e :: es) [] pos) (tR1 C f t) := by
  obtain ⟨fI, fd, iC, tI, FI, hb, _, _⟩ := T.fn
  intro pins s σ H Q I h
  obtain ⟨nm, q, N, bs, bm, sn, sub, ab, col, dd, k0, k1, k2, k3, k5, hC, hbm⟩ := T.oex.cls
  refine wpAny_Call_Name_kw (ld_glob I hg T.g ?_ hd)
  refine PySem.W.callWith_K (h₀ := X.base) I.ok.mod.kin T.oex.kC (thn (ha.run pos pins s σ H _ I h) fun us s1 ⟨vs, H1, I1, r1, v, ev, q1⟩ => ⟨I1.kIn, ?_⟩) he hpl
  subst ev
  show wpAny _ _ (call (.ref C) us) _ _ _
  obtain ⟨hp, g, dr, tok, os⟩ := s1
  have up : hp.objs.size ≤ hp.objs.size + 1 := Nat.le_succ _
  have na : H1 (hp.objs.size + 1) = none := I1.hok.fresh up
  have keep : ∀ b o, hp.get? b = some o → ((hp.push (PySem.W.kdv_tup us)).push (PySem.HandSPX.excO C hp.objs.size)).get? b = some o := fun b o e => Heap.get?_push_of_some _ (Heap.get?_push_of_some _ e)
  have at_ : ((hp.push (PySem.W.kdv_tup us)).push (PySem.HandSPX.excO C hp.objs.size)).get? (hp.objs.size + 1) = some (PySem.HandSPX.excO C hp.objs.size) := by heap_get
  have J : Inv X pins σ (upd H1 (hp.objs.size + 1) (exo (hp.objs.size + 1) C none)) ⟨(hp.push (PySem.W.kdv_tup us)).push (PySem.HandSPX.excO C hp.objs.size), g, dr, tok, os⟩ :=
    I1.laid (t' := tok) (a := hp.objs.size + 1) (o := exo (hp.objs.size + 1) C none) (h' := (hp.push (PySem.W.kdv_tup us)).push (PySem.HandSPX.excO C hp.objs.size)) keep up (exo_ok at_)
  have r2 : Vals (V.ref (hp.objs.size + 1) :: [v]) (Value.ref (hp.objs.size + 1) :: us) := .cons rfl r1
  have hus : us.length ≤ sizeLine := by
    rw [← Paired.length r1, sizeLine_eq]
    exact Nat.le_of_ble_eq_true rfl
  have lus : (Value.ref (hp.objs.size + 1) :: us).length = 2 := r2.length.symm
  have bnd := hb ⟨(hp.push (PySem.W.kdv_tup us)).push (PySem.HandSPX.excO C hp.objs.size), g, dr, tok, os⟩ (Value.ref (hp.objs.size + 1) :: us) J.kIn (by rw [List.append_nil]; exact lus)
  rw [List.append_nil] at bnd
  have want : spIni C f [.ref (hp.objs.size + 1), v] (upd H1 (hp.objs.size + 1) (exo (hp.objs.size + 1) C none)) (fun v' H2 => v' = .non ∧ ∃ d, H1 d = none ∧ d ≠ hp.objs.size + 1 ∧ H2 = upd (upd (upd H1 (hp.objs.size + 1) (exo (hp.objs.size + 1) C none)) d (exd d [(f, v)])) (hp.objs.size + 1) (exo (hp.objs.size + 1) C (some d))) E0 :=
    ⟨hp.objs.size + 1, v, rfl, upd_same, fun d hd hda => ⟨rfl, d, by rw [upd_ne hda] at hd; exact hd, hda, rfl⟩⟩
  refine wpAny_call (PySem.HandSPX.call_own PySem.F.excBase_ValueError (fun Y => PySem.HandSPX.refsVE_contains Y bm hbm) (I1.kIn _ _ hC) (PySem.W.looks_findIn I1.kIn iC) (fun self => PySem.W.bind_fn I1.kIn self tI) hus
    (codeAny_mono (FI.run _ X.stack _ _ ⟨Value.ref (hp.objs.size + 1) :: us, []⟩ (Value.ref (hp.objs.size + 1) :: us) _ _ E0 (hr.make C us []) (J.env0.make C us []) bnd r2 want) fun r s' hq => ?_))
  cases r with
  | error er => exact False.elim hq
  | ok fl =>
    cases fl with
    | next => exact False.elim hq
    | brk => exact False.elim hq
    | cont => exact False.elim hq
    | ret u =>
      obtain ⟨v', H2, os2, bare2, un2, hok2, rv, ev, d, hd1, hda, e2⟩ := hq
      subst ev
      obtain ⟨h2, g2, d2, t2, os'⟩ := s'
      refine ⟨rv, mk_end (Q := Q) (fs := [(f, v)]) (d := d) (raises_own T.oex.exC T.oex.tyC) I1 up keep un2 hok2 os2 bare2 ?_ ?_ hd1 (q1 d _ hd1 (fun b o hb => ?_) upd_same)⟩
      · rw [e2]
        exact upd_same
      · rw [e2, upd_ne hda]
        exact upd_same
      · have hba : b ≠ hp.objs.size + 1 := ne_of_none hb na
        have hbd : b ≠ d := ne_of_none hb hd1
        rw [upd_ne hbd, del_ne hba, e2, upd_ne hba, upd_ne hbd, upd_ne hba]
        exact hb
/-- raise C(), a class without attributes: the error has no dict -/
def tR0 (C : Addr) : L2.St → Hp → XK → Prop := fun _ H Q => Q (.ref C) none H
theorem let_go {pins : List (Addr × Obj)} {σ : L2.St} {H1 : Hp} {hp hp2 h2 : Heap} {g1 g2 : Array GenState} {d1 d2 : Drawn} {t1 t2 : Nat} {os1 os2 : OsState} {a : Addr} (I1 : Inv X pins σ H1 ⟨hp, g1, d1, t1, os1⟩) (ha : hp.objs.size ≤ a)
    (k : ∀ b o, hp.get? b = some o → hp2.get? b = some o) (un : Un (frs X.stack) [] (upd H1 a (exo a C none)) (upd H1 a (exo a C none)) hp2 h2) (hok : HOk X.prog X.w (upd H1 a (exo a C none)) h2) (ho : os2 = os1) (hb : AllBare g2) :
    ∃ (t0 : Addr) (G : Heap), Inv X pins σ H1 ⟨G, g2, d2, t2, os2⟩ ∧ (∀ b o, G.get? b = some o → h2.get? b = some o) ∧ G.get? a = none ∧ h2.get? a = some ({ cls := .ref C, dict := none, data := .fields #[.ref t0, .none, .none, .none, .bool false, .none] } : Obj) ∧ H1 a = none := by
  obtain ⟨t0, hoe⟩ := exo_at hok (upd_same (H := H1))
  have hn : H1 a = none := I1.hok.fresh ha
  obtain ⟨G, in1, out1⟩ := restrict h2 fun b => decide (b ≠ a)
  have gk : ∀ b, b ≠ a → G.get? b = h2.get? b := fun b hb => in1 b (decide_eq_true hb)
  have ge : G.get? a = none := out1 a (by simp)
  have na : ∀ {b : Addr} {o : Obj}, hp.get? b = some o → b ≠ a := fun {b o} z => Nat.ne_of_lt (Nat.lt_of_lt_of_le (Heap.lt_size z) ha)
  have up : ∀ {b : Addr}, b ≠ a → H1 b = none → upd H1 a (exo a C none) b = none := fun {b} hb n => by
    rw [upd_ne hb]
    exact n
  have U : Un (frs X.stack) [] H1 H1 hp G := by
    refine ⟨fun b o z n hf hx => ?_, fun b o z n hf hx => ?_, fun b o z n hx => n, fun b o z hx => ?_, fun b xs z => z, fun b o v z => z, fun b ps z => ⟨#[], by rw [z]; simp⟩⟩
    · rw [gk b (na z)]
      exact un.keep b o (k b o z) (up (na z) n) hf hx
    · rw [gk b (na z)]
      exact un.slot b o (k b o z) (up (na z) n) hf hx
    · rw [gk b (na z)]
      exact un.there b o (k b o z) hx
  have hok1 : HOk X.prog X.w H1 G := fun b o z => by
    have hba : b ≠ a := ne_of_none z hn
    refine (hok b o (by rw [upd_ne hba]; exact z)).stay (fun c v hc y => ?_) (fun c hc => ?_) fun c xs hc => ?_
    · rcases hc with rfl | hc
      · rw [gk c hba]
        exact y
      · have hca : c ≠ a := at_ne upd_same hc exo_own
        rw [gk c hca]
        exact y
    · have hca : c ≠ a := at_ne upd_same hc exo_own
      rw [upd_ne hca] at hc
      exact hc
    · have hca : c ≠ a := at_ne upd_same hc exo_tup
      rw [upd_ne hca] at hc
      exact hc
  refine ⟨t0, G, I1.call' (s' := ⟨G, g2, d2, t2, os2⟩) (ch := []) ho U hok1 hb (fun b z => absurd z (by simp)), fun b o z => ?_, ge, hoe, hn⟩
  by_cases hba : b = a
  · rw [hba, ge] at z
    cases z
  · exact (gk b hba).symm.trans z
theorem pmk_R0 (T : ErrC0 X.prog X.w X.K X.mg X.base x C) (hr : Room 2 X.A) (hg : Gl X x) (hd : (x == ("__debug__" : Str)) = false := by decide) : PMk X (.Call (.Name x p) [] [] pos) (tR0 C) := by
  obtain ⟨fI, fd, iC, tI, FI, hb⟩ := T.fn
  intro pins s σ H1 Q I1 h
  obtain ⟨nm, q, N, bs, bm, sn, sub, ab, col, dd, k0, k1, k2, k3, k5, hC, hbm⟩ := T.oex.cls
  refine wpAny_Call_Name_kw (ld_glob I1 hg T.g ?_ hd)
  refine PySem.W.callWith_K0 I1.kIn T.oex.kC ?_
  show wpAny _ _ (call (.ref C) []) _ _ _
  obtain ⟨hp, g, dr, tok, os⟩ := s
  have up : hp.objs.size ≤ hp.objs.size + 1 := Nat.le_succ _
  have na : H1 (hp.objs.size + 1) = none := I1.hok.fresh up
  have keep : ∀ b o, hp.get? b = some o → ((hp.push (PySem.W.kdv_tup [])).push (PySem.HandSPX.excO C hp.objs.size)).get? b = some o := fun b o e => Heap.get?_push_of_some _ (Heap.get?_push_of_some _ e)
  have at_ : ((hp.push (PySem.W.kdv_tup [])).push (PySem.HandSPX.excO C hp.objs.size)).get? (hp.objs.size + 1) = some (PySem.HandSPX.excO C hp.objs.size) := by heap_get
  have J : Inv X pins σ (upd H1 (hp.objs.size + 1) (exo (hp.objs.size + 1) C none)) ⟨(hp.push (PySem.W.kdv_tup [])).push (PySem.HandSPX.excO C hp.objs.size), g, dr, tok, os⟩ :=
    I1.laid (t' := tok) (a := hp.objs.size + 1) (o := exo (hp.objs.size + 1) C none) (h' := (hp.push (PySem.W.kdv_tup [])).push (PySem.HandSPX.excO C hp.objs.size)) keep up (exo_ok at_)
  have r2 : Vals [V.ref (hp.objs.size + 1)] [Value.ref (hp.objs.size + 1)] := .cons rfl .nil
  have bnd := hb.to ⟨(hp.push (PySem.W.kdv_tup [])).push (PySem.HandSPX.excO C hp.objs.size), g, dr, tok, os⟩ [Value.ref (hp.objs.size + 1)] [] J.kIn rfl rfl
  have want : spIni0 C [.ref (hp.objs.size + 1)] (upd H1 (hp.objs.size + 1) (exo (hp.objs.size + 1) C none)) (fun v' H2 => v' = .non ∧ H2 = upd H1 (hp.objs.size + 1) (exo (hp.objs.size + 1) C none)) E0 := ⟨hp.objs.size + 1, rfl, upd_same, rfl, rfl⟩
  refine wpAny_call (PySem.HandSPX.call_own PySem.F.excBase_ValueError (fun Y => PySem.HandSPX.refsVE_contains Y bm hbm) (I1.kIn _ _ hC) (PySem.W.looks_findIn I1.kIn iC) (fun self => PySem.W.bind_fn I1.kIn self tI) (Nat.zero_le _)
    (codeAny_mono (FI.run _ X.stack _ _ ⟨[Value.ref (hp.objs.size + 1)], []⟩ [Value.ref (hp.objs.size + 1)] _ _ E0 (hr.make C [] []) (J.env0.make C [] []) bnd r2 want) fun r s' hq => ?_))
  cases r with
  | error er => exact False.elim hq
  | ok fl =>
    cases fl with
    | next => exact False.elim hq
    | brk => exact False.elim hq
    | cont => exact False.elim hq
    | ret u =>
      obtain ⟨v', H2, os2, bare2, un2, hok2, rv, ev, e2⟩ := hq
      subst ev
      subst e2
      obtain ⟨h2, g2, d2, t2, os'⟩ := s'
      obtain ⟨t0, G, JG, kG, ge, hoe, n1⟩ := let_go (d2 := d2) (t2 := t2) I1 up keep un2 hok2 os2 bare2
      exact ⟨rv, hp.objs.size + 1, _, _, ⟨G, g2, d2, t2, os'⟩, H1, .ref C, none, rfl, JG, kG, ge, hoe, ⟨rfl, rfl⟩, rfl, rfl, n1, rfl, bare2, raises_own T.oex.exC T.oex.tyC, h⟩
end
end WkE
/-! A def called within an except suite with the caught error as its argument: the error's object is known by the suite's pin. -/
namespace WkP
open PySem PySem.Spec PyProof.Rows L2 L2H WkH WkE
/-- isinstance(e, c), e told by W -/
def rIsiW (W : Hp → Addr → Addr → Prop) (K : PySem.W.Frag) : List V → Hp → VK → Prop := fun xs H Q => ∃ (a C : Addr) (c : V) (u : Value) (b : Bool), xs = [.ref a, c] ∧ ClsV c u ∧ AskC K C ∧ W H a C ∧ PySem.W.kitOne K (.ref C) u = some b ∧ Q (.bl b) H
theorem call_isiW {X : Cx} : CallR X (.builtin "isinstance") (rIsiW ErrAt X.K) := call_isiE
/-- the error caught, as the pin p has it -/
def PinE (p : Addr × Obj) : Hp → Addr → Addr → Prop := fun H a C => a = p.1 ∧ p.2.cls = .ref C ∧ (∃ vs, p.2.data = .fields vs) ∧ ∀ d, p.2.dict = some d → ∃ fs, H d = some (.xd fs)
theorem PinE.mono {p : Addr × Obj} {H H' : Hp} {a C : Addr} (e : ∀ b o, H b = some o → H' b = some o) (h : PinE p H a C) : PinE p H' a C :=
  ⟨h.1, h.2.1, h.2.2.1, fun d hd => let ⟨fs, z⟩ := h.2.2.2 d hd; ⟨fs, e _ _ z⟩⟩
theorem call_isiP {X : Cx} {p : Addr × Obj} (hp : p ∈ X.pn) : CallR X (.builtin "isinstance") (rIsiW (PinE p) X.K) := by
  intro pins s σ H xs us Q I r h
  obtain ⟨a, C, c, u, b, rfl, k, T, ⟨rfl, hc, ⟨vs, hv⟩, hd⟩, e, q⟩ := h
  obtain ⟨u1, u2, rfl, r1, r2⟩ := vals2 r
  cases (show u1 = Value.ref p.1 from r1)
  have e2 := k.eq r2
  subst e2
  have at_ := (I.pin p (List.mem_append_left _ hp)).1
  have J : ∃ od, PySem.W.InstAt s.heap p.1 p.2 C od := by
    cases ed : p.2.dict with
    | none => exact ⟨none, at_, hc, by unfold PySem.W.notCls; rw [hv], by rw [ed]; trivial⟩
    | some d =>
      obtain ⟨fs, hx⟩ := hd d ed
      obtain ⟨mA, ⟨od, es, ep, ho, _⟩, _⟩ := (show ObjOk X.prog X.w H s.heap d (.xd fs) from I.hok d _ hx)
      exact ⟨some od, at_, hc, by unfold PySem.W.notCls; rw [hv], by rw [ed]; exact ho⟩
  obtain ⟨od, J⟩ := J
  exact PySem.W.kia_one (PySem.W.kitx_exc T.cl T.ga T.gt T.ex T.ca T.sg T.tk T.mo) I.kIn J e (fun z => nomatch z) fun tk => ⟨.bl b, H, I.tok tk, rfl, q⟩
/-! ### the def's promise, the pin among its data -/
structure FnP (P : Program) (w : World) (K : PySem.W.Frag) (mg : Str → Option Value) (base : Heap) (k : Nat) (f : Addr) (fd : FuncData) (ps : List Str) (sp : Addr × Obj → Sp) : Prop where
  len : ∀ p vs H Q E, sp p vs H Q E → vs.length = ps.length
  run : ∀ (A : Around) (outer : List Env) (s : Shared) (H : Hp) (args : Args) (us : List Value) (vs : List V) (Q : VK) (p : Addr × Obj), RoomH k A → PinOk outer H s p → Env0 P w K mg base A outer s H → BindsTo s fd args (ps.zip us) → Vals vs us → sp p vs H Q E0 →
    codeAny (model P w) A (.call (.ref f) args) (CR CX0 outer P w H s Q E0) s
section
variable {P : Program} {w : World} {K : PySem.W.Frag} {mg : Str → Option Value} {base : Heap} {k : Nat} {N ps : List Str} {sp : Addr × Obj → Sp}
theorem okP {d : DefL} {fd : FuncData} (F : Stands K d fd) (S : FnScope N ps d.sco) (len : ∀ p vs H Q E, sp p vs H Q E → vs.length = ps.length)
    (hbody : ∀ (cdv : Value) (A : Around) (outer : List Env) (s : Shared) (H : Hp) (vs : List V) (Q : VK) (p : Addr × Obj), RoomH k (A.deeper (envOfC d.qual d.sco s.heap.objs.size d.adr cdv)) → sp p vs H Q E0 →
      ∃ t, PSs (cxH CX0 P w K mg base N d.qual d.sco d.adr cdv A outer s H E0 p) d.bod t ∧ t { nx := fun _ H' => Q .non H', rt := Q } (L2.start N vs) H) : FnP P w K mg base (k + 1) d.adr fd ps sp := by
  obtain ⟨oc, od, dV, kV, doc, pm, an, cdv, ct, osl, rfl, lk, hcd, _, _⟩ := F.ex
  refine ⟨len, fun A outer s H args us vs Q p hr hpin e0 hb r hsp => ?_⟩
  have KX : K.In s.heap := e0.mod.kin.keeps fun b o e => (e0.bs b o e).1
  have lim : s.heap.NoLimit := e0.mod.nolimit.keeps fun b o e => (e0.bs b o e).1
  have kinds : ∀ y ∈ ps.zip us, d.sco.names.lookup y.1 = some .local ∨ (d.sco.names.lookup y.1 = some .cell ∧ ((cellsFrom (s.heap.objs.size + 1) d.sco.names []).lookup y.1).isSome = true) := fun ⟨n, v⟩ hy => by
    rcases S.par n (List.of_mem_zip hy).1 with q | q
    · exact .inl q
    · exact .inr ⟨q, PySem.W.cellsFrom_some _ _ _ (.inl q)⟩
  refine codeAny_call_function hr.depth (KX _ _ lk) rfl S.co S.gen rfl (PySem.W.codeRec_of KX hcd) (hb _ _ _ _ (wpAny_newFunctionEnv_cells S.kind kinds fun env he s1 x => ?_))
  subst he
  obtain ⟨t, ht, hq⟩ := hbody cdv A outer s H vs Q p (hr.deeper _) hsp
  refine ⟨lim.keeps x.toInCall.keep, codeAny_func ?_⟩
  have J := inv_startH (CX := CX0) (E := E0) S hpin e0 (len _ _ _ _ _ hsp) r x
  refine wpAny_mono (ht.run [] s1 (L2.start N vs) H _ J hq) (fun fl s' hs => ?_) fun e s' hs => hs
  cases fl with
  | ret u =>
    obtain ⟨v, σ', H', J', rv, q⟩ := hs
    exact ⟨v, H', J'.os, J'.bare, J'.base, J'.hok, rv, q⟩
  | next =>
    obtain ⟨σ', H', J', q⟩ := hs
    exact ⟨V.non, H', J'.os, J'.bare, J'.base, J'.hok, rfl, q⟩
  | brk =>
    obtain ⟨_, _, _, q⟩ := hs
    exact False.elim q
  | cont =>
    obtain ⟨_, _, _, q⟩ := hs
    exact False.elim q
end
/-! ### its call -/
section
variable {X : Cx} {k : Nat} {f : Addr} {fd : FuncData} {ps : List Str} {sp : Addr × Obj → Sp} {x : Str} {q pos : Pos} {e : Expr} {es : List Expr} {t : TA} {p : Addr × Obj}
def tCallP (sp : Addr × Obj → Sp) (p : Addr × Obj) (t : TA) : TE := fun σ H Q => t σ H fun vs H1 => sp p vs H1 Q E0
theorem pe_callP (F : FnP X.prog X.w X.K X.mg X.base k f fd ps sp) (hr : RoomH k X.A) (hp : p ∈ X.pn) (hg : Gl X x) (hm : X.mg x = some (.ref f)) (hk : PySem.W.keepIn X.K (.ref f) = true) (hb : Binds X.K fd ps []) (ha : PA X (e :: es) t)
    (hd : (x == ("__debug__" : Str)) = false := by decide) (he : starEach (e :: es) X.env = (false, eval e X.env) :: starEach es X.env := by rfl) (hpl : (backTo pos (starEach es X.env)).any (·.1) = false := by rfl) :
    PE X (.Call (.Name x q) (e :: es) [] pos) (tCallP sp p t) := by
  refine ⟨fun pins s σ H Q I h => ?_⟩
  refine wpAny_Call_Name_kw (ld_glob I hg hm ?_ hd)
  refine PySem.W.callWith_K (h₀ := X.base) I.ok.mod.kin hk (thn (ha.run pos pins s σ H _ I h) fun us s1 ⟨vs, H1, I1, r, h1⟩ => ⟨I1.kIn, ?_⟩) he hpl
  have hl : us.length = ps.length := by
    rw [← r.length]
    exact F.len _ _ _ _ _ h1
  have b := hb s1 us I1.kIn (by rw [List.append_nil]; exact hl)
  rw [List.append_nil] at b
  have P1 := I1.pin p (List.mem_append_left _ hp)
  have hpin : PinOk X.stack H1 s1 p := ⟨P1.1, P1.2.1, fun hm => (List.mem_cons.mp (I1.stkSub p.1 hm)).elim P1.2.2.1 P1.2.2.2.1, P1.2.2.2.2⟩
  show wpAny _ _ (call (.ref f) us) _ _ _
  refine wpAny_call (codeAny_mono (F.run X.A X.stack s1 H1 ⟨us, []⟩ us vs Q p hr hpin I1.env0 b r h1) fun r s' hq => ?_)
  cases r with
  | error er => exact False.elim hq
  | ok fl =>
    cases fl with
    | ret u => exact I1.after hq
    | next => exact False.elim hq
    | brk => exact False.elim hq
    | cont => exact False.elim hq
end
end WkP
/-! Defs that ask repr of nested data: the guards of repr are told with the room (no repr runs around them). -/
namespace WkG
open PySem PySem.Spec PyProof.Rows L2 WkH
/-- nothing is being shown around A -/
abbrev Clear (A : Around) : Prop := A.guards = some []
structure FnG (P : Program) (w : World) (K : PySem.W.Frag) (mg : Str → Option Value) (base : Heap) (CX : CXT) (k : Nat) (f : Addr) (fd : FuncData) (ps : List Str) (sp : Sp) : Prop where
  len : ∀ vs H Q E, sp vs H Q E → vs.length = ps.length
  run : ∀ (A : Around) (outer : List Env) (s : Shared) (H : Hp) (args : Args) (us : List Value) (vs : List V) (Q : VK) (E : XK), Clear A → Room k A → Env0 P w K mg base A outer s H → BindsTo s fd args (ps.zip us) → Vals vs us → sp vs H Q E →
    codeAny (model P w) A (.call (.ref f) args) (CR CX outer P w H s Q E) s
theorem FnG.of {P : Program} {w : World} {K : PySem.W.Frag} {mg : Str → Option Value} {base : Heap} {CX : CXT} {k : Nat} {f : Addr} {fd : FuncData} {ps : List Str} {sp : Sp} (F : FnOk P w K mg base CX k f fd ps sp) : FnG P w K mg base CX k f fd ps sp :=
  ⟨F.len, fun A outer s H args us vs Q E _ hr e0 hb r h => F.run A outer s H args us vs Q E hr e0 hb r h⟩
section
variable {P : Program} {w : World} {K : PySem.W.Frag} {mg : Str → Option Value} {base : Heap} {CX : CXT} {k : Nat} {N ps : List Str} {sp : Sp}
/-- the rule for a def, the guards told -/
theorem okG {d : DefL} {fd : FuncData} (F : Stands K d fd) (S : FnScope N ps d.sco) (len : ∀ vs H Q E, sp vs H Q E → vs.length = ps.length)
    (hbody : ∀ (cdv : Value) (A : Around) (outer : List Env) (s : Shared) (H : Hp) (vs : List V) (Q : VK) (E : XK), Clear (A.deeper (envOfC d.qual d.sco s.heap.objs.size d.adr cdv)) → Room k (A.deeper (envOfC d.qual d.sco s.heap.objs.size d.adr cdv)) → sp vs H Q E →
      ∃ t, PSs (cxOf CX P w K mg base N d.qual d.sco d.adr cdv A outer s H E) d.bod t ∧ t { nx := fun _ H' => Q .non H', rt := Q } (start N vs) H) : FnG P w K mg base CX (k + 1) d.adr fd ps sp := by
  obtain ⟨oc, od, dV, kV, doc, pm, an, cdv, ct, osl, rfl, lk, hcd, _, _⟩ := F.ex
  refine ⟨len, fun A outer s H args us vs Q E hG hr e0 hb r hsp => ?_⟩
  have KX : K.In s.heap := e0.mod.kin.keeps fun b o e => (e0.bs b o e).1
  have lim : s.heap.NoLimit := e0.mod.nolimit.keeps fun b o e => (e0.bs b o e).1
  have kinds : ∀ y ∈ ps.zip us, d.sco.names.lookup y.1 = some .local ∨ (d.sco.names.lookup y.1 = some .cell ∧ ((cellsFrom (s.heap.objs.size + 1) d.sco.names []).lookup y.1).isSome = true) := fun ⟨n, v⟩ hy => by
    rcases S.par n (List.of_mem_zip hy).1 with q | q
    · exact .inl q
    · exact .inr ⟨q, PySem.W.cellsFrom_some _ _ _ (.inl q)⟩
  refine codeAny_call_function hr.depth (KX _ _ lk) rfl S.co S.gen rfl (PySem.W.codeRec_of KX hcd) (hb _ _ _ _ (wpAny_newFunctionEnv_cells S.kind kinds fun env he s1 x => ?_))
  subst he
  obtain ⟨t, ht, hq⟩ := hbody cdv A outer s H vs Q E hG (hr.deeper _) hsp
  refine ⟨lim.keeps x.toInCall.keep, codeAny_func ?_⟩
  have J : Inv (cxOf CX P w K mg base N d.qual d.sco d.adr cdv A outer s H E) [] (start N vs) H s1 := inv_start S hr.hd e0 (len _ _ _ _ hsp) r x
  refine wpAny_mono (ht.run [] s1 (start N vs) H _ J hq) (fun fl s' hs => ?_) fun e s' hs => hs
  cases fl with
  | ret u =>
    obtain ⟨v, σ', H', J', rv, q⟩ := hs
    exact ⟨v, H', J'.os, J'.bare, J'.base, J'.hok, rv, q⟩
  | next =>
    obtain ⟨σ', H', J', q⟩ := hs
    exact ⟨V.non, H', J'.os, J'.bare, J'.base, J'.hok, rfl, q⟩
  | brk =>
    obtain ⟨_, _, _, q⟩ := hs
    exact False.elim q
  | cont =>
    obtain ⟨_, _, _, q⟩ := hs
    exact False.elim q
end
section
variable {X : Cx} {CX : CXT} {k : Nat} {f : Addr} {fd : FuncData} {ps : List Str} {sp : Sp} {E : XK} {x : Str} {p pos : Pos} {e : Expr} {es : List Expr} {t : TA} {ds : List Value} {dvs : List V}
theorem run_fnG {pins : List (Addr × Obj)} {σ : L2.St} {H : Hp} {s : Shared} {Q : VK} {us : List Value} {vs : List V} (F : FnG X.prog X.w X.K X.mg X.base CX k f fd ps sp) (hG : Clear X.A) (hr : Room k X.A) (hb : Binds X.K fd ps []) (hx : Passes CX X E)
    (I : Inv X pins σ H s) (r : Vals vs us) (h : sp vs H Q E) : wpAny (model X.prog X.w) X.A (call (.ref f) us) (EP X pins σ Q) X.xe s := by
  have hl : us.length = ps.length := by
    rw [← r.length]
    exact F.len _ _ _ _ h
  have b := hb s us I.kIn (by rw [List.append_nil]; exact hl)
  rw [List.append_nil] at b
  refine wpAny_call (codeAny_mono (F.run X.A X.stack s H ⟨us, []⟩ us vs Q E hG hr I.env0 b r h) fun r s' hq => ?_)
  cases r with
  | error e => exact hx pins σ H s e s' I hq
  | ok fl =>
    cases fl with
    | ret u => exact I.after hq
    | next => exact False.elim hq
    | brk => exact False.elim hq
    | cont => exact False.elim hq
/-- f(e, ..), f such a def -/
theorem pe_callG (F : FnG X.prog X.w X.K X.mg X.base CX k f fd ps sp) (hG : Clear X.A) (hr : Room k X.A) (hg : Gl X x) (hm : X.mg x = some (.ref f)) (hk : PySem.W.keepIn X.K (.ref f) = true) (hb : Binds X.K fd ps []) (hx : Passes CX X E)
    (ha : PA X (e :: es) t) (hd : (x == ("__debug__" : Str)) = false := by decide) (he : starEach (e :: es) X.env = (false, eval e X.env) :: starEach es X.env := by rfl) (hpl : (backTo pos (starEach es X.env)).any (·.1) = false := by rfl) :
    PE X (.Call (.Name x p) (e :: es) [] pos) (tCall sp [] E t) := by
  refine ⟨fun pins s σ H Q I h => ?_⟩
  refine wpAny_Call_Name_kw (ld_glob I hg hm ?_ hd)
  refine PySem.W.callWith_K (h₀ := X.base) I.ok.mod.kin hk (thn (ha.run pos pins s σ H _ I h) fun us s1 ⟨vs, H1, I1, r, q⟩ => ⟨I1.kIn, ?_⟩) he hpl
  have q' : sp vs H1 Q E := by
    have z : sp (vs ++ []) H1 Q E := q
    rw [List.append_nil] at z
    exact z
  exact run_fnG F hG hr hb hx I1 r q'
end
/-! ### the end of a law -/
/-- the abstract heap ahead of the law: the script alone, or (a module's own object) nothing -/
def onlyAt (a : Addr) (o : Obj) (xs : List V) (own : Bool) : Hp := fun b => if own = false ∧ b = a then some (.frz o (.lst xs)) else none
section
variable {P : Program} {w : World} {K : PySem.W.Frag} {mg mb : Str → Option Value} {CX : CXT} {k : Nat} {fa a : Addr} {fd : FuncData} {x : Str} {sp : Sp} {s : Shared} {us : List Value} {ns : List Int}
theorem onlyAt_cases {a b : Addr} {o : Obj} {xs : List V} {own : Bool} : (onlyAt a o xs own b = none ∧ (own = true ∨ b ≠ a)) ∨ (own = false ∧ b = a ∧ onlyAt a o xs own b = some (.frz o (.lst xs))) := by
  unfold onlyAt
  by_cases h : own = false ∧ b = a
  · rw [if_pos h]
    exact .inr ⟨h.1, h.2, rfl⟩
  · rw [if_neg h]
    refine .inl ⟨rfl, ?_⟩
    cases own with
    | true => exact .inl rfl
    | false => exact .inr fun e => h ⟨rfl, e⟩
/-- the law's call, its def's promise told under clear guards -/
theorem law_callG (KX : K.In s.heap) (hns : s.heap.Ns mainGlobals mg) (hb : s.heap.Ns builtinsNs mb) (hbb : ∀ x : Str, x ≠ "__name__" → mb x = bootBuiltins x) (hlim : s.heap.NoLimit) (hg : s.gens = #[])
    (ha : s.heap.get? a = some { cls := .type "list", data := .seq us.toArray }) (hi : IntsAre us ns) (hl : ns.length ≤ sizeLine) (hr : Room k callerA)
    (F : ∀ base : Heap, K.In base → base.Ns mainGlobals mg → FnG P w K mg base CX k fa fd [x] sp) (hbind : ∀ (s : Shared) (u : Value), BindsTo s fd ⟨[u], []⟩ [(x, u)])
    (hsp : ∀ H : Hp, Only H → SqL K H a (ns.map V.int) → sp [.ref a] H (fun v _ => v = .bl true) fun _ _ _ => False) (hCX : ∀ H e s', CX [] H s (fun _ _ _ => False) e s' → False) :
    codeAny (model P w) callerA (.call (.ref fa) ⟨[.ref a], []⟩) (fun r s' => r = .ok (.ret (.bool true)) ∧ OldK s.heap s'.heap ∧ s'.os = s.os ∧ AllBare s'.gens) s := by
  have rv : Vals (ns.map V.int) us := vals_ints hi
  -- own: the script is an object of the module's own
  generalize hw : (K.lookup a).isSome = own
  let o : Obj := { cls := .type "list", data := .seq us.toArray }
  let H : Hp := onlyAt a o (ns.map V.int) own
  have hO : Only H := fun b => by
    rcases onlyAt_cases (a := a) (b := b) (o := o) (xs := ns.map V.int) (own := own) with h | h
    · exact .inl h.1
    · exact .inr ⟨_, _, h.2.2⟩
  have hK : own = true → ∃ q, K.lookup a = some q := fun e => Option.isSome_iff_exists.mp (hw.trans e)
  have hS : SqL K H a (ns.map V.int) := by
    cases own with
    | true =>
      obtain ⟨q, hq⟩ := hK rfl
      have e := KX a q hq
      rw [ha] at e
      cases e
      exact .inr ⟨_, us.toArray, _, hq, rfl, rfl, rfl, by rw [List.size_toArray, hi.length]; exact hl, by simpa using rv⟩
    | false => exact .inl (.inr ⟨o, if_pos ⟨rfl, rfl⟩⟩)
  have hok : HOk P w H s.heap := fun b u z => by
    rcases onlyAt_cases (a := a) (b := b) (o := o) (xs := ns.map V.int) (own := own) with h | ⟨_, hba, h⟩
    · have z' : (none : Option HO) = some u := h.1.symm.trans z
      cases z'
    · have z' := h.symm.trans z
      cases z'
      subst hba
      exact ⟨ha, by rw [List.length_map]; exact hl, us, _, rv, ha⟩
  -- what of the heap is not tracked: all but the script
  have free : ∀ {b : Addr} {q : Obj}, s.heap.get? b = some q → (b = a → own = true) → (hidT s.heap H).get? b = some q := fun {b q} e n => hidT_get e (by
    rcases onlyAt_cases (a := a) (b := b) (o := o) (xs := ns.map V.int) (own := own) with h | ⟨h1, h2, _⟩
    · exact h.1
    · rw [n h2] at h1
      cases h1)
  have ns1 : ∀ {b : Addr} {m : Str → Option Value}, s.heap.Ns b m → (hidT s.heap H).Ns b m := fun {b m} ⟨q, es, ep, e, d, r⟩ => ⟨q, es, ep, free e (fun z => by
    rw [z, ha] at e
    cases e
    cases (show Data.seq us.toArray _ = Data.dict es ep from d)), d, r⟩
  have hKb : K.In (hidT s.heap H) := fun b q e => free (KX b q e) (fun z => by
    rw [← hw, ← z, e]
    rfl)
  have e0 : Env0 P w K mg (hidT s.heap H) callerA [] s H :=
    ⟨rfl, ⟨hKb, ns1 hns, ⟨mb, ns1 hb, hbb⟩, let ⟨mc, h1, h2⟩ := hlim; ⟨mc, ns1 h1, h2⟩⟩, fun b q e => of_hidT e, Nat.le_of_eq (hidT_size _ _), trivial, fun b hb => absurd (show b ∈ ([] : List Addr) from hb) (by simp), hok, .of_eq hg⟩
  refine codeAny_mono ((F _ hKb (ns1 hns)).run callerA [] s H ⟨[.ref a], []⟩ [.ref a] [.ref a] _ _ rfl hr e0 (hbind s (.ref a)) (.cons rfl .nil) (hsp H hO hS)) fun r s' h => ?_
  cases r with
  | error e => exact (hCX H e s' h).elim
  | ok fl =>
    cases fl with
    | next => exact False.elim h
    | brk => exact False.elim h
    | cont => exact False.elim h
    | ret u =>
      obtain ⟨v, H', os, bare, un, hok', r', q⟩ := h
      have q' : v = .bl true := q
      subst q'
      obtain rfl : u = Value.bool true := r'
      refine ⟨rfl, OldK.of_keep fun b q e => ?_, os, bare⟩
      rcases onlyAt_cases (a := a) (b := b) (o := o) (xs := ns.map V.int) (own := own) with h | ⟨_, _, h⟩
      · exact un.keep b q e h.1 (fun z => absurd (show b ∈ ([] : List Addr) from z) (by simp)) (by simp)
      · obtain ⟨e1, _⟩ := hok b _ h
        obtain ⟨e2, _⟩ := hok' b _ (un.frzs b o _ h)
        rw [e] at e1
        cases e1
        exact e2
end
theorem walkG {l : PySem.W.OpenLaw} {n k : Nat} {q : Program} {loose : List Str} {XP : (Str → Option Value) → Heap → Prop} {YP : World → Heap → Prop} {d : DefRec} {CX : CXT} {x : Str} (hn : l.most = some n) (hn2 : n ≤ sizeLine) (hdf : d.params.defaults = []) (hr : Room k callerA)
    (F : ∀ (w : World) (mg : Str → Option Value) (fa : Addr) (h : Heap), YP w h → h.Ns mainGlobals mg → mg d.name = some (.ref fa) → ∃ (K : PySem.W.Frag) (fd : FuncData) (sp : Sp), K.In h ∧ (∀ (s : Shared) (u : Value), BindsTo s fd ⟨[u], []⟩ [(x, u)]) ∧
      (∀ (H : Hp) (a : Addr) (ns : List Int), ns.length ≤ n → Only H → SqL K H a (ns.map V.int) → sp [.ref a] H (fun v _ => v = .bl true) fun _ _ _ => False) ∧ ∀ base : Heap, K.In base → base.Ns mainGlobals mg → FnG l.prog w K mg base CX k fa fd [x] sp)
    (hCX : ∀ (H : Hp) (s : Shared) (e : Value) (s' : Shared), CX [] H s (fun _ _ _ => False) e s' → False) : PySem.W.WalkO q loose XP YP l.row.toRowW d [] (fun f vs => PySem.call f vs) := by
  refine Att.attach_call hn hdf fun w s₀ s₁ mg mb fa o pm cd doc a vs ns G Y ho hd hcd hmg hobj hints hlen hg => ?_
  obtain ⟨K, fd, sp, KX, hb, hsp, hF⟩ := F w mg fa _ Y G.T.g hmg
  exact law_callG KX G.T.g G.T.b G.T.builtins G.T.nolimit hg hobj hints (Nat.le_trans hlen hn2) hr hF hb (fun H hO hS => hsp H a ns hlen hO hS) fun H e s' => hCX H s₁ e s'
end WkG
/-! repr of nested data: numbers, texts, lists, tuples, dicts with keys that are numbers or texts. -/
namespace WkQ
open PySem PySem.Spec PyProof.Rows L2 WkH WkG
/-- a key as data -/
def keyD : Key → PyData
  | .inl i => .int i
  | .inr x => .str x
mutual
/-- the value, read off the abstract heap, is this data -/
inductive Dq (K : PySem.W.Frag) (H : Hp) : V → PyData → Prop
  | non : Dq K H .non .none
  | bl (b : Bool) : Dq K H (.bl b) (.bool b)
  | int (i : Int) : Dq K H (.int i) (.int i)
  | str (x : Str) : Dq K H (.str x) (.str x)
  | lst {a : Addr} {xs : List V} {ds : List PyData} : H a = some (.lst xs) → DqAll K H xs ds → Dq K H (.ref a) (.list ds)
  | tup {a : Addr} {xs : List V} {ds : List PyData} : SqT K H a xs → DqAll K H xs ds → Dq K H (.ref a) (.tuple ds)
  | dic {a : Addr} {kvs : List (Key × V)} {ds : List (PyData × PyData)} : H a = some (.dK kvs) → ds.map (·.1) = kvs.map (fun p => keyD p.1) → DqAll K H (kvs.map (·.2)) (ds.map (·.2)) → Dq K H (.ref a) (.dict ds)
inductive DqAll (K : PySem.W.Frag) (H : Hp) : List V → List PyData → Prop
  | nil : DqAll K H [] []
  | cons {v : V} {vs : List V} {d : PyData} {ds : List PyData} : Dq K H v d → DqAll K H vs ds → DqAll K H (v :: vs) (d :: ds)
end
/-- the system's modules stand in the written part, as a dict -/
def sysB (K : PySem.W.Frag) : Bool := (K.lookup sysModules).isSome
section
variable {X : Cx} {pins : List (Addr × Obj)} {σ : L2.St} {H : Hp} {s : Shared}
theorem pairs_keys {P : Program} {w : World} {h : Heap} : ∀ {es : List DictEntry} {kvs : List (Key × Value)}, Pairs (mixKind P w) es kvs → ReadsAll h (es.map (·.key)) (kvs.map fun p => keyD p.1) [] ∧ es.map (·.val) = kvs.map (·.2)
  | [], [], _ => ⟨.nil, rfl⟩
  | e :: es, (k, v) :: kvs, .cons h1 h2 h3 => by
    obtain ⟨r1, r2⟩ := pairs_keys (h := h) h3
    have hk : Reads h e.key (keyD k) [] := by
      rcases keyIs_shape (show keyIs k e.key = true from h1) with ⟨i, t, rfl, e1⟩ | ⟨x, t, rfl, e1⟩
      · rw [e1]
        exact .int i t
      · rw [e1]
        exact .str x t
    refine ⟨?_, ?_⟩
    · have z := ReadsAll.cons hk r1
      simpa using z
    · simp only [List.map_cons, h2, r2]
theorem kv_vals : ∀ {kvs : List (Key × V)} {vs : List (Key × Value)}, KV kvs vs → Vals (kvs.map (·.2)) (vs.map (·.2)) ∧ (kvs.map fun p => keyD p.1) = vs.map fun p => keyD p.1
  | [], [], _ => ⟨.nil, rfl⟩
  | (k, v) :: kvs, (k', u) :: vs, .cons h1 h2 => by
    obtain ⟨r1, r2⟩ := kv_vals h2
    obtain ⟨e, rv⟩ := h1
    have e' : k = k' := e
    subst e'
    exact ⟨.cons rv r1, by simp only [List.map_cons, r2]⟩
mutual
theorem Dq.reads (I : Inv X pins σ H s) : ∀ (d : PyData) (v : V) (u : Value), Dq X.K H v d → RelV v u → ∃ as, Reads s.heap u d as ∧ ∀ b ∈ as, H b ≠ none
  | .none, _, _, .non, r => ⟨[], by cases r; exact .none, fun _ h => nomatch h⟩
  | .bool b, _, _, .bl _, r => ⟨[], by cases r; exact .bool b, fun _ h => nomatch h⟩
  | .int i, _, _, .int _, r => ⟨[], by obtain ⟨t, rfl⟩ := r; exact .int i t, fun _ h => nomatch h⟩
  | .str x, _, _, .str _, r => ⟨[], by obtain ⟨t, rfl⟩ := r; exact .str x t, fun _ h => nomatch h⟩
  | .list ds, _, _, .lst (a := a) hs ha, r => by
    cases r
    obtain ⟨hz, its, n, rv, ho⟩ := (show ObjOk X.prog X.w H s.heap a (.lst _) from I.hok a _ hs)
    obtain ⟨as, hr, na⟩ := Dq.readsAll I ds _ its ha rv
    refine ⟨_, .list ho rfl rfl (by simpa using hr), fun b hb => ?_⟩
    rcases List.mem_cons.mp hb with rfl | hb
    · rw [hs]
      exact fun z => nomatch z
    · exact na b hb
  | .tuple ds, _, _, .tup hs ha, r => by
    cases r
    obtain ⟨its, rv, ⟨o, ho, hc, n, hd⟩, _⟩ := I.tuple hs
    obtain ⟨as, hr, na⟩ := Dq.readsAll I ds _ its ha rv
    exact ⟨_, .tuple ho hc hd hr, na⟩
  | .dict ds, _, _, .dic (a := a) hs hk ha, r => by
    cases r
    obtain ⟨hz, ny, vs, kv, o, es, ep, ho, hx, hd, _, hp, _⟩ := (show ObjOk X.prog X.w H s.heap a (.dK _) from I.hok a _ hs)
    obtain ⟨rk, ev⟩ := pairs_keys (h := s.heap) hp
    obtain ⟨rv, ek⟩ := kv_vals kv
    obtain ⟨bs, hr, nb⟩ := Dq.readsAll2 I ds _ (vs.map (·.2)) ha rv
    rw [← ev] at hr
    rw [← ek, ← hk] at rk
    refine ⟨_, .dict ho hx.1 hd rk hr, fun b hb => ?_⟩
    rcases List.mem_append.mp hb with hb | hb
    · have e : b = a := by simpa using hb
      rw [e, hs]
      exact fun z => nomatch z
    · exact nb b hb
theorem Dq.readsAll (I : Inv X pins σ H s) : ∀ (ds : List PyData) (vs : List V) (us : List Value), DqAll X.K H vs ds → Vals vs us → ∃ as, ReadsAll s.heap us ds as ∧ ∀ b ∈ as, H b ≠ none
  | [], _, _, .nil, r => ⟨[], by cases r; exact .nil, fun _ h => nomatch h⟩
  | d :: ds, _, _, .cons h1 h2, .cons r1 r2 => by
    obtain ⟨as, q1, n1⟩ := Dq.reads I d _ _ h1 r1
    obtain ⟨bs, q2, n2⟩ := Dq.readsAll I ds _ _ h2 r2
    exact ⟨_, .cons q1 q2, fun b hb => (List.mem_append.mp hb).elim (n1 b) (n2 b)⟩
theorem Dq.readsAll2 (I : Inv X pins σ H s) : ∀ (ds : List (PyData × PyData)) (vs : List V) (us : List Value), DqAll X.K H vs (ds.map (·.2)) → Vals vs us → ∃ as, ReadsAll s.heap us (ds.map (·.2)) as ∧ ∀ b ∈ as, H b ≠ none
  | [], _, _, h, r => ⟨[], by cases h; cases r; exact .nil, fun _ h => nomatch h⟩
  | (k, d) :: ds, _, _, .cons h1 h2, .cons r1 r2 => by
    obtain ⟨as, q1, n1⟩ := Dq.reads I d _ _ h1 r1
    obtain ⟨bs, q2, n2⟩ := Dq.readsAll2 I ds _ _ h2 r2
    exact ⟨_, .cons q1 q2, fun b hb => (List.mem_append.mp hb).elim (n1 b) (n2 b)⟩
end
end
/-- repr(x) -/
def rRepr (K : PySem.W.Frag) : List V → Hp → VK → Prop := fun xs H Q => ∃ (x : V) (d : PyData), xs = [x] ∧ Dq K H x d ∧ d.showable = true ∧ d.depth ≤ 20 ∧ d.shown.length ≤ 100000 ∧ Q (.str d.shown) H
theorem cr_repr {X : Cx} {k : Nat} (hG : Clear X.A) (hr : Room k X.A) (hy : sysB X.K = true) : CallR X (.builtin "repr") (rRepr X.K) := by
  intro pins s σ H vs us Q I r h
  obtain ⟨x, d, rfl, hd, hs, h20, hl, q⟩ := h
  obtain ⟨u, rfl, ru⟩ := vals1 r
  have hu := hr.units
  have hz : d.shown.length ≤ sizeLine := Nat.le_trans hl (by rw [sizeLine_eq]; decide)
  obtain ⟨as, hR, na⟩ := Dq.reads I d x u hd ru
  have nsys : H sysModules = none := by
    obtain ⟨o, ho⟩ := Option.isSome_iff_exists.mp hy
    exact (I.bs _ _ (I.ok.mod.kin _ _ ho)).2
  have hsm : d.hasDict = true → sysModules ∉ as := fun _ hm => na _ hm nsys
  have fin : ∀ t, Q (.str d.shown) H → EP X pins σ Q (.str d.shown t) { s with toks := s.toks + 1 } := fun t q => ⟨.str d.shown, H, I.tok _, ⟨t, rfl⟩, q⟩
  cases hd with
  | non =>
    cases ru
    exact PySem.P.repr_of_none (fin _ q)
  | bl b =>
    cases ru
    refine PySem.P.repr_of_bool ?_
    have e : (PyData.shown (.bool b)) = (if b then "True" else "False" : Str) := by simp only [PyData.shown]
    rw [e] at q
    exact ⟨.str _, H, I.tok _, ⟨_, rfl⟩, q⟩
  | int i =>
    obtain ⟨t, rfl⟩ := ru
    exact PySem.P.repr_of_int (by simpa [PyData.showable] using hs) (fin _ q)
  | str y =>
    obtain ⟨t, rfl⟩ := ru
    refine PySem.P.repr_of_str (fin _ q) ?_
    have e : (PyData.shown (.str y)) = reprText y := by simp only [PyData.shown]
    rw [← e]
    exact hz
  | lst _ _ =>
    cases ru
    exact PySem.repr_of_reads' hR hs hsm hG (by omega) (fun _ _ e => e) (fun h' t tk k => ⟨.str _, H, I.kept k, ⟨_, rfl⟩, q⟩) hz
  | tup _ _ =>
    cases ru
    exact PySem.repr_of_reads' hR hs hsm hG (by omega) (fun _ _ e => e) (fun h' t tk k => ⟨.str _, H, I.kept k, ⟨_, rfl⟩, q⟩) hz
  | dic _ _ _ =>
    cases ru
    exact PySem.repr_of_reads' hR hs hsm hG (by omega) (fun _ _ e => e) (fun h' t tk k => ⟨.str _, H, I.kept k, ⟨_, rfl⟩, q⟩) hz
end WkQ
/-! Readings, step by step: one lemma a reading, from what follows. -/
namespace WkS
open PySem PySem.Spec PyProof.Rows L2
section
variable {K : PySem.W.Frag} {σ : L2.St} {H H' : Hp} {ta tb tc te : TE} {x y v : V} {Q : VK} {i j : Int} {r : R2} {D : Ends} {t u : TS} {c d : TT} {ar : TA} {n : Nat}
theorem e_var (h : σ[n]? = some (some v)) (q : Q v H) : tVar n σ H Q := ⟨v, h, q⟩
theorem e_c (q : Q v H) : tC v σ H Q := q
theorem e_op (q : ta σ H fun x H1 => tb σ H1 fun y H2 => r x y H2 Q) : tOp r ta tb σ H Q := q
theorem e_un {r : V → Hp → VK → Prop} (q : ta σ H fun x H1 => r x H1 Q) : tUn r ta σ H Q := q
theorem e_I0 {g : Int → Int → V} (q : Q (g i j) H) : rI0 g (.int i) (.int j) H Q := ⟨i, j, rfl, rfl, q⟩
theorem e_I {C : Int → Int → Prop} {g : Int → Int → V} (hc : C i j) (q : Q (g i j) H) : rI C g (.int i) (.int j) H Q := ⟨i, j, rfl, rfl, hc, q⟩
theorem e_mod (hj : 0 < j) (q : ∀ k, 0 ≤ k → k < j → Q (.int k) H) : rI (fun _ j => 0 < j) (fun i j => V.int (i % j)) (.int i) (.int j) H Q := ⟨i, j, rfl, rfl, hj, q _ (Int.emod_nonneg _ (by omega)) (Int.emod_lt_of_pos _ hj)⟩
theorem e_U {g : Int → V} (q : Q (g i) H) : rU g (.int i) H Q := ⟨i, rfl, q⟩
theorem e_eq (h : scal x y = true) (q : Q (.bl (decide (x = y))) H) : rEq x y H Q := ⟨h, q⟩
theorem e_ne (h : scal x y = true) (q : Q (.bl (!decide (x = y))) H) : rNe x y H Q := ⟨h, q⟩
theorem e_test {Q : Bool → Hp → Prop} (q : te σ H fun x H' => ∃ k, x = .bl k ∧ Q k H') : tTest te σ H Q := q
theorem e_tB {Q : Bool → Hp → Prop} (q : te σ H fun x H' => ∃ k, x = .bl k ∧ Q k H') : tB te σ H Q := q
theorem e_bl {b : Bool} {Q : Bool → Prop} (q : Q b) : ∃ k, V.bl b = .bl k ∧ Q k := ⟨b, rfl, q⟩
theorem e_and {Q : Bool → Hp → Prop} (q : c σ H fun k H1 => if k = true then d σ H1 Q else Q false H1) : tAnd c d σ H Q := q
theorem e_or {Q : Bool → Hp → Prop} (q : c σ H fun k H1 => if k = true then Q true H1 else d σ H1 Q) : tOr c d σ H Q := q
theorem e_not {Q : Bool → Hp → Prop} (q : c σ H fun k H1 => Q (!k) H1) : tNot c σ H Q := q
theorem e_if (q : c σ H fun k H1 => if k = true then ta σ H1 Q else tb σ H1 Q) : tIf c ta tb σ H Q := q
theorem e_andV (q : ta σ H fun x H1 => ∃ k, x = .bl k ∧ if k = true then tb σ H1 Q else Q (.bl false) H1) : tAndV ta tb σ H Q := q
theorem e_orV (q : ta σ H fun x H1 => ∃ k, x = .bl k ∧ if k = true then Q (.bl true) H1 else tb σ H1 Q) : tOrV ta tb σ H Q := q
theorem e_notV (q : ta σ H fun x H1 => ∃ k, x = .bl k ∧ Q (.bl (!k)) H1) : tNotV ta σ H Q := q
theorem e_nil {Q : List V → Hp → Prop} (q : Q [] H) : tNil σ H Q := q
theorem e_cons {tr : TA} {Q : List V → Hp → Prop} (q : te σ H fun x H1 => tr σ H1 fun xs H2 => Q (x :: xs) H2) : tCons te tr σ H Q := q
theorem e_CB {r : List V → Hp → VK → Prop} (q : ar σ H fun vs H1 => r vs H1 Q) : tCB r ar σ H Q := q
theorem e_tup (q : ar σ H fun xs H1 => xs.length ≤ sizeLine ∧ ∀ p, H1 p = none → Q (.ref p) (upd H1 p (.tup xs))) : tTup ar σ H Q := q
theorem e_lst (q : ar σ H fun xs H1 => xs.length ≤ sizeLine ∧ ∀ p, H1 p = none → Q (.ref p) (upd H1 p (.lst xs))) : tLst ar σ H Q := q
theorem e_call {sp : Sp} {dvs : List V} {E : XK} (q : ar σ H fun vs H1 => sp (vs ++ dvs) H1 Q E) : tCall sp dvs E ar σ H Q := q
theorem e_ixL {p : Addr} {xs : List V} (h : SqL K H p xs) (ha : atI xs i = some v) (q : Q v H) : rIxL K (.ref p) (.int i) H Q := ⟨p, xs, i, v, rfl, rfl, h, ha, q⟩
theorem e_ixT {p : Addr} {xs : List V} (h : SqT K H p xs) (ha : atI xs i = some v) (q : Q v H) : rIxT K (.ref p) (.int i) H Q := ⟨p, xs, i, v, rfl, rfl, h, ha, q⟩
theorem e_ixl {p : Addr} {xs : List V} (h : H p = some (.lst xs)) (ha : atI xs i = some v) (q : Q v H) : rIxL K (.ref p) (.int i) H Q := e_ixL (SqL.of h) ha q
theorem e_ixt {p : Addr} {xs : List V} (h : H p = some (.tup xs)) (ha : atI xs i = some v) (q : Q v H) : rIxT K (.ref p) (.int i) H Q := e_ixT (SqT.of h) ha q
theorem e_setL {p : Addr} {xs : List V} {j : Nat} {Q : Hp → Prop} (h : H p = some (.lst xs)) (hj : ixN xs.length i = some j) (q : Q (upd H p (.lst (xs.set j v)))) : rSetL (.ref p) (.int i) v H Q := ⟨p, xs, i, j, rfl, rfl, h, hj, q⟩
theorem e_cat {p b : Addr} {xs zs : List V} (h : H p = some (.lst xs)) (h' : H b = some (.lst zs)) (hl : xs.length + zs.length ≤ sizeLine) (q : ∀ l, H l = none → Q (.ref l) (upd H l (.lst (xs ++ zs)))) : rCat (.ref p) (.ref b) H Q := ⟨p, b, xs, zs, rfl, rfl, h, h', hl, q⟩
theorem e_seq (q : t { D with nx := u D } σ H) : tSeq t u D σ H := q
theorem e_next (q : D.nx σ H) : tNext D σ H := q
theorem e_ret (q : te σ H D.rt) : tRet te D σ H := q
theorem e_asg {g : TG} (q : te σ H fun x H1 => g x σ H1 D.nx) : tAsg te g D σ H := q
theorem e_gName {Q : L2.St → Hp → Prop} (q : Q (σ.set n (some v)) H) : gName n v σ H Q := q
theorem e_gSub {ti : TE} {s : TSet} {Q : L2.St → Hp → Prop} (q : ta σ H fun o H1 => ti σ H1 fun i H2 => s o i v H2 fun H3 => Q σ H3) : gSub ta ti s v σ H Q := q
theorem e_ifS (q : c σ H fun k H1 => if k = true then t D σ H1 else u D σ H1) : tIfS c t u D σ H := q
theorem e_drop (q : te σ H fun _ H1 => D.nx σ H1) : tDrop te D σ H := q
theorem e_par {a b : Nat} (q : ar σ H fun vs H1 => ∃ v w, vs = [v, w] ∧ D.nx ((σ.set a (some v)).set b (some w)) H1) : tPar a b ar D σ H := q
theorem e_two {v w : V} {P : V → V → Prop} (q : P v w) : ∃ a b, [v, w] = [a, b] ∧ P a b := ⟨v, w, rfl, q⟩
theorem e_ite {b : Bool} {P R : Prop} (h1 : b = true → P) (h2 : b = false → R) : if b = true then P else R := by
  cases b with
  | true =>
    rw [if_pos rfl]
    exact h1 rfl
  | false =>
    rw [if_neg Bool.false_ne_true]
    exact h2 rfl
theorem e_yes {b : Bool} {P R : Prop} (h : b = true) (p : P) : if b = true then P else R := by
  rw [if_pos h]
  exact p
theorem e_no {b : Bool} {P R : Prop} (h : b = false) (p : R) : if b = true then P else R := by
  rw [h, if_neg Bool.false_ne_true]
  exact p
theorem e_int1 (q : Q (.int i) H) : (∃ i', [V.int i] = [V.int i'] ∧ Q (.int i') H) ∨ ∃ k, [V.int i] = [V.bl k] ∧ Q (.int (if k then 1 else 0)) H := .inl ⟨i, rfl, q⟩
theorem e_one {P : Int → Prop} (q : P i) : ∃ i', [V.int i] = [V.int i'] ∧ P i' := ⟨i, rfl, q⟩
theorem e_lenL {p : Addr} {xs : List V} (h : SqL K H p xs) (q : Q (.int xs.length) H) : ∃ p' ys, [V.ref p] = [V.ref p'] ∧ (SqL K H p' ys ∨ SqT K H p' ys) ∧ Q (.int ys.length) H := ⟨p, xs, rfl, .inl h, q⟩
theorem e_lenT {p : Addr} {xs : List V} (h : SqT K H p xs) (q : Q (.int xs.length) H) : ∃ p' ys, [V.ref p] = [V.ref p'] ∧ (SqL K H p' ys ∨ SqT K H p' ys) ∧ Q (.int ys.length) H := ⟨p, xs, rfl, .inr h, q⟩
theorem e_sl {r : V → Option Int → Option Int → Hp → VK → Prop} {tl th : TO} (q : te σ H fun x H1 => tl σ H1 fun l H2 => th σ H2 fun u H3 => r x l u H3 Q) : tSl r te tl th σ H Q := q
theorem e_noPart {Q : Option Int → Hp → Prop} (q : Q none H) : tNoPart σ H Q := q
theorem e_part {Q : Option Int → Hp → Prop} (q : te σ H fun x H1 => ∃ i, x = .int i ∧ Q (some i) H1) : tPart te σ H Q := q
theorem e_vint {P : Int → Prop} (q : P i) : ∃ i', V.int i = V.int i' ∧ P i' := ⟨i, rfl, q⟩
theorem e_vbl {b : Bool} {P : Bool → Prop} (q : P b) : ∃ i', V.bl b = V.bl i' ∧ P i' := ⟨b, rfl, q⟩
theorem e_BM {T : String} {r : V → List V → Hp → VK → Prop} (q : te σ H fun x H1 => tyV K T x H1 ∧ ar σ H1 fun xs H2 => r x xs H2 Q) : tBM K T r te ar σ H Q := q
theorem e_BM0 {T : String} {r : V → List V → Hp → VK → Prop} (q : te σ H fun x H1 => tyV K T x H1 ∧ r x [] H1 Q) : tBM0 K T r te σ H Q := q
end
theorem call_intI {X : Cx} : CallR X (.type "int") (fun xs H Q => ∃ i, xs = [V.int i] ∧ Q (.int i) H) := fun pins s σ H vs us Q I r h => call_int1 pins s σ H vs us Q I r (.inl h)
theorem sz (n : Nat) (h : n ≤ 100000 := by decide) : n ≤ sizeLine := Nat.le_trans h (by rw [sizeLine_eq]; decide)
end WkS
/-! Constants of the module: tuples of ints, built-ins by name. -/
namespace WkH
open PySem PySem.Spec PyProof.Rows L2
def isInts : List Value → List Int → Bool
  | [], [] => true
  | .int j _ :: us, i :: ns => decide (j = i) && isInts us ns
  | _, _ => false
theorem isInts_ok : ∀ {us : List Value} {ns : List Int}, isInts us ns = true → Vals (ns.map V.int) us
  | [], [], _ => .nil
  | .int j t :: us, i :: ns, c => by
    obtain ⟨c1, c2⟩ := Bool.and_eq_true_iff.mp c
    exact .cons ⟨t, by rw [of_decide_eq_true c1]⟩ (isInts_ok c2)
def tupB (K : PySem.W.Frag) (a : Addr) (ns : List Int) : Bool := match K.lookup a with
  | some ⟨.type t, _, .seq its _, _⟩ => decide (t = "tuple") && (Nat.ble its.size 100000 && isInts its.toList ns)
  | _ => false
theorem tupB_ok {K : PySem.W.Frag} {a : Addr} {ns : List Int} (c : tupB K a ns = true) (H : Hp) : SqT K H a (ns.map V.int) := by
  unfold tupB at c
  split at c
  · rename_i t d its n sl hl
    obtain ⟨c1, c⟩ := Bool.and_eq_true_iff.mp c
    obtain ⟨c2, c3⟩ := Bool.and_eq_true_iff.mp c
    refine .inr ⟨_, its, n, hl, by rw [of_decide_eq_true c1], rfl, Nat.le_trans (Nat.le_of_ble_eq_true c2) (by rw [sizeLine_eq]; decide), isInts_ok c3⟩
  · cases c
def nameB (K : PySem.W.Frag) (x : Str) (v : Value) : Bool := decide (PySem.W.nsIn K mainGlobals x = some (some v))
theorem nameB_ok {K : PySem.W.Frag} {h : Heap} {mg : Str → Option Value} (X : K.In h) (G : h.Ns mainGlobals mg) {x : Str} {v : Value} (c : nameB K x v = true) : mg x = some v := PySem.W.mg_of X G (of_decide_eq_true c)
end WkH
namespace K35
open PySem PySem.Spec PyProof.Rows L2 WkH WkE WkQ
def top (i : Nat) : Stmt := PySem.Challenge.pw_workwide_k35_searches.main.body.getD i (.Pass ⟨0, 0, 0, 0⟩)
abbrev R : PySem.W.OpenRow := PySem.W.OpenLaw.row PySem.Challenge.rw_workwide_k35_searches
abbrev vw : PySem.Program := PySem.W.view R.prog [0, 71]
def asn : List Addr := ([3, 1, 2, 52, 51, 72, 71, 69, 68, 91, 90, 88, 87, 110, 109, 107, 106, 129, 128, 126, 125, 138, 137, 145, 144, 152, 151, 161, 160, 166, 165, 173, 172, 180, 179, 187, 186, 194, 193, 201] : List Addr) ++ ([200, 208, 207, 215, 214, 222, 221, 227, 226, 234, 233, 239, 238, 246, 245, 251, 250, 258, 257, 263, 262, 270, 269, 277, 276, 284, 283, 289, 288, 296, 295, 301, 300, 308, 307, 315, 314, 322, 321, 329] : List Addr) ++ ([328, 336, 335, 341, 340, 348, 347, 355, 354, 362, 361, 369, 368, 376, 375, 383, 382, 390, 389, 395, 394, 400, 399, 407, 406, 412, 411, 417, 416, 424, 423, 431, 430, 436, 435, 441, 440, 446, 445, 453] : List Addr) ++ ([452, 460, 459, 465, 464, 470, 469, 477, 476, 484, 483, 489, 488, 153, 154] : List Addr)
def d_is_integer : DefL := ⟨138, "is_integer", "is_integer", defArgs (top 8), defBody (top 8), defScope (top 8)⟩
def d_is_within : DefL := ⟨145, "is_within", "is_within", defArgs (top 9), defBody (top 9), defScope (top 9)⟩
def d_is_tuple : DefL := ⟨152, "is_tuple", "is_tuple", defArgs (top 10), defBody (top 10), defScope (top 10)⟩
def d_reduced : DefL := ⟨161, "reduced", "reduced", defArgs (top 14), defBody (top 14), defScope (top 14)⟩
def d_is_fraction : DefL := ⟨166, "is_fraction", "is_fraction", defArgs (top 15), defBody (top 15), defScope (top 15)⟩
def d_add : DefL := ⟨173, "add", "add", defArgs (top 16), defBody (top 16), defScope (top 16)⟩
def d_subtract : DefL := ⟨180, "subtract", "subtract", defArgs (top 17), defBody (top 17), defScope (top 17)⟩
def d_multiply : DefL := ⟨187, "multiply", "multiply", defArgs (top 18), defBody (top 18), defScope (top 18)⟩
def d_divide : DefL := ⟨194, "divide", "divide", defArgs (top 19), defBody (top 19), defScope (top 19)⟩
def d_is_below : DefL := ⟨201, "is_below", "is_below", defArgs (top 20), defBody (top 20), defScope (top 20)⟩
def d_greater_of : DefL := ⟨208, "greater_of", "greater_of", defArgs (top 21), defBody (top 21), defScope (top 21)⟩
def d_greatest : DefL := ⟨215, "greatest", "greatest", defArgs (top 22), defBody (top 22), defScope (top 22)⟩
def d_sum_of : DefL := ⟨222, "sum_of", "sum_of", defArgs (top 23), defBody (top 23), defScope (top 23)⟩
def d_ascending : DefL := ⟨227, "ascending", "ascending", defArgs (top 24), defBody (top 24), defScope (top 24)⟩
def d_is_box_row : DefL := ⟨234, "is_box_row", "is_box_row", defArgs (top 27), defBody (top 27), defScope (top 27)⟩
def d_is_box : DefL := ⟨239, "is_box", "is_box", defArgs (top 28), defBody (top 28), defScope (top 28)⟩
def d_check_box : DefL := ⟨246, "check_box", "check_box", defArgs (top 29), defBody (top 29), defScope (top 29)⟩
def d_drawn_by : DefL := ⟨251, "drawn_by", "drawn_by", defArgs (top 30), defBody (top 30), defScope (top 30)⟩
def d_check_search : DefL := ⟨258, "check_search", "check_search", defArgs (top 33), defBody (top 33), defScope (top 33)⟩
def d_bar_of : DefL := ⟨263, "bar_of", "bar_of", defArgs (top 34), defBody (top 34), defScope (top 34)⟩
def d_bar : DefL := ⟨270, "bar", "bar", defArgs (top 35), defBody (top 35), defScope (top 35)⟩
def d_check_search_worth : DefL := ⟨277, "check_search_worth", "check_search_worth", defArgs (top 36), defBody (top 36), defScope (top 36)⟩
def d_search_worth : DefL := ⟨284, "search_worth", "search_worth", defArgs (top 37), defBody (top 37), defScope (top 37)⟩
def d_mean_draws : DefL := ⟨289, "mean_draws", "mean_draws", defArgs (top 38), defBody (top 38), defScope (top 38)⟩
def d_check_draws : DefL := ⟨296, "check_draws", "check_draws", defArgs (top 39), defBody (top 39), defScope (top 39)⟩
def d_few_draws : DefL := ⟨301, "few_draws", "few_draws", defArgs (top 40), defBody (top 40), defScope (top 40)⟩
def d_few_without : DefL := ⟨308, "few_without", "few_without", defArgs (top 41), defBody (top 41), defScope (top 41)⟩
def d_law_cell : DefL := ⟨315, "_law_cell", "_law_cell", defArgs (top 43), defBody (top 43), defScope (top 43)⟩
def d_law_draw : DefL := ⟨322, "_law_draw", "_law_draw", defArgs (top 44), defBody (top 44), defScope (top 44)⟩
def d_law_take : DefL := ⟨329, "_law_take", "_law_take", defArgs (top 45), defBody (top 45), defScope (top 45)⟩
def d_law_mixed : DefL := ⟨336, "_law_mixed", "_law_mixed", defArgs (top 46), defBody (top 46), defScope (top 46)⟩
def d_law_same : DefL := ⟨341, "_law_same", "_law_same", defArgs (top 47), defBody (top 47), defScope (top 47)⟩
def d_law_low : DefL := ⟨348, "_law_low", "_law_low", defArgs (top 48), defBody (top 48), defScope (top 48)⟩
def d_law_plus : DefL := ⟨355, "_law_plus", "_law_plus", defArgs (top 49), defBody (top 49), defScope (top 49)⟩
def d_law_minus : DefL := ⟨362, "_law_minus", "_law_minus", defArgs (top 50), defBody (top 50), defScope (top 50)⟩
def d_law_times : DefL := ⟨369, "_law_times", "_law_times", defArgs (top 51), defBody (top 51), defScope (top 51)⟩
def d_law_over : DefL := ⟨376, "_law_over", "_law_over", defArgs (top 52), defBody (top 52), defScope (top 52)⟩
def d_law_less : DefL := ⟨383, "_law_less", "_law_less", defArgs (top 53), defBody (top 53), defScope (top 53)⟩
def d_law_sum : DefL := ⟨390, "_law_sum", "_law_sum", defArgs (top 54), defBody (top 54), defScope (top 54)⟩
def d_law_is_fraction : DefL := ⟨395, "_law_is_fraction", "_law_is_fraction", defArgs (top 55), defBody (top 55), defScope (top 55)⟩
def d_law_beside : DefL := ⟨400, "_law_beside", "_law_beside", defArgs (top 56), defBody (top 56), defScope (top 56)⟩
def d_law_ascending : DefL := ⟨407, "_law_ascending", "_law_ascending", defArgs (top 57), defBody (top 57), defScope (top 57)⟩
def d_law_box : DefL := ⟨412, "_law_box", "_law_box", defArgs (top 58), defBody (top 58), defScope (top 58)⟩
def d_law_is_box : DefL := ⟨417, "_law_is_box", "_law_is_box", defArgs (top 59), defBody (top 59), defScope (top 59)⟩
def d_law_bad_box : DefL := ⟨424, "_law_bad_box", "_law_bad_box", defArgs (top 60), defBody (top 60), defScope (top 60)⟩
def d_law_more : DefL := ⟨431, "_law_more", "_law_more", defArgs (top 61), defBody (top 61), defScope (top 61)⟩
def d_law_few : DefL := ⟨436, "_law_few", "_law_few", defArgs (top 62), defBody (top 62), defScope (top 62)⟩
def d_law_below : DefL := ⟨441, "_law_below", "_law_below", defArgs (top 63), defBody (top 63), defScope (top 63)⟩
def d_law_without : DefL := ⟨446, "_law_without", "_law_without", defArgs (top 64), defBody (top 64), defScope (top 64)⟩
def d_law_called : DefL := ⟨453, "_law_called", "_law_called", defArgs (top 65), defBody (top 65), defScope (top 65)⟩
def d_law_twice : DefL := ⟨460, "_law_twice", "_law_twice", defArgs (top 66), defBody (top 66), defScope (top 66)⟩
def d_law_bar : DefL := ⟨465, "_law_bar", "_law_bar", defArgs (top 67), defBody (top 67), defScope (top 67)⟩
def d_law_search_right : DefL := ⟨470, "_law_search_right", "_law_search_right", defArgs (top 68), defBody (top 68), defScope (top 68)⟩
def d_law_long_right : DefL := ⟨477, "_law_long_right", "_law_long_right", defArgs (top 69), defBody (top 69), defScope (top 69)⟩
def d_law_refused_right : DefL := ⟨484, "_law_refused_right", "_law_refused_right", defArgs (top 70), defBody (top 70), defScope (top 70)⟩
def dlaw : DefL := ⟨489, "law", "law", defArgs (top 71), defBody (top 71), defScope (top 71)⟩
def i_InvalidSure : DefL := ⟨69, "__init__", "InvalidSure.__init__", defArgs (inClass (top 3) 0), defBody (inClass (top 3) 0), defScope (inClass (top 3) 0)⟩
def i_InvalidBox : DefL := ⟨88, "__init__", "InvalidBox.__init__", defArgs (inClass (top 4) 0), defBody (inClass (top 4) 0), defScope (inClass (top 4) 0)⟩
def i_InvalidCount : DefL := ⟨107, "__init__", "InvalidCount.__init__", defArgs (inClass (top 5) 0), defBody (inClass (top 5) 0), defScope (inClass (top 5) 0)⟩
def i_InvalidCost : DefL := ⟨126, "__init__", "InvalidCost.__init__", defArgs (inClass (top 6) 0), defBody (inClass (top 6) 0), defScope (inClass (top 6) 0)⟩
def fn : List DefL := ([d_is_integer, d_is_within, d_is_tuple, d_reduced, d_is_fraction, d_add, d_subtract, d_multiply, d_divide, d_is_below, d_greater_of, d_greatest, d_sum_of, d_ascending, d_is_box_row, d_is_box, d_check_box, d_drawn_by, d_check_search, d_bar_of, d_bar, d_check_search_worth, d_search_worth, d_mean_draws, d_check_draws, d_few_draws, d_few_without, d_law_cell, d_law_draw, d_law_take, d_law_mixed, d_law_same, d_law_low, d_law_plus, d_law_minus, d_law_times, d_law_over, d_law_less, d_law_sum, d_law_is_fraction] : List DefL) ++ ([d_law_beside, d_law_ascending, d_law_box, d_law_is_box, d_law_bad_box, d_law_more, d_law_few, d_law_below, d_law_without, d_law_called, d_law_twice, d_law_bar, d_law_search_right, d_law_long_right, d_law_refused_right, dlaw, i_InvalidSure, i_InvalidBox, i_InvalidCount, i_InvalidCost] : List DefL)
def clss : List (Str × Addr × Addr × Option Str) := ([("InvalidSure", 72, 69, some "given"), ("InvalidBox", 91, 88, some "given"), ("InvalidCount", 110, 107, some "given"), ("InvalidCost", 129, 126, some "given")] : List (Str × Addr × Addr × Option Str))
def globs : List (Str × Addr) := ([("is_integer", 138), ("is_within", 145), ("is_tuple", 152), ("reduced", 161), ("is_fraction", 166), ("add", 173), ("subtract", 180), ("multiply", 187), ("divide", 194), ("is_below", 201), ("greater_of", 208), ("greatest", 215), ("sum_of", 222), ("ascending", 227), ("is_box_row", 234), ("is_box", 239), ("check_box", 246), ("drawn_by", 251), ("check_search", 258), ("bar_of", 263)] : List (Str × Addr)) ++ ([("bar", 270), ("check_search_worth", 277), ("search_worth", 284), ("mean_draws", 289), ("check_draws", 296), ("few_draws", 301), ("few_without", 308), ("_law_cell", 315), ("_law_draw", 322), ("_law_take", 329), ("_law_mixed", 336), ("_law_same", 341), ("_law_low", 348), ("_law_plus", 355), ("_law_minus", 362), ("_law_times", 369), ("_law_over", 376), ("_law_less", 383), ("_law_sum", 390), ("_law_is_fraction", 395)] : List (Str × Addr)) ++ ([("_law_beside", 400), ("_law_ascending", 407), ("_law_box", 412), ("_law_is_box", 417), ("_law_bad_box", 424), ("_law_more", 431), ("_law_few", 436), ("_law_below", 441), ("_law_without", 446), ("_law_called", 453), ("_law_twice", 460), ("_law_bar", 465), ("_law_search_right", 470), ("_law_long_right", 477), ("_law_refused_right", 484), ("law", 489), ("WorkError", 52), ("ZERO", 153), ("ONE", 154)] : List (Str × Addr))
def bltn : List Str := (["ValueError", "abs", "all", "bool", "int", "isinstance", "len", "list", "max", "min", "range", "repr", "set", "sorted", "str", "sum", "tuple"] : List Str)
def tups : List (Addr × List Int) := ([(153, [0, 1]), (154, [1, 1])] : List (Addr × List Int))
def nums : List (Str × Int) := ([("MOST_WORTHS", 32), ("MOST_DRAWS", 12)] : List (Str × Int))
def loose : List PySem.Str := (["WorkError", "InvalidSure", "InvalidBox", "InvalidCount", "InvalidCost", "is_integer", "is_within", "is_tuple", "ZERO", "ONE", "reduced", "is_fraction", "add", "subtract", "multiply", "divide", "is_below", "greater_of", "greatest", "sum_of", "ascending", "MOST_WORTHS", "is_box_row", "is_box", "check_box", "drawn_by", "MOST_DRAWS", "check_search", "bar_of", "bar"] : List PySem.Str) ++ (["check_search_worth", "search_worth", "mean_draws", "check_draws", "few_draws", "few_without", "_law_cell", "_law_draw", "_law_take", "_law_mixed", "_law_same", "_law_low", "_law_plus", "_law_minus", "_law_times", "_law_over", "_law_less", "_law_sum", "_law_is_fraction", "_law_beside", "_law_ascending", "_law_box", "_law_is_box", "_law_bad_box", "_law_more", "_law_few", "_law_below", "_law_without", "_law_called", "_law_twice"] : List PySem.Str) ++ (["_law_bar", "_law_search_right", "_law_long_right", "_law_refused_right"] : List PySem.Str)
def exG (K : PySem.W.Frag) : Bool := globs.all (fun q => gloB K q.1 q.2) && (bltn.all (fun x => freeB K x) && (baseB K 52 && (sysB K && (tups.all (fun q => tupB K q.1 q.2) && (nums.all (fun q => intB K q.1 q.2) && nameB K "gcd" (.builtin "math.gcd"))))))
def exT (K : PySem.W.Frag) : Bool := (["int", "str", "NoneType", "bool", "tuple", "list", "dict"] : List String).all fun t => clss.all fun q => decide (PySem.W.kitOne K (.type t) (.ref q.2.1) = some false)
def exE (K : PySem.W.Frag) : Bool := clss.all fun q => gloB K q.1 q.2.1 && (excB K q.2.1 && (askB K q.2.1 && (xfB K q.2.1 && (iniB K q.2.1 q.2.2.1 q.2.2.2 && (kitB K q.2.1 (.ref 52) true && clss.all (fun r => decide (PySem.W.exmOne K (.ref q.2.1) (.ref r.2.1) = some (Nat.beq q.2.1 r.2.1))))))))
def ex (K : PySem.W.Frag) : Bool := exG K && (exT K && exE K)
end K35
/-! What does not change; data that does not change. -/
namespace WkQ
open PySem PySem.Spec PyProof.Rows L2
theorem Rd.mono {H H' : Hp} (e : Same H H') {a : Addr} {u : HO} (h : Rd H a u) : Rd H' a u := h.elim (fun z => .inl (e _ _ z)) fun ⟨o, z⟩ => .inr ⟨o, e _ _ z⟩
theorem SqT.mono {K : PySem.W.Frag} {H H' : Hp} (e : Same H H') {a : Addr} {xs : List V} (h : SqT K H a xs) : SqT K H' a xs := h.elim (fun z => .inl (Rd.mono e z)) .inr
mutual
theorem Dq.mono {K : PySem.W.Frag} {H H' : Hp} (e : Same H H') : ∀ {v : V} {d : PyData}, Dq K H v d → Dq K H' v d
  | _, _, .non => .non
  | _, _, .bl b => .bl b
  | _, _, .int i => .int i
  | _, _, .str x => .str x
  | _, _, .lst h1 h2 => .lst (e _ _ h1) (DqAll.mono e h2)
  | _, _, .tup h1 h2 => .tup (SqT.mono e h1) (DqAll.mono e h2)
  | _, _, .dic h1 h2 h3 => .dic (e _ _ h1) h2 (DqAll.mono e h3)
theorem DqAll.mono {K : PySem.W.Frag} {H H' : Hp} (e : Same H H') : ∀ {vs : List V} {ds : List PyData}, DqAll K H vs ds → DqAll K H' vs ds
  | _, _, .nil => .nil
  | _, _, .cons h1 h2 => .cons (Dq.mono e h1) (DqAll.mono e h2)
end
theorem DqAll.length {K : PySem.W.Frag} {H : Hp} : ∀ {vs : List V} {ds : List PyData}, DqAll K H vs ds → vs.length = ds.length
  | _, _, .nil => rfl
  | _, _, .cons _ h => by rw [List.length_cons, List.length_cons, DqAll.length h]
theorem DqAll.get {K : PySem.W.Frag} {H : Hp} : ∀ {vs : List V} {ds : List PyData} {i : Nat} {d : PyData}, DqAll K H vs ds → ds[i]? = some d → ∃ v, vs[i]? = some v ∧ Dq K H v d
  | _, _, i, d, .nil, e => by cases e
  | v :: _, _, 0, d, .cons h _, e => by
    cases e
    exact ⟨v, rfl, h⟩
  | _ :: vs, _ :: ds, i + 1, d, .cons _ h, e => DqAll.get (vs := vs) (ds := ds) (i := i) h e
theorem DqAll.getV {K : PySem.W.Frag} {H : Hp} : ∀ {vs : List V} {ds : List PyData} {i : Nat} {v : V}, DqAll K H vs ds → vs[i]? = some v → ∃ d, ds[i]? = some d ∧ Dq K H v d
  | _, _, i, v, .nil, e => by cases e
  | _, d :: _, 0, v, .cons h _, e => by
    cases e
    exact ⟨d, rfl, h⟩
  | _ :: vs, _ :: ds, i + 1, v, .cons _ h, e => DqAll.getV (vs := vs) (ds := ds) (i := i) h e
theorem DqAll.append {K : PySem.W.Frag} {H : Hp} : ∀ {vs ws : List V} {ds es : List PyData}, DqAll K H vs ds → DqAll K H ws es → DqAll K H (vs ++ ws) (ds ++ es)
  | _, _, _, _, .nil, h => h
  | _, _, _, _, .cons h1 h2, h => .cons h1 (DqAll.append h2 h)
theorem DqAll.at_ {K : PySem.W.Frag} {H : Hp} {vs : List V} {ds : List PyData} {i : Int} {d : PyData} (h : DqAll K H vs ds) (e : atI ds i = some d) : ∃ v, atI vs i = some v ∧ Dq K H v d := by
  unfold atI at e ⊢
  rw [h.length]
  cases z : ixN ds.length i with
  | none =>
    rw [z] at e
    cases e
  | some j =>
    rw [z] at e
    exact h.get e
theorem DqAll.take {K : PySem.W.Frag} {H : Hp} : ∀ (n : Nat) {vs : List V} {ds : List PyData}, DqAll K H vs ds → DqAll K H (vs.take n) (ds.take n)
  | 0, _, _, _ => by
    rw [List.take_zero, List.take_zero]
    exact .nil
  | _ + 1, _, _, .nil => .nil
  | n + 1, _, _, .cons h1 h2 => .cons h1 (DqAll.take n h2)
theorem DqAll.drop {K : PySem.W.Frag} {H : Hp} : ∀ (n : Nat) {vs : List V} {ds : List PyData}, DqAll K H vs ds → DqAll K H (vs.drop n) (ds.drop n)
  | 0, _, _, h => h
  | _ + 1, _, _, .nil => .nil
  | n + 1, _, _, .cons _ h2 => DqAll.drop n h2
end WkQ
namespace WkD
open PySem PySem.Spec PyProof.Rows L2 WkH WkQ WkS
/-- what does not change: tuples, known things -/
def Keeps (H H' : Hp) : Prop := ∀ a u, ((∃ xs, u = .tup xs) ∨ ∃ o v, u = .frz o v) → H a = some u → H' a = some u
theorem Keeps.of {H H' : Hp} (e : Same H H') : Keeps H H' := fun a u _ h => e a u h
theorem Keeps.trans {H H' H2 : Hp} (e : Keeps H H') (e' : Keeps H' H2) : Keeps H H2 := fun a u st h => e' a u st (e a u st h)
theorem Keeps.upd {H : Hp} {a : Addr} {o u : HO} (h : H a = some o) (nt : ∀ xs, o ≠ .tup xs) (nf : ∀ b v, o ≠ .frz b v) : Keeps H (L2.upd H a u) := fun b x st e => by
  have : b ≠ a := fun z => by
    subst z
    rw [h] at e
    cases e
    rcases st with ⟨xs, z⟩ | ⟨y, v, z⟩
    · exact nt xs z
    · exact nf y v z
  rw [upd_ne this]
  exact e
/-! ### data that does not change -/
mutual
def steady : PyData → Bool
  | .list _ => false
  | .dict _ => false
  | .tuple ds => steadys ds
  | _ => true
def steadys : List PyData → Bool
  | [] => true
  | d :: ds => steady d && steadys ds
end
mutual
theorem Dq.keep {K : PySem.W.Frag} {G G' : Hp} (e : Keeps G G') : ∀ {v : V} {d : PyData}, Dq K G v d → steady d = true → Dq K G' v d
  | _, _, .non, _ => .non
  | _, _, .bl b, _ => .bl b
  | _, _, .int i, _ => .int i
  | _, _, .str x, _ => .str x
  | _, _, .lst _ _, h => by simp [steady] at h
  | _, _, .tup h1 h2, h => .tup (h1.elim (fun h => .inl (h.elim (fun h => .inl (e _ _ (.inl ⟨_, rfl⟩) h)) fun ⟨o, h⟩ => .inr ⟨o, e _ _ (.inr ⟨_, _, rfl⟩) h⟩)) .inr) (DqAll.keep e h2 (by simpa [steady] using h))
  | _, _, .dic _ _ _, h => by simp [steady] at h
theorem DqAll.keep {K : PySem.W.Frag} {G G' : Hp} (e : Keeps G G') : ∀ {vs : List V} {ds : List PyData}, DqAll K G vs ds → steadys ds = true → DqAll K G' vs ds
  | _, _, .nil, _ => .nil
  | _ :: _, d :: ds, .cons h1 h2, h => by
    have h' : steady d = true ∧ steadys ds = true := by simpa [steadys] using h
    exact .cons (Dq.keep e h1 h'.1) (DqAll.keep e h2 h'.2)
end
theorem steadys_append {ds es : List PyData} (h : steadys ds = true) (h' : steadys es = true) : steadys (ds ++ es) = true := by
  induction ds with
  | nil => exact h'
  | cons d ds ih =>
    have h2 : steady d = true ∧ steadys ds = true := by simpa [steadys] using h
    simp [steadys, h2.1, ih h2.2]
theorem steadys_mem {ds : List PyData} {d : PyData} (h : steadys ds = true) (m : d ∈ ds) : steady d = true := by
  induction ds with
  | nil => cases m
  | cons e ds ih =>
    have h2 : steady e = true ∧ steadys ds = true := by simpa [steadys] using h
    rcases List.mem_cons.mp m with rfl | m
    · exact h2.1
    · exact ih h2.2 m
theorem steadys_of {ds : List PyData} (h : ∀ d ∈ ds, steady d = true) : steadys ds = true := by
  induction ds with
  | nil => rfl
  | cons e ds ih => simp [steadys, h e (List.mem_cons_self ..), ih fun d hd => h d (List.mem_cons_of_mem _ hd)]
end WkD
/-! Dicts whose keys are tuples of ints, texts and tuples of these. -/
namespace WkN
open PySem PySem.Spec PyProof.Rows
/-- an item of such a key -/
inductive NK where
  | k (x : L2.Key)
  | t (xs : List L2.Key)
  deriving DecidableEq
section
variable (P : Program) (w : World)
abbrev mk' := L2.mixKind P w
def NIs (h : Heap) : NK → Value → Prop
  | .k x, v => (L2.mixKind P w).is x v = true
  | .t xs, v => ∃ a, v = .ref a ∧ IsTupleKey (L2.mixKind P w) h xs a
inductive NAre (h : Heap) : List NK → List Value → Prop
  | nil : NAre h [] []
  | cons {x : NK} {v : Value} {xs : List NK} {vs : List Value} : NIs P w h x v → NAre h xs vs → NAre h (x :: xs) (v :: vs)
def IsN (h : Heap) (ks : List NK) (a : Addr) : Prop := ∃ (ob : Obj) (its : Array Value) (n : Nat), h.get? a = some ob ∧ ob.cls = .type "tuple" ∧ ob.data = .seq its n ∧ NAre P w h ks its.toList
def iHash : NK → Int
  | .k x => (L2.mixKind P w).hash x
  | .t xs => tupleKeyHash (L2.mixKind P w) xs
def iDraws : NK → Nat
  | .k _ => 1
  | .t xs => xs.length + 1
def nHash (ks : List NK) : Int := reduceHash (Builtin.Tuple.tupleHashOf (ks.map (iHash P w)))
def nDraws : List NK → Nat
  | [] => 1
  | x :: xs => iDraws x + nDraws xs
end
section
variable {P : Program} {w : World} {h h' : Heap} {A : Around} {E : Value → Shared → Prop} {s : Shared}
theorem NIs.inj : ∀ {x y : NK} {v : Value}, NIs P w h x v → NIs P w h y v → x = y
  | .k x, .k y, v, a, b => by rw [(L2.mixKind P w).inj v x y a b]
  | .t xs, .t ys, v, ⟨a, e, p⟩, ⟨b, e', q⟩ => by
    subst e
    cases e'
    rw [p.inj q]
  | .k x, .t ys, v, p, ⟨b, e, q⟩ => by
    subst e
    exact absurd ((L2.mixKind P w).byValue _ _ p) (by simp [carriedByValue])
  | .t xs, .k y, v, ⟨b, e, q⟩, p => by
    subst e
    exact absurd ((L2.mixKind P w).byValue _ _ p) (by simp [carriedByValue])
theorem NAre.inj {xs ys : List NK} {vs : List Value} (a : NAre P w h xs vs) (b : NAre P w h ys vs) : xs = ys := by
  induction a generalizing ys with
  | nil =>
    cases b
    rfl
  | cons p _ ih =>
    cases b with
    | cons q t => rw [p.inj q, ih t]
theorem NAre.len {xs : List NK} {vs : List Value} (a : NAre P w h xs vs) : xs.length = vs.length := by
  induction a with
  | nil => rfl
  | cons _ _ ih => rw [List.length_cons, List.length_cons, ih]
theorem NIs.but {d : Addr} {o : Obj} {es : Array DictEntry} {ep : Nat} (ho : h.get? d = some o) (hd : o.data = .dict es ep) (sb : Heap.SameBut d h h') : ∀ {x : NK} {v : Value}, NIs P w h x v → NIs P w h' x v
  | .k _, _, p => p
  | .t _, _, ⟨a, e, p⟩ => ⟨a, e, p.keeps ho hd sb⟩
theorem NAre.but {d : Addr} {o : Obj} {es : Array DictEntry} {ep : Nat} (ho : h.get? d = some o) (hd : o.data = .dict es ep) (sb : Heap.SameBut d h h') {xs : List NK} {vs : List Value} (a : NAre P w h xs vs) : NAre P w h' xs vs := by
  induction a with
  | nil => exact .nil
  | cons p _ ih => exact .cons (p.but ho hd sb) ih
theorem IsN.ty {ks : List NK} {a : Addr} (x : IsN P w s.heap ks a) : s.TypeIs (.ref a) "tuple" :=
  let ⟨ob, _, _, e, c, _⟩ := x
  ⟨ob, e, c⟩
theorem IsN.one {ks ls : List NK} {a : Addr} (x : IsN P w h ks a) (y : IsN P w h ls a) : ks = ls := by
  obtain ⟨o1, i1, n1, e1, _, d1, z1⟩ := x
  obtain ⟨o2, i2, n2, e2, _, d2, z2⟩ := y
  cases e1.symm.trans e2
  cases d1.symm.trans d2
  exact z1.inj z2
theorem IsN.but {ks : List NK} {a d : Addr} {o : Obj} {es : Array DictEntry} {ep : Nat} (x : IsN P w h ks a) (ho : h.get? d = some o) (hd : o.data = .dict es ep) (sb : Heap.SameBut d h h') : IsN P w h' ks a := by
  obtain ⟨o1, i1, n1, e1, c1, d1, z1⟩ := x
  have ne : a ≠ d := fun z => by
    subst z
    cases e1.symm.trans ho
    cases d1.symm.trans hd
  exact ⟨o1, i1, n1, (sb.2 a ne).trans e1, c1, d1, z1.but ho hd sb⟩
theorem item_hash {x : NK} {v : Value} {Q : Int → Shared → Prop} (hu : A.units < cLine) (hk : NIs P w s.heap x v) (q : Q (iHash P w x) { s with toks := s.toks + iDraws x }) : wpAny (model P w) A (pyHash v) Q E s := by
  cases x with
  | k x => exact (L2.mixKind P w).pyHash hk q
  | t xs =>
    obtain ⟨a, e, p⟩ := hk
    subst e
    exact wpAny_pyHash_tuple hu p q
theorem nDraws_append (xs : List NK) (x : NK) : nDraws (xs ++ [x]) = nDraws xs + iDraws x := by
  induction xs with
  | nil =>
    show iDraws x + 1 = 1 + iDraws x
    omega
  | cons y ys ih =>
    show iDraws y + nDraws (ys ++ [x]) = iDraws y + nDraws ys + iDraws x
    omega
theorem key_hash {ks : List NK} {a : Addr} {Q : Int → Shared → Prop} (hu : A.units + 1 < cLine) (hk : IsN P w s.heap ks a) (q : Q (nHash P w ks) { s with toks := s.toks + nDraws ks }) :
    wpAny (model P w) A (pyHash (.ref a)) Q E s := by
  have ty := hk.ty
  have hu0 : A.units < cLine := by omega
  obtain ⟨ob, its, n, e1, _, e2, all⟩ := hk
  unfold pyHash
  try unfold pyHashByItsType
  refine wpAny_bind (wpAny_cRoomFor_or (.inr hu0) (wpAny_bind (wpAny_specialOf ty F.slot_tuple_hash.lookup ?_)))
  show wpAny _ _ (if (some (Value.builtin "tuple.__hash__") == some Value.none) = true then _ else _) _ _ _
  rw [beq_builtin_none, if_neg Bool.false_ne_true]
  refine wpAny_bind (wpAny_specialOf ty F.slot_tuple_hash.lookup ?_)
  show wpAny _ _ (callSpecialIfBoundUnlessNone? (.ref a) "__hash__" _ >>= _) _ _ _
  have lk := @F.slot_tuple_hash
  refine wpAny_bind (wpAny_callSpecialIfBoundUnlessNone?_slot ty lk (wpAny_call_entry lk ty F.entry_tuple_hash ?_ (F.args_tuple_hash_1 _)))
  show wpAny _ _ (Builtin.Tuple.tupleItemsOf (.ref a) >>= _) _ _ _
  refine wpAny_bind (wpAny_tupleItemsOf e1 e2 (wpAny_bind ?_))
  rw [← Array.forIn_toList]
  refine wpAny_forIn_list _ (fun rest (b : Array Int) s1 => ∃ gone left, ks = gone ++ left ∧ NAre P w s.heap left rest ∧ b.toList = gone.map (iHash P w) ∧ s1 = { s with toks := s.toks + (nDraws gone - 1) }) _ ?_ ?_ _ _ ⟨[], ks, rfl, all, rfl, rfl⟩
  · rintro v rest b s1 ⟨gone, left, rfl, hl, eb, rfl⟩
    cases hl with
    | @cons x _ xs _ p hl =>
      have step : nDraws gone - 1 + iDraws x = nDraws (gone ++ [x]) - 1 := by
        have : 1 ≤ nDraws gone := by
          clear eb hl p e2 all q
          induction gone with
          | nil => exact Nat.le_refl _
          | cons y ys ih => exact Nat.le_trans ih (Nat.le_add_left _ _)
        rw [nDraws_append]
        omega
      refine wpAny_bind (item_hash (x := x) hu p ?_)
      have fin : ∃ g l, gone ++ x :: xs = g ++ l ∧ NAre P w s.heap l rest ∧ (b.push (iHash P w x)).toList = g.map (iHash P w) ∧ ({ s with toks := s.toks + (nDraws gone - 1) + iDraws x } : Shared) = { s with toks := s.toks + (nDraws g - 1) } :=
        ⟨gone ++ [x], xs, by simp, hl, by simp [eb], by rw [Nat.add_assoc, step]⟩
      first
        | exact wpAny_pure fin
        | exact wpAny_bind (wpAny_pure (wpAny_pure fin))
  · rintro b s1 ⟨gone, left, rfl, hl, eb, rfl⟩
    cases hl
    rw [List.append_nil] at q
    show wpAny _ _ (retInt (Builtin.Tuple.tupleHashOf b.toList)) _ _ _
    rw [eb]
    have pos : 1 ≤ nDraws gone := by
      clear eb e2 all q
      induction gone with
      | nil => exact Nat.le_refl _
      | cons y ys ih => exact Nat.le_trans ih (Nat.le_add_left _ _)
    have tk : s.toks + (nDraws gone - 1) + 1 = s.toks + nDraws gone := by omega
    refine wpAny_ret_mkInt ?_
    show wpAny _ _ (if (decide (-(2 : Int) ^ 63 ≤ Builtin.Tuple.tupleHashOf (gone.map (iHash P w))) && decide (Builtin.Tuple.tupleHashOf (gone.map (iHash P w)) < 2 ^ 63)) = true then _ else _) Q E _
    unfold nHash reduceHash at q
    by_cases small : (decide (-(2 : Int) ^ 63 ≤ Builtin.Tuple.tupleHashOf (gone.map (iHash P w))) && decide (Builtin.Tuple.tupleHashOf (gone.map (iHash P w)) < 2 ^ 63)) = true
    · rw [if_pos small]
      rw [if_pos small] at q
      exact wpAny_pure (by simpa [tk] using q)
    · rw [if_neg small]
      rw [if_neg small] at q
      exact wpAny_bind (wpAny_rule (wpAny_pure (by simpa [tk] using q)))
def NK.isT : NK → Bool
  | .k _ => false
  | .t _ => true
theorem item_eq {x y : NK} {u v : Value} {Q : Bool → Shared → Prop} (hu : A.units < cLine) (sh : x.isT = y.isT) (hx : NIs P w s.heap x u) (hy : NIs P w s.heap y v) (q : Q (decide (x = y)) s) : wpAny (model P w) A (eqBool u v) Q E s := by
  match x, y, sh with
  | .k x, .k y, _ =>
    refine (L2.mixKind P w).eqBool hx hy ?_
    have e : decide (NK.k x = NK.k y) = decide (x = y) := decide_eq_decide.mpr ⟨fun z => by injection z, fun z => by rw [z]⟩
    rw [← e]
    exact q
  | .t xs, .t ys, _ =>
    obtain ⟨a, ea, pa⟩ := hx
    obtain ⟨b, eb, pb⟩ := hy
    subst ea
    subst eb
    refine wpAny_eqBool_tuple hu pa pb ?_
    have e : decide (NK.t xs = NK.t ys) = decide (xs = ys) := decide_eq_decide.mpr ⟨fun z => by injection z, fun z => by rw [z]⟩
    rw [← e]
    exact q
theorem key_eq_in {x y : List NK} {a b : Addr} {R : Fin → Shared → Prop} (hu : A.units < cLine) (sh : x.map NK.isT = y.map NK.isT) (hx : IsN P w s.heap x a) (hy : IsN P w s.heap y b) (q : R (.done (.ret (.bool (decide (x = y))))) s) :
    wpAny (model P w) A (Builtin.«tuple.__eq__» ⟨[.ref a, .ref b], []⟩) R E s := by
  have tb := hy.ty
  obtain ⟨o1, i1, n1, e1, _, d1, z1⟩ := hx
  obtain ⟨o2, i2, n2, e2, _, d2, z2⟩ := hy
  have lx := z1.len
  have ly := z2.len
  have ll : x.length = y.length := by
    have := congrArg List.length sh
    rwa [List.length_map, List.length_map] at this
  have sz : (i1.size == i2.size) = true := by
    have e : i1.toList.length = i2.toList.length := by omega
    rw [beq_iff_eq]
    simpa using e
  show wpAny _ _ (isInstance (.ref b) (.type "tuple") >>= _) _ _ _
  refine wpAny_bind (wpAny_isInstance tb isSubtype_tuple_tuple ?_)
  simp only [Bool.not_true, Bool.false_eq_true, if_false]
  refine wpAny_bind (wpAny_tupleItemsOf e1 d1 (wpAny_bind (wpAny_tupleItemsOf e2 d2 (wpAny_bind ?_))))
  refine wpAny_forIn_list _ (fun rest (r : Option Fin × _) s1 => r.1 = none ∧ s1 = s ∧ ∃ l m us vs, rest = List.zip us vs ∧ NAre P w s.heap l us ∧ NAre P w s.heap m vs ∧ l.map NK.isT = m.map NK.isT ∧ decide (l = m) = decide (x = y)) _ ?_ ?_ _ _ ⟨rfl, rfl, x, y, i1.toList, i2.toList, rfl, z1, z2, sh, rfl⟩
  · rintro ⟨u, v⟩ rest r s1 ⟨hr, rfl, l, m, us, vs, ez, al, am, hs, hd⟩
    cases al with
    | nil => simp at ez
    | @cons k _ l us p al =>
      cases am with
      | nil => simp at ez
      | @cons j _ m vs p' am =>
        simp only [List.zip_cons_cons, List.cons.injEq, Prod.mk.injEq] at ez
        obtain ⟨⟨rfl, rfl⟩, rfl⟩ := ez
        simp only [List.map_cons, List.cons.injEq] at hs
        refine wpAny_bind (item_eq hu hs.1 p p' ?_)
        by_cases e : k = j
        · subst e
          rw [decide_eq_true rfl]
          simp only [Bool.not_true, Bool.false_eq_true, if_false]
          refine wpAny_pure ⟨rfl, rfl, l, m, us, vs, rfl, al, am, hs.2, ?_⟩
          rw [← hd]
          exact decide_eq_decide.mpr ⟨fun z => by rw [z], fun z => by injection z⟩
        · have no : decide (x = y) = false := by
            rw [← hd]
            exact decide_eq_false fun z => e (by injection z)
          rw [decide_eq_false e]
          simp only [Bool.not_false, if_true]
          rw [no] at q
          exact wpAny_bind (wpAny_pure (wpAny_pure (wpAny_pure q)))
  · rintro ⟨r1, r2⟩ s1 ⟨hr, rfl, l, m, us, vs, ez, al, am, hs, hd⟩
    simp only at hr
    subst hr
    refine wpAny_pure ?_
    show R (.done (.ret (.bool (i1.size == i2.size)))) _
    have yes : decide (x = y) = true := by
      rw [← hd]
      cases al with
      | nil =>
        cases am with
        | nil => rfl
        | cons _ _ => simp at hs
      | cons _ _ =>
        cases am with
        | nil => simp at hs
        | cons _ _ => simp at ez
    rw [sz, ← yes]
    exact q
theorem key_eq {x y : List NK} {a b : Addr} {Q : Bool → Shared → Prop} (hu : A.units + 1 < cLine) (sh : x.map NK.isT = y.map NK.isT) (hx : IsN P w s.heap x a) (hy : IsN P w s.heap y b) (q : Q (decide (x = y)) s) : wpAny (model P w) A (eqBool (.ref a) (.ref b)) Q E s := by
  unfold eqBool
  try with_reducible refine wpAny_holding ?_
  show wpAny _ _ (if (Value.ref a == Value.ref b) = true then _ else _) _ _ _
  by_cases e : (Value.ref a == Value.ref b) = true
  · rw [if_pos e]
    have e' : a = b := by
      have := eq_of_beq e
      injection this
    subst e'
    rw [hx.one hy, decide_eq_true rfl] at q
    exact wpAny_bind (wpAny_rule (wpAny_pure q))
  · rw [if_neg e]
    have lk := @F.slot_tuple_eq
    refine wpAny_bind (wpAny_richCompare_same_room (op := .Eq) hx.ty hy.ty lk (wpAny_call_entry lk hx.ty F.entry_tuple_eq (key_eq_in (A := A.in1) hu sh hx hy ?_) (F.args_tuple_eq_2 _ _)) (by omega))
    exact ⟨_, rfl, (fun z => nomatch z), wpAny_truthy_bool q⟩
theorem flat_quiet {xs : List L2.Key} {a : Addr} {n : Nat} {Q : Bool → Shared → Prop} (hk : IsTupleKey (L2.mixKind P w) s.heap xs a) (q : Q true s) : wpAny (model P w) A (eqIsQuiet (n + 1) (.ref a)) Q E s := by
  have ty := hk.typeIs
  obtain ⟨ob, its, m, e1, _, e2, all⟩ := hk
  unfold eqIsQuiet
  refine wpAny_bind (wpAny_specialOf ty F.slot_tuple_eq.lookup ?_)
  show wpAny _ _ (isInstance (.ref a) (.type "tuple") >>= _) _ _ _
  refine wpAny_bind (wpAny_isInstance ty isSubtype_tuple_tuple ?_)
  simp only [Bool.not_true, Bool.false_eq_true, if_false]
  refine wpAny_bind (wpAny_seqItems e1 e2 (wpAny_bind ?_))
  show wpAny _ _ (forIn its _ _) _ _ _
  rw [← Array.forIn_toList]
  refine wpAny_forIn_list _ (fun rest (r : Option Bool × _) s1 => r.1 = none ∧ s1 = s ∧ ∀ v ∈ rest, carriedByValue v = true) _ ?_ ?_ _ _ ⟨rfl, rfl, all.byValue⟩
  · rintro v rest r s1 ⟨hr, rfl, hv⟩
    rw [eqIsQuiet_byValue n (hv v (List.mem_cons_self ..))]
    refine wpAny_bind (wpAny_pure ?_)
    simp only [Bool.not_true, Bool.false_eq_true, if_false]
    exact wpAny_pure ⟨rfl, rfl, fun y hy => hv y (List.mem_cons_of_mem _ hy)⟩
  · rintro ⟨r1, r2⟩ s1 ⟨hr, rfl, _⟩
    simp only at hr
    subst hr
    exact wpAny_pure q
theorem item_quiet {x : NK} {v : Value} {n : Nat} {Q : Bool → Shared → Prop} (hk : NIs P w s.heap x v) (q : Q true s) : wpAny (model P w) A (eqIsQuiet (n + 1) v) Q E s := by
  cases x with
  | k x =>
    rw [eqIsQuiet_byValue _ ((L2.mixKind P w).byValue _ _ hk)]
    exact wpAny_pure q
  | t xs =>
    obtain ⟨a, e, p⟩ := hk
    subst e
    exact flat_quiet p q
theorem key_quiet {ks : List NK} {a : Addr} {Q : Bool → Shared → Prop} (hk : IsN P w s.heap ks a) (q : Q true s) : wpAny (model P w) A (eqIsQuiet 8 (.ref a)) Q E s := by
  have ty := hk.ty
  obtain ⟨ob, its, m, e1, _, e2, all⟩ := hk
  unfold eqIsQuiet
  refine wpAny_bind (wpAny_specialOf ty F.slot_tuple_eq.lookup ?_)
  show wpAny _ _ (isInstance (.ref a) (.type "tuple") >>= _) _ _ _
  refine wpAny_bind (wpAny_isInstance ty isSubtype_tuple_tuple ?_)
  simp only [Bool.not_true, Bool.false_eq_true, if_false]
  refine wpAny_bind (wpAny_seqItems e1 e2 (wpAny_bind ?_))
  show wpAny _ _ (forIn its _ _) _ _ _
  rw [← Array.forIn_toList]
  refine wpAny_forIn_list _ (fun rest (r : Option Bool × _) s1 => r.1 = none ∧ s1 = s ∧ ∃ l, NAre P w s.heap l rest) _ ?_ ?_ _ _ ⟨rfl, rfl, ks, all⟩
  · rintro v rest r s1 ⟨hr, rfl, l, hl⟩
    cases hl with
    | cons p hl =>
      refine wpAny_bind (item_quiet p ?_)
      simp only [Bool.not_true, Bool.false_eq_true, if_false]
      exact wpAny_pure ⟨rfl, rfl, _, hl⟩
  · rintro ⟨r1, r2⟩ s1 ⟨hr, rfl, _⟩
    simp only at hr
    subst hr
    exact wpAny_pure q
end
/-- keys of one shape: which items are tuples -/
abbrev NKey (sh : List Bool) := { ks : List NK // ks.map NK.isT = sh }
def nKind (P : Program) (w : World) (sh : List Bool) : HeapKind P w (NKey sh) where
  is := fun h k a => IsN P w h k.1 a
  hash := fun k => nHash P w k.1
  draws := fun k => nDraws k.1
  room := fun A => A.units + 1 < cLine
  inj := fun x y => Subtype.ext (x.one y)
  keeps := fun x ho hd sb => x.but ho hd sb
  pyHash := fun hu hk q => key_hash hu hk q
  eqBool := fun {A E s x y a b Q} hu hx hy q => key_eq hu (x.2.trans y.2.symm) hx hy (by
    have e : decide (x = y) = decide (x.1 = y.1) := decide_eq_decide.mpr ⟨fun z => by rw [z], fun z => Subtype.ext z⟩
    rw [← e]
    exact q)
  quiet := fun hk q => key_quiet hk q
end WkN
/-! The dict of such keys, kept in sight: made, asked, read, written. -/
namespace WkN
open PySem PySem.Spec PyProof.Rows L2 WkD
section
variable (K : PySem.W.Frag) (P : Program) (w : World) (sh : List Bool)
def RawN (a : Addr) (xs : List (NKey sh × Addr × Value)) (h : Heap) : Prop :=
  ∃ (ob : Obj) (es : Array DictEntry) (ep : Nat), h.get? a = some ob ∧ ob.ExactDict ∧ ob.data = .dict es ep ∧ es.toList = xs.map (entryOfKey (nKind P w sh)) ∧ (xs.map (·.1)).Nodup
/-- the item v of a key -/
def ItV (H : Hp) : V → NK → Prop
  | v, .k x => v = kV x
  | v, .t xs => ∃ b, v = .ref b ∧ SqT K H b (xs.map kV)
inductive ItVs (H : Hp) : List V → List NK → Prop
  | nil : ItVs H [] []
  | cons {v : V} {x : NK} {vs : List V} {xs : List NK} : ItV K H v x → ItVs H vs xs → ItVs H (v :: vs) (x :: xs)
/-- the key ks stands at q -/
def KeyAt (H : Hp) (q : Addr) (ks : List NK) : Prop := ∃ vs, SqT K H q vs ∧ ItVs K H vs ks
/-- the dict at a -/
def NDict (H G : Hp) (a : Addr) (kvs : List (NKey sh × V)) : Prop := kvs.length ≤ sizeLine ∧ (a == sysModules) = false ∧ (kvs.map (·.1)).Nodup ∧
  ∃ xs, H a = some (.ext (RawN P w sh a xs)) ∧ Paired (fun (p : NKey sh × V) (q : NKey sh × Addr × Value) => p.1 = q.1 ∧ KeyAt K G q.2.1 p.1.1 ∧ RelV p.2 q.2.2) kvs xs
end
section
variable {K : PySem.W.Frag} {P : Program} {w : World} {sh : List Bool} {H H' : Hp}
theorem SqT.keep {a : Addr} {xs : List V} (e : Keeps H H') (h : SqT K H a xs) : SqT K H' a xs :=
  h.elim (fun h => .inl (h.elim (fun h => .inl (e _ _ (.inl ⟨_, rfl⟩) h)) fun ⟨o, h⟩ => .inr ⟨o, e _ _ (.inr ⟨_, _, rfl⟩) h⟩)) .inr
theorem ItV.keep (e : Keeps H H') : ∀ {v : V} {x : NK}, ItV K H v x → ItV K H' v x
  | _, .k _, h => h
  | _, .t _, ⟨b, h, s⟩ => ⟨b, h, SqT.keep e s⟩
theorem ItVs.keep (e : Keeps H H') {vs : List V} {xs : List NK} (h : ItVs K H vs xs) : ItVs K H' vs xs := by
  induction h with
  | nil => exact .nil
  | cons p _ ih => exact .cons (p.keep e) ih
theorem KeyAt.keep (e : Keeps H H') {q : Addr} {ks : List NK} (h : KeyAt K H q ks) : KeyAt K H' q ks :=
  let ⟨vs, s, i⟩ := h
  ⟨vs, SqT.keep e s, i.keep e⟩
theorem NDict.keep {G G' : Hp} (e : Keeps G G') {a : Addr} {kvs : List (NKey sh × V)} (at_ : H' a = H a) (h : NDict K P w sh H G a kvs) : NDict K P w sh H' G' a kvs := by
  obtain ⟨h1, h2, nd, xs, h3, h4⟩ := h
  exact ⟨h1, h2, nd, xs, at_.trans h3, Paired.mapP h4 fun p q z => ⟨z.1, z.2.1.keep e, z.2.2⟩⟩
end
section
variable {X : Cx} {pins : List (Addr × Obj)} {σ : L2.St} {H : Hp} {s : Shared} {sh : List Bool} {A : Around} {E : Value → Shared → Prop}
theorem flat_at {b : Addr} {xs : List L2.Key} (I : Inv X pins σ H s) (h : SqT X.K H b (xs.map kV)) : IsTupleKey (mixKind X.prog X.w) s.heap xs b := by
  rcases h with h | ⟨o, its, n, hk, hc, hd, _, r⟩
  · obtain ⟨_, its, r, o, h1, h2, n, h3⟩ := (show ObjOk X.prog X.w H s.heap b (.tup (xs.map kV)) from h.ok I.hok)
    exact ⟨o, its.toArray, n, h1, h2, h3, by simpa using items_are r⟩
  · exact ⟨o, its, n, I.kIn b o hk, hc, hd, items_are r⟩
theorem nare_of (I : Inv X pins σ H s) {vs : List V} {ks : List NK} (h : ItVs X.K H vs ks) : ∀ {us : List Value}, Vals vs us → NAre X.prog X.w s.heap ks us := by
  induction h with
  | nil =>
    intro us r
    cases r
    exact .nil
  | @cons v x vs xs p _ ih =>
    intro us r
    cases r with
    | @cons _ u _ us r1 r2 =>
      refine .cons ?_ (ih r2)
      cases x with
      | k x =>
        obtain rfl : v = kV x := p
        exact kV_is r1
      | t xs =>
        obtain ⟨b, rfl, s⟩ := p
        exact ⟨b, r1, flat_at I s⟩
theorem key_at {q : Addr} {ks : List NK} (I : Inv X pins σ H s) (h : KeyAt X.K H q ks) : IsN X.prog X.w s.heap ks q := by
  obtain ⟨vs, h | ⟨o, its, n, hk, hc, hd, _, r⟩, it⟩ := h
  · obtain ⟨_, its, r, o, h1, h2, n, h3⟩ := (show ObjOk X.prog X.w H s.heap q (.tup vs) from h.ok I.hok)
    exact ⟨o, its.toArray, n, h1, h2, h3, by simpa using nare_of I it r⟩
  · exact ⟨o, its, n, I.kIn q o hk, hc, hd, nare_of I it r⟩
abbrev PN (K : PySem.W.Frag) (H : Hp) (sh : List Bool) : List (NKey sh × V) → List (NKey sh × Addr × Value) → Prop := Paired fun p q => p.1 = q.1 ∧ KeyAt K H q.2.1 p.1.1 ∧ RelV p.2 q.2.2
theorem PN.val {K : PySem.W.Frag} {kvs : List (NKey sh × V)} {xs : List (NKey sh × Addr × Value)} (r : PN K H sh kvs xs) (k : NKey sh) : RelO (valV kvs k) ((atKey xs k).map (·.2)) := by
  unfold PN at r
  induction r with
  | nil => exact True.intro
  | @cons p q ps qs z _ ih =>
    by_cases e : q.1 = k
    · have e1 : atKey (q :: qs) k = some q.2 := by simp [atKey, List.find?_cons, e]
      rw [e1, valV_pos (z.1.trans e)]
      exact z.2.2
    · have e1 : atKey (q :: qs) k = atKey qs k := by simp [atKey, List.find?_cons, e]
      rw [e1, valV_neg fun y => e (z.1.symm.trans y)]
      exact ih
theorem PN.put {K : PySem.W.Frag} {kvs : List (NKey sh × V)} {xs : List (NKey sh × Addr × Value)} (r : PN K H sh kvs xs) (k : NKey sh) {b : Addr} {y : V} {u : Value} (hb : KeyAt K H b k.1) (ry : RelV y u) : PN K H sh (putK kvs k y) (storedH xs k b u) := by
  have e : (kvs.any fun kv => decide (kv.1 = k)) = (atKey xs k).isSome := by rw [valV_any, (r.val k).isSome_eq, Option.isSome_map]
  unfold putK storedH
  rw [e]
  have go : ∀ {l : List (NKey sh × V)} {m : List (NKey sh × Addr × Value)}, PN K H sh l m → PN K H sh (l.map fun kv => if kv.1 = k then (kv.1, y) else kv) (m.map (putAt k u)) := by
    intro l m r
    unfold PN at r ⊢
    induction r with
    | nil => exact .nil
    | @cons p q ps qs z _ ih =>
      rw [List.map_cons, List.map_cons]
      refine .cons ?_ ih
      unfold putAt
      by_cases c : q.1 = k
      · simp only [if_pos c, if_pos (z.1.trans c)]
        exact ⟨z.1, z.2.1, ry⟩
      · simp only [if_neg c, if_neg fun y => c (z.1.symm.trans y)]
        exact z
  split
  · exact go r
  · exact Paired.snoc r ⟨rfl, hb, ry⟩
theorem PN.keys {K : PySem.W.Frag} {kvs : List (NKey sh × V)} {xs : List (NKey sh × Addr × Value)} (r : PN K H sh kvs xs) : kvs.map (·.1) = xs.map (·.1) := by
  unfold PN at r
  induction r with
  | nil => rfl
  | cons z _ ih => rw [List.map_cons, List.map_cons, ih, z.1]
theorem nd_of {G : Hp} {a : Addr} {kvs : List (NKey sh × V)} (sub : Same G H) (I : Inv X pins σ H s) (h : NDict X.K X.prog X.w sh H G a kvs) : ∃ xs, PN X.K G sh kvs xs ∧ s.heap.DictOfH (nKind X.prog X.w sh) a xs := by
  obtain ⟨h1, h2, nd, xs, h3, h4⟩ := h
  obtain ⟨⟨ob, es, ep, e1, e2, e3, e4, e5⟩, _, _⟩ := (show ObjOk X.prog X.w H s.heap a (.ext _) from I.hok a _ h3)
  refine ⟨xs, h4, ob, es, ep, e1, e2, e3, e4, fun x hx => ?_, e5⟩
  have all : ∀ {l : List (NKey sh × V)} {m : List (NKey sh × Addr × Value)}, PN X.K G sh l m → ∀ x ∈ m, IsN X.prog X.w s.heap x.1.1 x.2.1 := by
    intro l m r
    unfold PN at r
    induction r with
    | nil =>
      intro x hx
      cases hx
    | @cons p q ps qs z _ ih =>
      intro x hx
      rcases List.mem_cons.mp hx with rfl | hx
      · rw [← z.1]
        exact key_at I (z.2.1.keep (Keeps.of sub))
      · exact ih x hx
  exact all h4 x hx
/-- what the dict at a has under y -/
def NGet (K : PySem.W.Frag) (P : Program) (w : World) (sh : List Bool) (H : Hp) (a : Addr) (y : V) (o : Option V) : Prop := ∃ G kvs k q, Same G H ∧ NDict K P w sh H G a kvs ∧ y = .ref q ∧ KeyAt K G q k.1 ∧ o = valV kvs k
def NPut (K : PySem.W.Frag) (P : Program) (w : World) (sh : List Bool) (H : Hp) (a : Addr) (y v : V) (Q : Hp → Prop) : Prop :=
  ∃ G kvs k q, Same G H ∧ NDict K P w sh H G a kvs ∧ y = .ref q ∧ KeyAt K G q k.1 ∧ kvs.length < sizeLine ∧ ∀ H', (∀ b, b ≠ a → H' b = H b) → Keeps H H' → NDict K P w sh H' G a (putK kvs k v) → Q H'
theorem nd_get {a : Addr} {y v : V} {u : Value} {Q : Value → Shared → Prop} (hu : A.units + 2 < cLine) (I : Inv X pins σ H s) (g : NGet X.K X.prog X.w sh H a y (some v)) (ry : RelV y u) (q : ∀ r s', Inv X pins σ H s' → RelV v r → Q r s') :
    wpAny (model X.prog X.w) A (getItem (.ref a) u) Q E s := by
  obtain ⟨G, kvs, k, b, sub, nd, rfl, ka, e⟩ := g
  cases (show u = Value.ref b from ry)
  obtain ⟨xs, rel, dd⟩ := nd_of sub I nd
  obtain ⟨r, hr, rr⟩ := RelO.some_of (v := v) (o := (atKey xs k).map (·.2)) (by rw [e]; exact rel.val k)
  obtain ⟨p, hp, rfl⟩ := Option.map_eq_some_iff.mp hr
  exact wpAny_getItem_heap (knd := nKind X.prog X.w sh) (by show A.in1.units + 1 < cLine; exact hu) (key_at I (ka.keep (Keeps.of sub))) dd hp (q _ _ (I.tok _) rr)
theorem nd_in {a : Addr} {y : V} {o : Option V} {u : Value} {Q : Value → Shared → Prop} (hu : A.units + 2 < cLine) (I : Inv X pins σ H s) (g : NGet X.K X.prog X.w sh H a y o) (ry : RelV y u) (q : ∀ s', Inv X pins σ H s' → Q (.bool (!o.isSome)) s') :
    wpAny (model X.prog X.w) A (compareOp .NotIn u (.ref a)) Q E s := by
  obtain ⟨G, kvs, k, b, sub, nd, rfl, ka, e⟩ := g
  cases (show u = Value.ref b from ry)
  obtain ⟨xs, rel, dd⟩ := nd_of sub I nd
  refine wpAny_notIn_heap (knd := nKind X.prog X.w sh) (by show A.in1.units + 1 < cLine; exact hu) (key_at I (ka.keep (Keeps.of sub))) nd.2.1 dd ?_
  have e1 := (rel.val k).isSome_eq
  rw [Option.isSome_map] at e1
  rw [← e1, ← e]
  exact q _ (I.tok _)
theorem raw_ok {P : Program} {w : World} {h : Heap} {a : Addr} {xs : List (NKey sh × Addr × Value)} (r : RawN P w sh a xs h) : ObjOk P w H h a (.ext (RawN P w sh a xs)) :=
  ⟨r, let ⟨ob, _, _, e, _⟩ := r; ⟨ob, e⟩, fun _ _ ⟨ob, es, ep, e, z⟩ k => ⟨ob, es, ep, k _ e, z⟩⟩
theorem nd_put {a : Addr} {y v : V} {u r : Value} {R : Hp → Prop} {Q : Unit → Shared → Prop} (hu : A.units + 2 < cLine) (I : Inv X pins σ H s) (g : NPut X.K X.prog X.w sh H a y v R) (ry : RelV y u) (rv : RelV v r) (q : ∀ s' H', Inv X pins σ H' s' → R H' → Q () s') :
    wpAny (model X.prog X.w) A (setItem (.ref a) u r) Q E s := by
  obtain ⟨G, kvs, k, b, sub, nd, rfl, ka, lt, z⟩ := g
  cases (show u = Value.ref b from ry)
  obtain ⟨xs, rel, dd⟩ := nd_of sub I nd
  obtain ⟨h1, h2, nd0, ys, h3, h4⟩ := id nd
  have lx : xs.length ≤ sizeLine := by rw [← Paired.length rel]; exact h1
  refine wpAny_setItem_heap (hsz := lx) (knd := nKind X.prog X.w sh) (by show A.in1.units + 1 < cLine; exact hu) (key_at I (ka.keep (Keeps.of sub))) dd fun h' dd' sb => ?_
  obtain ⟨ob, es, ep, e1, e2, e3, e4, e5, e6⟩ := dd'
  have raw : RawN X.prog X.w sh a (storedH xs k b r) h' := ⟨ob, es, ep, e1, e2, e3, e4, e6⟩
  have kp : Keeps H (L2.upd H a (.ext (RawN X.prog X.w sh a (storedH xs k b r)))) := Keeps.upd h3 (fun _ z => nomatch z) fun _ _ z => nomatch z
  refine q _ _ (d_write I (by rw [h3]; exact True.intro) sb ⟨ob, e1⟩ (raw_ok raw)) (z _ (fun c hc => upd_ne hc) kp ⟨?_, h2, ?_, _, upd_same, ?_⟩)
  · have := length_putK kvs k v
    omega
  · rw [PN.keys (rel.put k ka rv)]
    exact e6
  · exact rel.put k ka rv
end
/-! ### readings and rules -/
def rNotInN (K : PySem.W.Frag) (P : Program) (w : World) (sh : List Bool) : R2 := fun y x H Q => ∃ a o, x = .ref a ∧ NGet K P w sh H a y o ∧ Q (.bl (!o.isSome)) H
def tNGet (K : PySem.W.Frag) (P : Program) (w : World) (sh : List Bool) (td ty : TE) : TE := fun σ H Q => td σ H fun x H1 => ty σ H1 fun y H2 => ∃ a v, x = .ref a ∧ NGet K P w sh H2 a y (some v) ∧ Q v H2
def tNSet (K : PySem.W.Frag) (P : Program) (w : World) (sh : List Bool) : TSet := fun x y v H Q => ∃ a, x = .ref a ∧ NPut K P w sh H a y v Q
def tNNew (K : PySem.W.Frag) (P : Program) (w : World) (sh : List Bool) : TE := fun _ H Q => ∀ p H', H p = none → (∀ b, b ≠ p → H' b = H b) → (∀ G, NDict K P w sh H' G p []) → Q (.ref p) H'
section
variable {X : Cx} {sh : List Bool} {o i : Expr} {pos : Pos} {td ty : TE}
theorem op_notInN (hu : X.A.units + 2 < cLine) : OpR X (compareOp .NotIn) (rNotInN X.K X.prog X.w sh) := by
  intro pins s σ H x y v u Q I r1 r2 h
  obtain ⟨a, ov, rfl, g, q⟩ := h
  cases (show u = Value.ref a from r2)
  exact nd_in hu I g r1 fun s' I' => ⟨.bl _, H, I', rfl, q⟩
theorem pe_nget (hu : X.A.units + 2 < cLine) (ho : PE X o td) (hi : PE X i ty) (hs : NoSl i) : PE X (.Subscript o i pos) (tNGet X.K X.prog X.w sh td ty) := by
  refine ⟨fun pins s σ H Q I h => ?_⟩
  refine subD_of PySem.F.slot_dict_getitem.lookup hs (thn (ho.run pins s σ H _ I h) fun u s1 ⟨x, H1, I1, rx, q1⟩ => thn (hi.run pins s1 σ H1 _ I1 q1) fun iv s2 ⟨y, H2, I2, ry, a, v, ex, g, q2⟩ => ?_)
  subst ex
  cases (show u = Value.ref a from rx)
  have ty : s2.TypeIs (.ref a) "dict" := by
    obtain ⟨G, kvs, k, q, sub, nd, _⟩ := id g
    obtain ⟨xs, _, dd⟩ := nd_of sub I2 nd
    exact dd.typeIs
  exact ⟨ty, nd_get hu I2 g ry fun r s3 I3 rr => ⟨v, H2, I3, rr, q2⟩⟩
theorem set_n (hu : X.A.units + 2 < cLine) : PSet X (tNSet X.K X.prog X.w sh) := by
  intro pins s σ H ov iv v u1 u2 u3 Q I r1 r2 r3 h
  obtain ⟨a, rfl, g⟩ := h
  cases (show u1 = Value.ref a from r1)
  exact nd_put hu I g r2 r3 fun s' H' I' q => ⟨H', I', q⟩
theorem pe_nnew : PE X (.Dict [] [] pos) (tNNew X.K X.prog X.w sh) := ⟨fun pins s σ H Q I h => by
  have np : H s.heap.objs.size = none := I.hok.fresh (Nat.le_refl _)
  have raw : RawN X.prog X.w sh s.heap.objs.size [] (s.heap.push { cls := .type "dict", data := .dict #[] }) := ⟨_, #[], 0, Heap.get?_push_size _ rfl, ⟨rfl, rfl, rfl⟩, rfl, rfl, List.nodup_nil⟩
  refine wpAny_Dict_empty ⟨.ref s.heap.objs.size, _, I.laid (a := s.heap.objs.size) (o := .ext (RawN X.prog X.w sh s.heap.objs.size [])) (t' := s.toks) (fun _ _ q => Heap.get?_push_of_some _ q) (Nat.le_refl _) (raw_ok raw), rfl, ?_⟩
  exact h _ _ np (fun b hb => upd_ne hb) fun _ => ⟨Nat.zero_le _, beq_eq_false_iff_ne.mpr (Ne.symm (Nat.ne_of_lt I.big)), List.nodup_nil, [], upd_same, .nil⟩⟩
end
end WkN
/-! A def of the module by its name, with its promise: calm, under clear guards, within an except suite. -/
namespace WkF
open PySem PySem.Spec PyProof.Rows L2 L2H WkH WkG WkP
section
variable (P : Program) (w : World) (K : PySem.W.Frag) (mg : Str → Option Value) (base : Heap)
structure Fn (CX : CXT) (k : Nat) (x : Str) (ps : List Str) (sp : Sp) : Prop where
  ex : ∃ f fd, mg x = some (.ref f) ∧ PySem.W.keepIn K (.ref f) = true ∧ Binds K fd ps [] ∧ FnOk P w K mg base CX k f fd ps sp
structure FnC (CX : CXT) (k : Nat) (x : Str) (ps : List Str) (sp : Sp) : Prop where
  ex : ∃ f fd, mg x = some (.ref f) ∧ PySem.W.keepIn K (.ref f) = true ∧ Binds K fd ps [] ∧ FnG P w K mg base CX k f fd ps sp
structure FnH (k : Nat) (x : Str) (ps : List Str) (sp : Addr × Obj → Sp) : Prop where
  ex : ∃ f fd, mg x = some (.ref f) ∧ PySem.W.keepIn K (.ref f) = true ∧ Binds K fd ps [] ∧ FnP P w K mg base k f fd ps sp
end
section
variable {P : Program} {w : World} {K : PySem.W.Frag} {mg : Str → Option Value} {base : Heap} {CX : CXT} {k j : Nat} {x : Str} {ps : List Str} {sp : Sp}
theorem Fn.mk' {d : DefL} {fd : FuncData} (F : Stands K d fd) (g : mg x = some (.ref d.adr)) (b : Binds K fd ps []) (ok : FnOk P w K mg base CX k d.adr fd ps sp) : Fn P w K mg base CX k x ps sp := ⟨_, _, g, F.kp, b, ok⟩
theorem FnC.mk' {d : DefL} {fd : FuncData} (F : Stands K d fd) (g : mg x = some (.ref d.adr)) (b : Binds K fd ps []) (ok : FnG P w K mg base CX k d.adr fd ps sp) : FnC P w K mg base CX k x ps sp := ⟨_, _, g, F.kp, b, ok⟩
theorem FnH.mk' {d : DefL} {fd : FuncData} {sp : Addr × Obj → Sp} (F : Stands K d fd) (g : mg x = some (.ref d.adr)) (b : Binds K fd ps []) (ok : FnP P w K mg base k d.adr fd ps sp) : FnH P w K mg base k x ps sp := ⟨_, _, g, F.kp, b, ok⟩
theorem bind1 {d : DefL} {fd : FuncData} {a : Str} (F : Stands K d fd)
    (h : ∀ (kV doc pm : Value) (an : Option Addr) (cdv ct : Value) (u : Value), bindArgs (PySem.W.fnOf d.nm d.qual d.pars d.bod d.sco .none kV doc pm an cdv ct) ⟨[u], []⟩ = pure [(a, u)]) : Binds K fd [a] [] :=
  FunD.bindsN F fun kV doc pm an cdv ct us hl => by
    match us, hl with
    | [u], _ => exact h kV doc pm an cdv ct u
theorem bind2 {d : DefL} {fd : FuncData} {a b : Str} (F : Stands K d fd)
    (h : ∀ (kV doc pm : Value) (an : Option Addr) (cdv ct : Value) (u v : Value), bindArgs (PySem.W.fnOf d.nm d.qual d.pars d.bod d.sco .none kV doc pm an cdv ct) ⟨[u, v], []⟩ = pure [(a, u), (b, v)]) : Binds K fd [a, b] [] :=
  FunD.bindsN F fun kV doc pm an cdv ct us hl => by
    match us, hl with
    | [u, v], _ => exact h kV doc pm an cdv ct u v
theorem bind3 {d : DefL} {fd : FuncData} {a b c : Str} (F : Stands K d fd)
    (h : ∀ (kV doc pm : Value) (an : Option Addr) (cdv ct : Value) (u v w : Value), bindArgs (PySem.W.fnOf d.nm d.qual d.pars d.bod d.sco .none kV doc pm an cdv ct) ⟨[u, v, w], []⟩ = pure [(a, u), (b, v), (c, w)]) : Binds K fd [a, b, c] [] :=
  FunD.bindsN F fun kV doc pm an cdv ct us hl => by
    match us, hl with
    | [u, v, w], _ => exact h kV doc pm an cdv ct u v w
theorem bind4 {d : DefL} {fd : FuncData} {a b c e : Str} (F : Stands K d fd)
    (h : ∀ (kV doc pm : Value) (an : Option Addr) (cdv ct : Value) (u v w x : Value), bindArgs (PySem.W.fnOf d.nm d.qual d.pars d.bod d.sco .none kV doc pm an cdv ct) ⟨[u, v, w, x], []⟩ = pure [(a, u), (b, v), (c, w), (e, x)]) : Binds K fd [a, b, c, e] [] :=
  FunD.bindsN F fun kV doc pm an cdv ct us hl => by
    match us, hl with
    | [u, v, w, x], _ => exact h kV doc pm an cdv ct u v w x
end
section
variable {X : Cx} {CX : CXT} {k j : Nat} {ps : List Str} {sp : Sp} {E : XK} {x : Str} {p pos : Pos} {e : Expr} {es : List Expr} {t : TA}
theorem pe_fn (F : Fn X.prog X.w X.K X.mg X.base CX0 k x ps sp) (hr : Room j X.A) (hg : Gl X x) (ha : PA X (e :: es) t) (hj : k ≤ j := by decide)
    (hdb : (x == ("__debug__" : Str)) = false := by decide) (he : starEach (e :: es) X.env = (false, eval e X.env) :: starEach es X.env := by rfl) (hpl : (backTo pos (starEach es X.env)).any (·.1) = false := by rfl) :
    PE X (.Call (.Name x p) (e :: es) [] pos) (tCall sp [] E0 t) := by
  obtain ⟨f, fd, g, kp, b, ok⟩ := F.ex
  exact pe_call ok (hr.mono hj) hg g kp b .nil pass0 ha hdb he hpl
theorem pe_fnX (F : Fn X.prog X.w X.K X.mg X.base CX k x ps sp) (hx : Passes CX X E) (hr : Room j X.A) (hg : Gl X x) (ha : PA X (e :: es) t) (hj : k ≤ j := by decide)
    (hdb : (x == ("__debug__" : Str)) = false := by decide) (he : starEach (e :: es) X.env = (false, eval e X.env) :: starEach es X.env := by rfl) (hpl : (backTo pos (starEach es X.env)).any (·.1) = false := by rfl) :
    PE X (.Call (.Name x p) (e :: es) [] pos) (tCall sp [] E t) := by
  obtain ⟨f, fd, g, kp, b, ok⟩ := F.ex
  exact pe_call ok (hr.mono hj) hg g kp b .nil hx ha hdb he hpl
theorem pe_fnS {E : L2.St → XK} (F : Fn X.prog X.w X.K X.mg X.base CX k x ps sp) (hx : ∀ σ, PassesAt CX X σ (E σ)) (hr : Room j X.A) (hg : Gl X x) (ha : PA X (e :: es) t) (hj : k ≤ j := by decide)
    (hdb : (x == ("__debug__" : Str)) = false := by decide) (he : starEach (e :: es) X.env = (false, eval e X.env) :: starEach es X.env := by rfl) (hpl : (backTo pos (starEach es X.env)).any (·.1) = false := by rfl) :
    PE X (.Call (.Name x p) (e :: es) [] pos) (tCallS sp E t) := by
  obtain ⟨f, fd, g, kp, b, ok⟩ := F.ex
  exact pe_callS ok (hr.mono hj) hg g kp b hx ha hdb he hpl
/-- one reading of many -/
theorem pss_any {β : Type} {ss : List Stmt} {p : β → Prop} {ts : β → TS} (b : β) (hp : p b) (h : PSs X ss (ts b)) : PSs X ss (fun D σ H => ∀ b, p b → ts b D σ H) :=
  ⟨fun pins s σ H D I q => h.run pins s σ H D I (q b hp)⟩
theorem e_callS {E : L2.St → XK} {σ : L2.St} {H : Hp} {Q : VK} (q : t σ H fun vs H1 => sp vs H1 Q (E σ)) : tCallS sp E t σ H Q := q
theorem e_callP {sp : Addr × Obj → Sp} {q : Addr × Obj} {σ : L2.St} {H : Hp} {Q : VK} (h : t σ H fun vs H1 => sp q vs H1 Q E0) : tCallP sp q t σ H Q := h
theorem pe_fnC (F : FnC X.prog X.w X.K X.mg X.base CX0 k x ps sp) (hG : Clear X.A) (hr : Room j X.A) (hg : Gl X x) (ha : PA X (e :: es) t) (hj : k ≤ j := by decide)
    (hdb : (x == ("__debug__" : Str)) = false := by decide) (he : starEach (e :: es) X.env = (false, eval e X.env) :: starEach es X.env := by rfl) (hpl : (backTo pos (starEach es X.env)).any (·.1) = false := by rfl) :
    PE X (.Call (.Name x p) (e :: es) [] pos) (tCall sp [] E0 t) := by
  obtain ⟨f, fd, g, kp, b, ok⟩ := F.ex
  exact pe_callG ok hG (hr.mono hj) hg g kp b pass0 ha hdb he hpl
theorem pe_fnH {sp : Addr × Obj → Sp} {q : Addr × Obj} (F : FnH X.prog X.w X.K X.mg X.base k x ps sp) (hr : RoomH j X.A) (hq : q ∈ X.pn) (hg : Gl X x) (ha : PA X (e :: es) t) (hj : k ≤ j := by decide)
    (hdb : (x == ("__debug__" : Str)) = false := by decide) (he : starEach (e :: es) X.env = (false, eval e X.env) :: starEach es X.env := by rfl) (hpl : (backTo pos (starEach es X.env)).any (·.1) = false := by rfl) :
    PE X (.Call (.Name x p) (e :: es) [] pos) (tCallP sp q t) := by
  obtain ⟨f, fd, g, kp, b, ok⟩ := F.ex
  exact pe_callP ok (hr.mono hj) hq hg g kp b ha hdb he hpl
end
end WkF
/-! Runs told over data alone: slots hold data (or a thing told by its place), the heap is out of sight but for what an effect owns. -/
namespace WkD
open PySem PySem.Spec PyProof.Rows L2 WkH WkQ WkS WkF WkN
/-! ### what is out of sight -/
structure Eff (S : Type) where
  own : Addr → Prop
  J : S → Hp → Prop
  at_ : ∀ {n H a}, J n H → own a → H a ≠ none
  loc : ∀ {n H H'}, (∀ a, own a → H' a = H a) → Keeps H H' → J n H → J n H'
open Classical in
/-- what is in sight -/
noncomputable def Eff.st {S : Type} (F : Eff S) (H : Hp) : Hp := fun a => if F.own a then none else H a
section
variable {S : Type} {F : Eff S} {H H' : Hp} {n : S} {p : Addr} {o : HO}
theorem Eff.st_ne (h : ¬ F.own p) : F.st H p = H p := if_neg h
theorem Eff.st_own (h : F.own p) : F.st H p = none := if_pos h
theorem Eff.sub : Same (F.st H) H := fun a u h => by
  unfold Eff.st at h
  split at h
  · cases h
  · exact h
theorem Eff.mono (e : Same H H') : Same (F.st H) (F.st H') := fun a u h => by
  unfold Eff.st at h ⊢
  split at h
  · cases h
  · rename_i z
    rw [if_neg z]
    exact e _ _ h
theorem Eff.keep (e : Same H H') (j : F.J n H) : F.J n H' := F.loc (fun a ha => by
  cases z : H a with
  | none => exact absurd z (F.at_ j ha)
  | some u => exact e _ _ z) (Keeps.of e) j
theorem Eff.fresh (j : F.J n H) (h : H p = none) : ¬ F.own p := fun z => F.at_ j z h
theorem Eff.new (j : F.J n H) (h : H p = none) : F.st (upd H p o) p = some o := by
  rw [Eff.st_ne (Eff.fresh j h)]
  exact upd_same
theorem same_upd (h : H p = none) : Same H (upd H p o) := fun b u e => by
  rw [upd_ne (ne_of_none e h)]
  exact e
end
/-- nothing is out of sight -/
def pureE : Eff Unit := ⟨fun _ => False, fun _ _ => True, fun _ h => h.elim, fun _ _ j => j⟩
/-! ### entries of a dict -/
abbrev Ent (sh : List Bool) := List (NKey sh × PyData)
def valD {sh : List Bool} (es : Ent sh) (k : NKey sh) : Option PyData := (es.find? fun p => decide (p.1 = k)).map (·.2)
def putD {sh : List Bool} (es : Ent sh) (k : NKey sh) (d : PyData) : Ent sh := if (es.any fun p => decide (p.1 = k)) = true then es.map (fun p => if p.1 = k then (p.1, d) else p) else es ++ [(k, d)]
theorem valD_put {sh : List Bool} (es : Ent sh) (k j : NKey sh) (d : PyData) : valD (putD es k d) j = if j = k then some d else valD es j := by
  unfold putD
  by_cases h : (es.any fun p => decide (p.1 = k)) = true
  · rw [if_pos h]
    induction es with
    | nil => simp at h
    | cons p es ih =>
      rw [List.map_cons]
      by_cases hp : p.1 = k
      · rw [if_pos hp]
        by_cases hj : j = k
        · subst hj
          simp [valD, List.find?_cons, hp]
        · have hpj : ¬ p.1 = j := fun z => hj (z.symm.trans hp)
          have rest : valD (es.map fun p => if p.1 = k then (p.1, d) else p) j = valD es j := by
            clear ih h
            induction es with
            | nil => rfl
            | cons q es ih =>
              rw [List.map_cons]
              by_cases hq : q.1 = k
              · rw [if_pos hq]
                have hqj : ¬ q.1 = j := fun z => hj (z.symm.trans hq)
                simp only [valD, List.find?_cons, hqj, decide_false] at ih ⊢
                exact ih
              · rw [if_neg hq]
                by_cases hqj : q.1 = j
                · simp [valD, List.find?_cons, hqj]
                · simp only [valD, List.find?_cons, hqj, decide_false] at ih ⊢
                  exact ih
          rw [if_neg hj]
          simp only [valD, List.find?_cons, hpj, decide_false] at rest ⊢
          exact rest
      · rw [if_neg hp]
        have h' : (es.any fun p => decide (p.1 = k)) = true := by simpa [hp] using h
        by_cases hpj : p.1 = j
        · have : ¬ j = k := fun z => hp (hpj.trans z)
          rw [if_neg this]
          simp [valD, List.find?_cons, hpj]
        · have := ih h'
          simp only [valD, List.find?_cons, hpj, decide_false] at this ⊢
          exact this
  · rw [if_neg h]
    have no : ∀ p ∈ es, ¬ p.1 = k := fun p hp z => h (List.any_eq_true.mpr ⟨p, hp, decide_eq_true z⟩)
    unfold valD
    rw [List.find?_append]
    by_cases hj : j = k
    · subst hj
      rw [if_pos rfl]
      have : es.find? (fun p => decide (p.1 = j)) = none := List.find?_eq_none.mpr fun p hp => by simpa using no p hp
      rw [this]
      simp
    · rw [if_neg hj]
      have : ¬ k = j := fun z => hj z.symm
      cases e : es.find? (fun p => decide (p.1 = j)) with
      | some p => rfl
      | none => simp [this]
/-- the entries' data -/
inductive KvD (K : PySem.W.Frag) (G : Hp) {sh : List Bool} : List (NKey sh × V) → Ent sh → Prop
  | nil : KvD K G [] []
  | cons {k : NKey sh} {v : V} {d : PyData} {kvs : List (NKey sh × V)} {es : Ent sh} : Dq K G v d → steady d = true → KvD K G kvs es → KvD K G ((k, v) :: kvs) ((k, d) :: es)
section
variable {K : PySem.W.Frag} {G G' : Hp} {sh : List Bool} {kvs : List (NKey sh × V)} {es : Ent sh}
theorem KvD.keep (e : Keeps G G') (h : KvD K G kvs es) : KvD K G' kvs es := by
  induction h with
  | nil => exact .nil
  | cons h1 h2 _ ih => exact .cons (Dq.keep e h1 h2) h2 ih
theorem KvD.mono (e : Same G G') (h : KvD K G kvs es) : KvD K G' kvs es := h.keep (Keeps.of e)
theorem KvD.len (h : KvD K G kvs es) : kvs.length = es.length := by
  induction h with
  | nil => rfl
  | cons _ _ _ ih => rw [List.length_cons, List.length_cons, ih]
theorem KvD.val (h : KvD K G kvs es) (k : NKey sh) : (valV kvs k = none ∧ valD es k = none) ∨ ∃ v d, valV kvs k = some v ∧ valD es k = some d ∧ Dq K G v d := by
  induction h with
  | nil => exact .inl ⟨rfl, rfl⟩
  | @cons j v d kvs es h1 h2 _ ih =>
    by_cases e : j = k
    · exact .inr ⟨v, d, valV_pos (p := (j, v)) e, by simp [valD, List.find?_cons, e], h1⟩
    · rw [valV_neg (p := (j, v)) e]
      have : valD ((j, d) :: es) k = valD es k := by simp [valD, List.find?_cons, e]
      rw [this]
      exact ih
theorem KvD.put (h : KvD K G kvs es) {k : NKey sh} {v : V} {d : PyData} (r : Dq K G v d) (st : steady d = true) : KvD K G (putK kvs k v) (putD es k d) := by
  have any : (kvs.any fun kv => decide (kv.1 = k)) = (es.any fun p => decide (p.1 = k)) := by
    clear r
    induction h with
    | nil => rfl
    | cons _ _ _ ih => rw [List.any_cons, List.any_cons, ih]
  unfold putK putD
  rw [any]
  have go : ∀ {kvs : List (NKey sh × V)} {es : Ent sh}, KvD K G kvs es → KvD K G (kvs.map fun kv => if kv.1 = k then (kv.1, v) else kv) (es.map fun p => if p.1 = k then (p.1, d) else p) := by
    intro kvs es h
    induction h with
    | nil => exact .nil
    | @cons j u c kvs es h1 h2 _ ih =>
      rw [List.map_cons, List.map_cons]
      by_cases e : j = k
      · simp only [if_pos e]
        exact .cons r st ih
      · simp only [if_neg e]
        exact .cons h1 h2 ih
  have app : ∀ {kvs : List (NKey sh × V)} {es : Ent sh}, KvD K G kvs es → KvD K G (kvs ++ [(k, v)]) (es ++ [(k, d)]) := by
    intro kvs es h
    induction h with
    | nil => exact .cons r st .nil
    | cons h1 h2 _ ih => exact .cons h1 h2 ih
  split
  · exact go h
  · exact app h
theorem KvD.keys (h : KvD K G kvs es) : kvs.map (·.1) = es.map (·.1) := by
  induction h with
  | nil => rfl
  | cons _ _ _ ih => rw [List.map_cons, List.map_cons, ih]
end
/-! ### slots -/
inductive Sl where
  | no
  | dat (d : PyData)
  | raw (v : V)
  | tab (P : Program) (w : World) (sh : List Bool) (es : Ent sh)
def RepV (K : PySem.W.Frag) (G : Hp) (v : V) : Sl → Prop
  | .no => False
  | .dat d => Dq K G v d
  | .raw u => v = u
  | .tab P w sh es => ∃ D kvs, v = .ref D ∧ NDict K P w sh G G D kvs ∧ KvD K G kvs es
def RepO (K : PySem.W.Frag) (G : Hp) (o : Option V) : Sl → Prop
  | .no => True
  | .dat d => ∃ v, o = some v ∧ Dq K G v d
  | .raw u => o = some u
  | .tab P w sh es => ∃ D kvs, o = some (.ref D) ∧ NDict K P w sh G G D kvs ∧ KvD K G kvs es
theorem nd_mono {K : PySem.W.Frag} {P : Program} {w : World} {sh : List Bool} {G G' : Hp} {D : Addr} {kvs : List (NKey sh × V)} (e : Same G G') (h : NDict K P w sh G G D kvs) : NDict K P w sh G' G' D kvs := by
  obtain ⟨h1, h2, h3, xs, h4, h5⟩ := h
  exact ⟨h1, h2, h3, xs, e _ _ h4, Paired.mapP h5 fun p q z => ⟨z.1, z.2.1.keep (Keeps.of e), z.2.2⟩⟩
inductive RepS (K : PySem.W.Frag) (G : Hp) : List (Option V) → List Sl → Prop
  | nil : RepS K G [] []
  | cons {o : Option V} {s : Sl} {σ : List (Option V)} {ρ : List Sl} : RepO K G o s → RepS K G σ ρ → RepS K G (o :: σ) (s :: ρ)
inductive RepA (K : PySem.W.Frag) (G : Hp) : List V → List Sl → Prop
  | nil : RepA K G [] []
  | cons {v : V} {s : Sl} {vs : List V} {rs : List Sl} : RepV K G v s → RepA K G vs rs → RepA K G (v :: vs) (s :: rs)
section
variable {K : PySem.W.Frag} {G G' : Hp}
theorem RepV.mono (e : Same G G') {v : V} : ∀ {s : Sl}, RepV K G v s → RepV K G' v s
  | .no, h => h
  | .dat _, h => Dq.mono e h
  | .raw _, h => h
  | .tab _ _ _ _, ⟨D, kvs, h1, h2, h3⟩ => ⟨D, kvs, h1, nd_mono e h2, h3.mono e⟩
theorem RepO.mono (e : Same G G') {o : Option V} : ∀ {s : Sl}, RepO K G o s → RepO K G' o s
  | .no, h => h
  | .dat _, ⟨v, h1, h2⟩ => ⟨v, h1, Dq.mono e h2⟩
  | .raw _, h => h
  | .tab _ _ _ _, ⟨D, kvs, h1, h2, h3⟩ => ⟨D, kvs, h1, nd_mono e h2, h3.mono e⟩
theorem RepS.mono (e : Same G G') : ∀ {σ : List (Option V)} {ρ : List Sl}, RepS K G σ ρ → RepS K G' σ ρ
  | _, _, .nil => .nil
  | _, _, .cons h1 h2 => .cons (h1.mono e) (h2.mono e)
theorem RepA.mono (e : Same G G') : ∀ {vs : List V} {rs : List Sl}, RepA K G vs rs → RepA K G' vs rs
  | _, _, .nil => .nil
  | _, _, .cons h1 h2 => .cons (h1.mono e) (h2.mono e)
theorem RepV.opt {v : V} : ∀ {s : Sl}, RepV K G v s → RepO K G (some v) s
  | .no, h => h.elim
  | .dat _, h => ⟨v, rfl, h⟩
  | .raw _, h => congrArg some h
  | .tab _ _ _ _, ⟨D, kvs, h1, h2, h3⟩ => ⟨D, kvs, congrArg some h1, h2, h3⟩
theorem RepS.get : ∀ {σ : List (Option V)} {ρ : List Sl} {i : Nat} {s : Sl}, RepS K G σ ρ → ρ[i]? = some s → s ≠ .no → ∃ v, σ[i]? = some (some v) ∧ RepV K G v s
  | _, _, _, _, .nil, e, _ => by cases e
  | o :: _, _, 0, s, .cons h _, e, n => by
    cases e
    cases s with
    | no => exact absurd rfl n
    | dat d =>
      obtain ⟨v, rfl, q⟩ := h
      exact ⟨v, rfl, q⟩
    | raw u =>
      obtain rfl : o = some u := h
      exact ⟨u, rfl, rfl⟩
    | tab P w sh es =>
      obtain ⟨D, kvs, rfl, q⟩ := h
      exact ⟨_, rfl, D, kvs, rfl, q⟩
  | _ :: σ, _ :: ρ, i + 1, s, .cons _ h, e, n => RepS.get (σ := σ) (ρ := ρ) (i := i) h e n
theorem RepS.set : ∀ {σ : List (Option V)} {ρ : List Sl} (i : Nat) {v : V} {s : Sl}, RepS K G σ ρ → RepV K G v s → RepS K G (σ.set i (some v)) (ρ.set i s)
  | _, _, _, _, _, .nil, _ => .nil
  | _, _, 0, _, _, .cons _ h, q => .cons q.opt h
  | _, _, i + 1, _, _, .cons h1 h2, q => .cons h1 (RepS.set i h2 q)
theorem RepS.wipe1 : ∀ {σ : List (Option V)} {ρ : List Sl} (i : Nat), RepS K G σ ρ → RepS K G (σ.set i none) (ρ.set i .no)
  | _, _, _, .nil => .nil
  | _, _, 0, .cons _ h => .cons True.intro h
  | _, _, i + 1, .cons h1 h2 => .cons h1 (RepS.wipe1 i h2)
theorem RepA.dats : ∀ {vs : List V} {ds : List PyData}, RepA K G vs (ds.map .dat) → DqAll K G vs ds
  | [], [], _ => .nil
  | _ :: _, [], h => by cases h
  | [], _ :: _, h => by cases h
  | _ :: _, _ :: _, .cons h1 h2 => .cons h1 (RepA.dats h2)
theorem RepS.start {N : List Str} {vs : List V} {ds : List PyData} (h : DqAll K G vs ds) : RepS K G (L2.start N vs) (ds.map .dat ++ List.replicate (N.length - ds.length) .no) := by
  unfold L2.start
  rw [h.length]
  have tail : ∀ k, RepS K G (List.replicate k none) (List.replicate k .no) := fun k => by
    induction k with
    | zero => exact .nil
    | succ k ih => exact .cons True.intro ih
  generalize N.length - ds.length = k
  clear N
  have go : ∀ {vs : List V} {ds : List PyData}, DqAll K G vs ds → RepS K G (vs.map some ++ List.replicate k none) (ds.map .dat ++ List.replicate k .no) := by
    intro vs
    induction vs with
    | nil =>
      intro ds h
      cases h
      exact tail k
    | cons v vs ih =>
      intro ds h
      cases h with
      | cons h1 h2 => exact .cons ⟨v, rfl, h1⟩ (ih h2)
  exact go h
end
end WkD
/-! What a reading does, told over slots of data: expressions, tests, statements. -/
namespace WkD
open PySem PySem.Spec PyProof.Rows L2 WkH WkQ WkS WkF
/-- e, from the slots ρ with n turns left, comes to some r with m left, of which Φ holds -/
def wE {S : Type} (F : Eff S) (K : PySem.W.Frag) (t : TE) (ρ : List Sl) (n : S) (Φ : Sl → S → Prop) : Prop :=
  ∀ (σ : L2.St) (H : Hp) (Q : VK), F.J n H → RepS K (F.st H) σ ρ → (∀ v H' r m, Φ r m → F.J m H' → Same (F.st H) (F.st H') → RepV K (F.st H') v r → Q v H') → t σ H Q
def wA {S : Type} (F : Eff S) (K : PySem.W.Frag) (t : TA) (ρ : List Sl) (n : S) (Φ : List Sl → S → Prop) : Prop :=
  ∀ (σ : L2.St) (H : Hp) (Q : List V → Hp → Prop), F.J n H → RepS K (F.st H) σ ρ → (∀ vs H' rs m, Φ rs m → F.J m H' → Same (F.st H) (F.st H') → RepA K (F.st H') vs rs → Q vs H') → t σ H Q
def wT {S : Type} (F : Eff S) (K : PySem.W.Frag) (t : TT) (ρ : List Sl) (n : S) (Φ : Bool → S → Prop) : Prop :=
  ∀ (σ : L2.St) (H : Hp) (Q : Bool → Hp → Prop), F.J n H → RepS K (F.st H) σ ρ → (∀ b H' m, Φ b m → F.J m H' → Same (F.st H) (F.st H') → Q b H') → t σ H Q
def wO {S : Type} (F : Eff S) (K : PySem.W.Frag) (t : TO) (ρ : List Sl) (n : S) (Φ : Option Int → S → Prop) : Prop :=
  ∀ (σ : L2.St) (H : Hp) (Q : Option Int → Hp → Prop), F.J n H → RepS K (F.st H) σ ρ → (∀ b H' m, Φ b m → F.J m H' → Same (F.st H) (F.st H') → Q b H') → t σ H Q
/-- a two-place operation on what stands there -/
def wR {S : Type} (F : Eff S) (K : PySem.W.Frag) (r : R2) (a b : Sl) (n : S) (Φ : Sl → S → Prop) : Prop :=
  ∀ (x y : V) (H : Hp) (Q : VK), F.J n H → RepV K (F.st H) x a → RepV K (F.st H) y b → (∀ v H' r m, Φ r m → F.J m H' → Same (F.st H) (F.st H') → RepV K (F.st H') v r → Q v H') → r x y H Q
def wU {S : Type} (F : Eff S) (K : PySem.W.Frag) (r : V → Hp → VK → Prop) (a : Sl) (n : S) (Φ : Sl → S → Prop) : Prop :=
  ∀ (x : V) (H : Hp) (Q : VK), F.J n H → RepV K (F.st H) x a → (∀ v H' r m, Φ r m → F.J m H' → Same (F.st H) (F.st H') → RepV K (F.st H') v r → Q v H') → r x H Q
/-- an operation on arguments (a built-in's call, a def's promise) -/
def wC {S : Type} (F : Eff S) (K : PySem.W.Frag) (r : List V → Hp → VK → Prop) (as : List Sl) (n : S) (Φ : Sl → S → Prop) : Prop :=
  ∀ (vs : List V) (H : Hp) (Q : VK), F.J n H → RepA K (F.st H) vs as → (∀ v H' r m, Φ r m → F.J m H' → Same (F.st H) (F.st H') → RepV K (F.st H') v r → Q v H') → r vs H Q
/-- a target takes a value -/
def wG {S : Type} (F : Eff S) (K : PySem.W.Frag) (g : TG) (a : Sl) (ρ : List Sl) (n : S) (Φ : List Sl → S → Prop) : Prop :=
  ∀ (x : V) (σ : L2.St) (H : Hp) (Q : L2.St → Hp → Prop), F.J n H → RepV K (F.st H) x a → RepS K (F.st H) σ ρ → (∀ σ' H' ρ' m, Φ ρ' m → F.J m H' → Same (F.st H) (F.st H') → RepS K (F.st H') σ' ρ' → Q σ' H') → g x σ H Q
def wGs {S : Type} (F : Eff S) (K : PySem.W.Frag) (g : TGs) (as : List Sl) (ρ : List Sl) (n : S) (Φ : List Sl → S → Prop) : Prop :=
  ∀ (xs : List V) (σ : L2.St) (H : Hp) (Q : L2.St → Hp → Prop), F.J n H → RepA K (F.st H) xs as → RepS K (F.st H) σ ρ → (∀ σ' H' ρ' m, Φ ρ' m → F.J m H' → Same (F.st H) (F.st H') → RepS K (F.st H') σ' ρ' → Q σ' H') → g xs σ H Q
/-- the ways out of a statement -/
structure Po (S : Type) where
  nx : List Sl → S → Prop
  rt : Sl → S → Prop
  bk : List Sl → S → Prop := fun _ _ => False
  ct : List Sl → S → Prop := fun _ _ => False
structure Meets {S : Type} (F : Eff S) (K : PySem.W.Frag) (G : Hp) (D : Ends) (P : Po S) : Prop where
  nx : ∀ σ' H' ρ' m, P.nx ρ' m → F.J m H' → Same G (F.st H') → RepS K (F.st H') σ' ρ' → D.nx σ' H'
  rt : ∀ v H' r m, P.rt r m → F.J m H' → Same G (F.st H') → RepV K (F.st H') v r → D.rt v H'
  bk : ∀ σ' H' ρ' m, P.bk ρ' m → F.J m H' → Same G (F.st H') → RepS K (F.st H') σ' ρ' → D.bk σ' H'
  ct : ∀ σ' H' ρ' m, P.ct ρ' m → F.J m H' → Same G (F.st H') → RepS K (F.st H') σ' ρ' → D.ct σ' H'
def wS {S : Type} (F : Eff S) (K : PySem.W.Frag) (t : TS) (ρ : List Sl) (n : S) (P : Po S) : Prop :=
  ∀ (σ : L2.St) (H : Hp) (D : Ends), F.J n H → RepS K (F.st H) σ ρ → Meets F K (F.st H) D P → t D σ H
section
variable {S : Type} {F : Eff S} {K : PySem.W.Frag} {ρ : List Sl} {n : S} {Φ : Sl → S → Prop} {Ψ : List Sl → S → Prop} {Θ : Bool → S → Prop} {P : Po S} {ta tb tc te : TE} {ar tr : TA} {c d : TT} {t u : TS} {g : TG} {r : R2}
theorem Meets.go {G G' : Hp} {D : Ends} (m : Meets F K G D P) (e : Same G G') : Meets F K G' D P :=
  ⟨fun σ' H' ρ' k p j s r => m.nx σ' H' ρ' k p j (e.trans s) r, fun v H' r k p j s q => m.rt v H' r k p j (e.trans s) q, fun σ' H' ρ' k p j s r => m.bk σ' H' ρ' k p j (e.trans s) r, fun σ' H' ρ' k p j s r => m.ct σ' H' ρ' k p j (e.trans s) r⟩
/-! ### expressions -/
theorem w_var {i : Nat} {s : Sl} (h : ρ[i]? = some s) (hn : s ≠ .no) (q : Φ s n) : wE F K (tVar i) ρ n Φ := fun σ H Q j r k => by
  obtain ⟨v, e, rv⟩ := r.get h hn
  exact ⟨v, e, k v H s n q j (Same.refl _) rv⟩
theorem w_int {i : Int} (q : Φ (.dat (.int i)) n) : wE F K (tC (.int i)) ρ n Φ := fun σ H Q j r k => k _ H _ n q j (Same.refl _) (.int i)
theorem w_str {x : Str} (q : Φ (.dat (.str x)) n) : wE F K (tC (.str x)) ρ n Φ := fun σ H Q j r k => k _ H _ n q j (Same.refl _) (.str x)
theorem w_non (q : Φ (.dat .none) n) : wE F K (tC .non) ρ n Φ := fun σ H Q j r k => k _ H _ n q j (Same.refl _) .non
theorem w_bl {b : Bool} (q : Φ (.dat (.bool b)) n) : wE F K (tC (.bl b)) ρ n Φ := fun σ H Q j r k => k _ H _ n q j (Same.refl _) (.bl b)
theorem w_raw {v : V} (q : Φ (.raw v) n) : wE F K (tC v) ρ n Φ := fun σ H Q j r k => k v H (.raw v) n q j (Same.refl _) rfl
theorem w_op (h : wE F K ta ρ n fun a m => wE F K tb ρ m fun b k => wR F K r a b k Φ) : wE F K (tOp r ta tb) ρ n Φ := fun σ H Q j rp q =>
  h σ H _ j rp fun x H1 a m h2 j1 s1 rx => h2 σ H1 _ j1 (rp.mono s1) fun y H2 b k h3 j2 s2 ry => h3 x y H2 Q j2 (rx.mono s2) ry fun v H' s l p j' s' rv => q v H' s l p j' (s1.trans (s2.trans s')) rv
theorem w_un {r : V → Hp → VK → Prop} (h : wE F K ta ρ n fun a m => wU F K r a m Φ) : wE F K (tUn r ta) ρ n Φ := fun σ H Q j rp q =>
  h σ H _ j rp fun x H1 a m h2 j1 s1 rx => h2 x H1 Q j1 rx fun v H' s l p j' s' rv => q v H' s l p j' (s1.trans s') rv
theorem w_nil (q : Ψ [] n) : wA F K tNil ρ n Ψ := fun σ H Q j rp k => k [] H [] n q j (Same.refl _) .nil
theorem w_cons (h : wE F K te ρ n fun a m => wA F K tr ρ m fun as k => Ψ (a :: as) k) : wA F K (tCons te tr) ρ n Ψ := fun σ H Q j rp q =>
  h σ H _ j rp fun x H1 a m h2 j1 s1 rx => h2 σ H1 _ j1 (rp.mono s1) fun xs H2 as k p j2 s2 rxs => q (x :: xs) H2 (a :: as) k p j2 (s1.trans s2) (.cons (rx.mono s2) rxs)
theorem w_tup (h : wA F K ar ρ n fun rs m => ∃ ds : List PyData, rs = ds.map .dat ∧ ds.length ≤ 100000 ∧ Φ (.dat (.tuple ds)) m) : wE F K (tTup ar) ρ n Φ := fun σ H Q j rp q =>
  h σ H _ j rp fun vs H1 rs m ⟨ds, e, hl, p⟩ j1 s1 rv => by
    subst e
    have dq := rv.dats
    refine ⟨sz _ (by rw [dq.length]; exact hl), fun a na => ?_⟩
    exact q (.ref a) _ _ m p (Eff.keep (same_upd na) j1) (s1.trans (Eff.mono (same_upd na))) (.tup (.inl (.inl (Eff.new j1 na))) (dq.mono (Eff.mono (same_upd na))))
theorem w_lst (h : wA F K ar ρ n fun rs m => ∃ ds : List PyData, rs = ds.map .dat ∧ ds.length ≤ 100000 ∧ Φ (.dat (.list ds)) m) : wE F K (tLst ar) ρ n Φ := fun σ H Q j rp q =>
  h σ H _ j rp fun vs H1 rs m ⟨ds, e, hl, p⟩ j1 s1 rv => by
    subst e
    have dq := rv.dats
    refine ⟨sz _ (by rw [dq.length]; exact hl), fun a na => ?_⟩
    exact q (.ref a) _ _ m p (Eff.keep (same_upd na) j1) (s1.trans (Eff.mono (same_upd na))) (.lst (Eff.new j1 na) (dq.mono (Eff.mono (same_upd na))))
theorem w_CB {r : List V → Hp → VK → Prop} (h : wA F K ar ρ n fun as m => wC F K r as m Φ) : wE F K (tCB r ar) ρ n Φ := fun σ H Q j rp q =>
  h σ H _ j rp fun vs H1 as m h2 j1 s1 ra => h2 vs H1 Q j1 ra fun v H' s l p j' s' rv => q v H' s l p j' (s1.trans s') rv
theorem w_call {sp : Sp} (h : wA F K ar ρ n fun as m => wC F K (fun vs H Q => sp vs H Q E0) as m Φ) : wE F K (tCall sp [] E0 ar) ρ n Φ := fun σ H Q j rp q =>
  h σ H _ j rp fun vs H1 as m h2 j1 s1 ra => by
    show sp (vs ++ []) H1 Q E0
    rw [List.append_nil]
    exact h2 vs H1 Q j1 ra fun v H' s l p j' s' rv => q v H' s l p j' (s1.trans s') rv
theorem w_if (h : wT F K c ρ n fun b m => (b = true → wE F K ta ρ m Φ) ∧ (b = false → wE F K tb ρ m Φ)) : wE F K (tIf c ta tb) ρ n Φ := fun σ H Q j rp q =>
  h σ H _ j rp fun b H1 m h2 j1 s1 => by
    have q' : ∀ v H' r m, Φ r m → F.J m H' → Same (F.st H1) (F.st H') → RepV K (F.st H') v r → Q v H' := fun v H' r m p j s rv => q v H' r m p j (s1.trans s) rv
    cases b with
    | true => exact h2.1 rfl σ H1 Q j1 (rp.mono s1) q'
    | false => exact h2.2 rfl σ H1 Q j1 (rp.mono s1) q'
theorem w_andV (h : wE F K ta ρ n fun a m => ∃ b, a = .dat (.bool b) ∧ (b = true → wE F K tb ρ m Φ) ∧ (b = false → Φ (.dat (.bool false)) m)) : wE F K (tAndV ta tb) ρ n Φ := fun σ H Q j rp q =>
  h σ H _ j rp fun x H1 a m ⟨b, e, h2, h3⟩ j1 s1 rx => by
    subst e
    cases rx
    refine ⟨b, rfl, ?_⟩
    cases b with
    | true => exact h2 rfl σ H1 Q j1 (rp.mono s1) fun v H' r m p j s rv => q v H' r m p j (s1.trans s) rv
    | false => exact q _ H1 _ m (h3 rfl) j1 s1 (.bl false)
theorem w_orV (h : wE F K ta ρ n fun a m => ∃ b, a = .dat (.bool b) ∧ (b = true → Φ (.dat (.bool true)) m) ∧ (b = false → wE F K tb ρ m Φ)) : wE F K (tOrV ta tb) ρ n Φ := fun σ H Q j rp q =>
  h σ H _ j rp fun x H1 a m ⟨b, e, h2, h3⟩ j1 s1 rx => by
    subst e
    cases rx
    refine ⟨b, rfl, ?_⟩
    cases b with
    | true => exact q _ H1 _ m (h2 rfl) j1 s1 (.bl true)
    | false => exact h3 rfl σ H1 Q j1 (rp.mono s1) fun v H' r m p j s rv => q v H' r m p j (s1.trans s) rv
theorem w_notV (h : wE F K ta ρ n fun a m => ∃ b, a = .dat (.bool b) ∧ Φ (.dat (.bool (!b))) m) : wE F K (tNotV ta) ρ n Φ := fun σ H Q j rp q =>
  h σ H _ j rp fun x H1 a m ⟨b, e, h2⟩ j1 s1 rx => by
    subst e
    cases rx
    exact ⟨b, rfl, q _ H1 _ m h2 j1 s1 (.bl _)⟩
theorem w_isN (h : wE F K ta ρ n fun a m => ∃ d, a = .dat d ∧ Φ (.dat (.bool (match d with | .none => true | _ => false))) m) : wE F K (tIsN ta) ρ n Φ := fun σ H Q j rp q =>
  h σ H _ j rp fun x H1 a m ⟨d, e, h2⟩ j1 s1 rx => by
    subst e
    refine q _ H1 _ m h2 j1 s1 ?_
    cases rx <;> exact .bl _
theorem w_notN (h : wE F K ta ρ n fun a m => ∃ d, a = .dat d ∧ Φ (.dat (.bool (match d with | .none => false | _ => true))) m) : wE F K (tNotN ta) ρ n Φ := fun σ H Q j rp q =>
  h σ H _ j rp fun x H1 a m ⟨d, e, h2⟩ j1 s1 rx => by
    subst e
    refine q _ H1 _ m h2 j1 s1 ?_
    cases rx <;> exact .bl _
/-! ### tests -/
theorem w_test (h : wE F K te ρ n fun a m => ∃ b, a = .dat (.bool b) ∧ Θ b m) : wT F K (tTest te) ρ n Θ := fun σ H Q j rp q =>
  h σ H _ j rp fun x H1 a m ⟨b, e, h2⟩ j1 s1 rx => by
    subst e
    cases rx
    exact ⟨b, rfl, q b H1 m h2 j1 s1⟩
theorem w_tB (h : wE F K te ρ n fun a m => ∃ b, a = .dat (.bool b) ∧ Θ b m) : wT F K (tB te) ρ n Θ := w_test h
theorem w_not (h : wT F K c ρ n fun b m => Θ (!b) m) : wT F K (tNot c) ρ n Θ := fun σ H Q j rp q => h σ H _ j rp fun b H1 m p j1 s1 => q _ H1 m p j1 s1
theorem w_and (h : wT F K c ρ n fun b m => (b = true → wT F K d ρ m Θ) ∧ (b = false → Θ false m)) : wT F K (tAnd c d) ρ n Θ := fun σ H Q j rp q =>
  h σ H _ j rp fun b H1 m h2 j1 s1 => by
    cases b with
    | true => exact h2.1 rfl σ H1 Q j1 (rp.mono s1) fun b H' m p j s => q b H' m p j (s1.trans s)
    | false => exact q false H1 m (h2.2 rfl) j1 s1
theorem w_or (h : wT F K c ρ n fun b m => (b = true → Θ true m) ∧ (b = false → wT F K d ρ m Θ)) : wT F K (tOr c d) ρ n Θ := fun σ H Q j rp q =>
  h σ H _ j rp fun b H1 m h2 j1 s1 => by
    cases b with
    | true => exact q true H1 m (h2.1 rfl) j1 s1
    | false => exact h2.2 rfl σ H1 Q j1 (rp.mono s1) fun b H' m p j s => q b H' m p j (s1.trans s)
theorem w_yes (q : Θ true n) : wT F K tYes ρ n Θ := fun σ H Q j rp k => k true H n q j (Same.refl _)
/-! ### statements -/
theorem w_next (q : P.nx ρ n) : wS F K tNext ρ n P := fun σ H D j rp M => M.nx σ H ρ n q j (Same.refl _) rp
theorem w_seq (h : wS F K t ρ n { P with nx := fun ρ' m => wS F K u ρ' m P }) : wS F K (tSeq t u) ρ n P := fun σ H D j rp M =>
  h σ H _ j rp ⟨fun σ' H' ρ' m p j' s' r' => p σ' H' D j' r' (M.go s'), M.rt, M.bk, M.ct⟩
theorem w_ret (h : wE F K te ρ n P.rt) : wS F K (tRet te) ρ n P := fun σ H D j rp M => h σ H D.rt j rp M.rt
theorem w_retN (q : P.rt (.dat .none) n) : wS F K tRetN ρ n P := fun σ H D j rp M => M.rt .non H _ n q j (Same.refl _) .non
theorem w_break (q : P.bk ρ n) : wS F K tBreak ρ n P := fun σ H D j rp M => M.bk σ H ρ n q j (Same.refl _) rp
theorem w_cont (q : P.ct ρ n) : wS F K tCont ρ n P := fun σ H D j rp M => M.ct σ H ρ n q j (Same.refl _) rp
theorem w_drop (h : wE F K te ρ n fun _ m => P.nx ρ m) : wS F K (tDrop te) ρ n P := fun σ H D j rp M =>
  h σ H _ j rp fun v H' r m p j' s' _ => M.nx σ H' ρ m p j' s' (rp.mono s')
theorem w_ifS (h : wT F K c ρ n fun b m => (b = true → wS F K t ρ m P) ∧ (b = false → wS F K u ρ m P)) : wS F K (tIfS c t u) ρ n P := fun σ H D j rp M =>
  h σ H _ j rp fun b H1 m h2 j1 s1 => by
    cases b with
    | true => exact h2.1 rfl σ H1 D j1 (rp.mono s1) (M.go s1)
    | false => exact h2.2 rfl σ H1 D j1 (rp.mono s1) (M.go s1)
theorem w_asg (h : wE F K te ρ n fun a m => wG F K g a ρ m P.nx) : wS F K (tAsg te g) ρ n P := fun σ H D j rp M =>
  h σ H _ j rp fun x H1 a m h2 j1 s1 rx => h2 x σ H1 D.nx j1 rx (rp.mono s1) fun σ' H' ρ' k p j' s' r' => M.nx σ' H' ρ' k p j' (s1.trans s') r'
theorem w_name {i : Nat} {a : Sl} (q : Ψ (ρ.set i a) n) : wG F K (gName i) a ρ n Ψ := fun x σ H Q j rx rp k => k _ H _ n q j (Same.refl _) (rp.set i rx)
theorem w_par {i k : Nat} (h : wA F K ar ρ n fun as m => ∃ a b, as = [a, b] ∧ P.nx ((ρ.set i a).set k b) m) : wS F K (tPar i k ar) ρ n P := fun σ H D j rp M =>
  h σ H _ j rp fun vs H1 as m ⟨a, b, e, p⟩ j1 s1 ra => by
    subst e
    cases ra with
    | cons r1 ra =>
      cases ra with
      | cons r2 ra =>
        cases ra
        exact ⟨_, _, rfl, M.nx _ H1 _ m p j1 s1 (((rp.mono s1).set i r1).set k r2)⟩
theorem w_gtup {k : Nat} {gs : TGs} {ds : List PyData} (hl : ds.length = k) (h : wGs F K gs (ds.map .dat) ρ n Ψ) : wG F K (gTup K k gs) (.dat (.tuple ds)) ρ n Ψ := fun x σ H Q j rx rp q => by
  cases rx with
  | tup hs ha =>
    refine ⟨_, _, rfl, SqT.mono Eff.sub hs, by rw [ha.length]; exact hl, ?_⟩
    refine h _ σ H Q j ?_ rp q
    have go : ∀ {vs : List V} {ds : List PyData}, DqAll K (F.st H) vs ds → RepA K (F.st H) vs (ds.map .dat) := by
      intro vs
      induction vs with
      | nil =>
        intro ds h
        cases h
        exact .nil
      | cons v vs ih =>
        intro ds h
        cases h with
        | cons h1 h2 => exact .cons h1 (ih h2)
    exact go ha
theorem w_gnil (q : Ψ ρ n) : wGs F K gNil [] ρ n Ψ := fun xs σ H Q j ra rp k => by
  cases ra
  exact ⟨rfl, k σ H ρ n q j (Same.refl _) rp⟩
theorem w_gcons {gs : TGs} {a : Sl} {as : List Sl} (h : wG F K g a ρ n fun ρ' m => wGs F K gs as ρ' m Ψ) : wGs F K (gCons g gs) (a :: as) ρ n Ψ := fun xs σ H Q j ra rp q => by
  cases ra with
  | cons r1 ra =>
    refine ⟨_, _, rfl, h _ σ H _ j r1 rp fun σ' H' ρ' m h2 j' s' r' => ?_⟩
    exact h2 _ σ' H' Q j' (ra.mono s') r' fun σ2 H2 ρ2 k p j2 s2 r2 => q σ2 H2 ρ2 k p j2 (s'.trans s2) r2
end
end WkD
/-! Loops, comprehensions and defs, told over data. -/
namespace WkD
open PySem PySem.Spec PyProof.Rows L2 WkH WkQ WkS WkF
/-! ### for -/
/-- what a loop over the data ds wants of its body: I i ρ m ahead of turn i -/
def Loop {S : Type} (F : Eff S) (K : PySem.W.Frag) (ds : List PyData) (g : TG) (tb : TS) (ρ : List Sl) (n : S) (P : Po S) : Prop :=
  ∃ I : Nat → List Sl → S → Prop, I 0 ρ n ∧ (∀ i d ρ' m, ds[i]? = some d → I i ρ' m → wG F K g (.dat d) ρ' m fun ρ2 k => wS F K tb ρ2 k { nx := I (i + 1), rt := P.rt, bk := P.nx, ct := I (i + 1) }) ∧ ∀ ρ' m, I ds.length ρ' m → P.nx ρ' m
section
variable {S : Type} {F : Eff S} {K : PySem.W.Frag} {ρ : List Sl} {n : S} {Φ : Sl → S → Prop} {P : Po S} {te : TE} {ar : TA} {g : TG} {tb : TS}
theorem w_forL (h : wE F K te ρ n fun a m => ∃ ds, a = .dat (.list ds) ∧ Loop F K ds g tb ρ m P) : wS F K (tFor (iList K te) g tb) ρ n P := fun σ H D j rp M =>
  h σ H _ j rp fun x H1 a m ⟨ds, e, I, h0, hs, hd⟩ j1 s1 rx => by
    subst e
    cases rx with
    | @lst a xs _ hx ha =>
      refine ⟨_, rfl, ⟨_, SqL.of (Eff.sub _ _ hx)⟩, ?_⟩
      refine for_list (xs := xs) (fun i σ' H' => ∃ ρ' k, I i ρ' k ∧ F.J k H' ∧ Same (F.st H1) (F.st H') ∧ RepS K (F.st H') σ' ρ') ⟨ρ, m, h0, j1, Same.refl _, rp.mono s1⟩ (fun i σ' H' _ ⟨ρ', k, _, _, s, _⟩ => SqL.of (Eff.sub _ _ (s _ _ hx))) (fun i x σ' H' hi ⟨ρ', k, p, jk, s, rk⟩ => ?_) fun σ' H' ⟨ρ', k, p, jk, s, rk⟩ => ?_
      · obtain ⟨d, hd', dq⟩ := ha.getV hi
        refine hs i d ρ' k hd' p x σ' H' _ jk (dq.mono s) rk fun σ2 H2 ρ2 k2 h2 j2 s2 r2 => ?_
        exact h2 σ2 H2 _ j2 r2 ⟨fun σ3 H3 ρ3 k3 p3 j3 s3 r3 => ⟨ρ3, k3, p3, j3, s.trans (s2.trans s3), r3⟩, fun v H3 r k3 p3 j3 s3 r3 => M.rt v H3 r k3 p3 j3 (s1.trans (s.trans (s2.trans s3))) r3,
          fun σ3 H3 ρ3 k3 p3 j3 s3 r3 => M.nx σ3 H3 ρ3 k3 p3 j3 (s1.trans (s.trans (s2.trans s3))) r3, fun σ3 H3 ρ3 k3 p3 j3 s3 r3 => ⟨ρ3, k3, p3, j3, s.trans (s2.trans s3), r3⟩⟩
      · rw [ha.length] at p
        exact M.nx σ' H' ρ' k (hd ρ' k p) jk (s1.trans s) rk
theorem w_forT (h : wE F K te ρ n fun a m => ∃ ds, a = .dat (.tuple ds) ∧ Loop F K ds g tb ρ m P) : wS F K (tFor (iTup K te) g tb) ρ n P := fun σ H D j rp M =>
  h σ H _ j rp fun x H1 a m ⟨ds, e, I, h0, hs, hd⟩ j1 s1 rx => by
    subst e
    cases rx with
    | @tup a xs _ hx ha =>
      refine ⟨_, rfl, ⟨_, SqT.mono Eff.sub hx⟩, ?_⟩
      refine for_tup (xs := xs) (fun i σ' H' => ∃ ρ' k, I i ρ' k ∧ F.J k H' ∧ Same (F.st H1) (F.st H') ∧ RepS K (F.st H') σ' ρ') ⟨ρ, m, h0, j1, Same.refl _, rp.mono s1⟩ (fun i σ' H' _ ⟨ρ', k, _, _, s, _⟩ => SqT.mono Eff.sub (SqT.mono s hx)) (fun i x σ' H' hi ⟨ρ', k, p, jk, s, rk⟩ => ?_) fun σ' H' ⟨ρ', k, p, jk, s, rk⟩ => ?_
      · obtain ⟨d, hd', dq⟩ := ha.getV hi
        refine hs i d ρ' k hd' p x σ' H' _ jk (dq.mono s) rk fun σ2 H2 ρ2 k2 h2 j2 s2 r2 => ?_
        exact h2 σ2 H2 _ j2 r2 ⟨fun σ3 H3 ρ3 k3 p3 j3 s3 r3 => ⟨ρ3, k3, p3, j3, s.trans (s2.trans s3), r3⟩, fun v H3 r k3 p3 j3 s3 r3 => M.rt v H3 r k3 p3 j3 (s1.trans (s.trans (s2.trans s3))) r3,
          fun σ3 H3 ρ3 k3 p3 j3 s3 r3 => M.nx σ3 H3 ρ3 k3 p3 j3 (s1.trans (s.trans (s2.trans s3))) r3, fun σ3 H3 ρ3 k3 p3 j3 s3 r3 => ⟨ρ3, k3, p3, j3, s.trans (s2.trans s3), r3⟩⟩
      · rw [ha.length] at p
        exact M.nx σ' H' ρ' k (hd ρ' k p) jk (s1.trans s) rk
/-- the intsD lo, lo + 1, .., k of them -/
def intsD (lo : Int) (k : Nat) : List PyData := (List.range k).map fun (i : Nat) => .int (lo + (i : Int))
theorem intsD_get {lo : Int} {k i : Nat} (h : i < k) : (intsD lo k)[i]? = some (.int (lo + (i : Int))) := by
  unfold intsD
  rw [List.getElem?_map, List.getElem?_range h]
  rfl
theorem intsD_length {lo : Int} {k : Nat} : (intsD lo k).length = k := by
  unfold intsD
  rw [List.length_map, List.length_range]
theorem loop_rng {lo : Int} {k : Nat} {m : S} {σ : L2.St} {H H1 : Hp} {D : Ends} (L : Loop F K (intsD lo k) g tb ρ m P) (j1 : F.J m H1) (s1 : Same (F.st H) (F.st H1)) (rp : RepS K (F.st H1) σ ρ) (M : Meets F K (F.st H) D P) :
    ∃ W : Nat → Nat → L2.St → Hp → Prop, (∃ m, W 0 m σ H1) ∧ ∀ i m σ H, W i m σ H →
      ((Itr lo k).stop i H ∧ D.nx σ H) ∨ ((Itr lo k).go i H ∧ ∃ N : L2.St → Hp → Prop, (∀ σ' H', N σ' H' → ∃ m', m' < m ∧ W (i + 1) m' σ' H') ∧ ∀ x H', (Itr lo k).yld i H x H' → g x σ H' fun σ2 H2 => tb { D with nx := N, ct := N, bk := D.nx } σ2 H2) := by
  obtain ⟨I, h0, hs, hd⟩ := L
  refine for_range (fun i σ' H' => ∃ ρ' k, I i ρ' k ∧ F.J k H' ∧ Same (F.st H1) (F.st H') ∧ RepS K (F.st H') σ' ρ') ⟨ρ, m, h0, j1, Same.refl _, rp⟩ (fun i σ' H' hi ⟨ρ', q, p, jk, s, rk⟩ => ?_) fun σ' H' ⟨ρ', q, p, jk, s, rk⟩ => ?_
  · refine hs i _ ρ' q (intsD_get hi) p _ σ' H' _ jk (.int _) rk fun σ2 H2 ρ2 k2 h2 j2 s2 r2 => ?_
    exact h2 σ2 H2 _ j2 r2 ⟨fun σ3 H3 ρ3 k3 p3 j3 s3 r3 => ⟨ρ3, k3, p3, j3, s.trans (s2.trans s3), r3⟩, fun v H3 r k3 p3 j3 s3 r3 => M.rt v H3 r k3 p3 j3 (s1.trans (s.trans (s2.trans s3))) r3,
      fun σ3 H3 ρ3 k3 p3 j3 s3 r3 => M.nx σ3 H3 ρ3 k3 p3 j3 (s1.trans (s.trans (s2.trans s3))) r3, fun σ3 H3 ρ3 k3 p3 j3 s3 r3 => ⟨ρ3, k3, p3, j3, s.trans (s2.trans s3), r3⟩⟩
  · have p' : I (intsD lo k).length ρ' q := by rw [intsD_length]; exact p
    exact M.nx σ' H' ρ' q (hd ρ' q p') jk (s1.trans s) rk
theorem w_forR1 (h : wA F K ar ρ n fun as m => ∃ j : Int, as = [.dat (.int j)] ∧ -(2 ^ 62) ≤ j ∧ j < 2 ^ 62 ∧ Loop F K (intsD 0 j.toNat) g tb ρ m P) : wS F K (tFor (iRng1 ar) g tb) ρ n P := fun σ H D j rp M =>
  h σ H _ j rp fun vs H1 as m ⟨k, e, b1, b2, L⟩ j1 s1 ra => by
    subst e
    cases ra with
    | cons r1 ra =>
      cases ra
      cases r1
      exact ⟨k, rfl, b1, b2, loop_rng L j1 s1 (rp.mono s1) M⟩
theorem w_forR2 (h : wA F K ar ρ n fun as m => ∃ i j : Int, as = [.dat (.int i), .dat (.int j)] ∧ (-(2 ^ 62) ≤ i ∧ i < 2 ^ 62 ∧ -(2 ^ 62) ≤ j ∧ j < 2 ^ 62) ∧ Loop F K (intsD i (j - i).toNat) g tb ρ m P) : wS F K (tFor (iRng2 ar) g tb) ρ n P := fun σ H D j rp M =>
  h σ H _ j rp fun vs H1 as m ⟨i, k, e, b, L⟩ j1 s1 ra => by
    subst e
    cases ra with
    | cons r1 ra =>
      cases ra with
      | cons r2 ra =>
        cases ra
        cases r1
        cases r2
        exact ⟨i, k, rfl, b, loop_rng L j1 s1 (rp.mono s1) M⟩
/-! ### comprehensions -/
/-- a list under way is out of sight -/
def Eff.hide {S : Type} (F : Eff S) (D : Addr) (xs : List V) : Eff S where
  own := fun a => F.own a ∨ a = D
  J := fun n H => F.J n H ∧ H D = some (.lst xs)
  at_ := fun {n H a} j h => by
    rcases h with h | h
    · exact F.at_ j.1 h
    · rw [h, j.2]
      exact fun z => nomatch z
  loc := fun {n H H'} e kp j => ⟨F.loc (fun a h => e a (.inl h)) kp j.1, (e D (.inr rfl)).trans j.2⟩
theorem hide_sub {D : Addr} {xs : List V} {H : Hp} : Same ((F.hide D xs).st H) (F.st H) := fun a u h => by
  unfold Eff.st at h ⊢
  split at h
  · cases h
  · rename_i z
    rw [if_neg (fun y => z (.inl y))]
    exact h
theorem hide_upd {D : Addr} {xs ys : List V} {H : Hp} {o : HO} : (F.hide D xs).st (upd H D o) = (F.hide D ys).st H := by
  funext a
  by_cases z : (F.hide D ys).own a
  · rw [Eff.st_own z, Eff.st_own (show (F.hide D xs).own a from z)]
  · rw [Eff.st_ne z, Eff.st_ne (show ¬ (F.hide D xs).own a from z)]
    exact upd_ne (fun y => z (.inr y))
theorem hide_new {D : Addr} {xs : List V} {H : Hp} {o : HO} (h : H D = none) : Same (F.st H) ((F.hide D xs).st (upd H D o)) := fun a u e => by
  rw [hide_upd (ys := xs)]
  unfold Eff.st at e ⊢
  split at e
  · cases e
  · rename_i z
    have : a ≠ D := ne_of_none e h
    rw [if_neg (fun y => y.elim z this)]
    exact e
def wipeR (ρ : List Sl) : List Nat → List Sl
  | [] => ρ
  | v :: vs => (wipeR ρ vs).set v .no
theorem RepS.wipe {G : Hp} {σ : L2.St} (h : RepS K G σ ρ) : ∀ vs : List Nat, RepS K G (wipe σ vs) (wipeR ρ vs)
  | [] => h
  | v :: vs => (RepS.wipe h vs).wipe1 v
/-- the target writes the comprehension's own slots alone -/
def Sets (g : TG) (vs : List Nat) : Prop := ∀ (x : V) (σ : L2.St) (H : Hp) (Q : L2.St → Hp → Prop), g x (wipe σ vs) H Q → g x (wipe σ vs) H fun σ2 H2 => wipe σ2 vs = wipe σ vs ∧ Q σ2 H2
theorem wipe_get (σ : L2.St) : ∀ (vs : List Nat) (k : Nat), (wipe σ vs)[k]? = if k ∈ vs then (if k < σ.length then some none else none) else σ[k]?
  | [], k => by simp [wipe]
  | v :: vs, k => by
    show ((wipe σ vs).set v none)[k]? = _
    rw [List.getElem?_set, wipe_get σ vs k, wipe_length]
    by_cases h : v = k
    · subst h
      simp
    · have h2 : ¬ k = v := fun z => h z.symm
      simp [h, h2]
theorem wipe_set {σ : L2.St} {vs : List Nat} {i : Nat} {o : Option V} (h : i ∈ vs) : wipe ((wipe σ vs).set i o) vs = wipe σ vs := by
  refine List.ext_getElem? fun k => ?_
  rw [wipe_get, wipe_get, List.length_set, wipe_length, List.getElem?_set, wipe_get, wipe_length]
  by_cases hk : k ∈ vs
  · simp [hk]
  · have : i ≠ k := fun z => hk (z ▸ h)
    simp [hk, this]
theorem sets_name {i : Nat} {vs : List Nat} (h : i ∈ vs) : Sets (gName i) vs := fun x σ H Q q => ⟨wipe_set h, q⟩
theorem wipe_set2 {σ : L2.St} {vs : List Nat} {i k : Nat} {o u : Option V} (h : i ∈ vs) (h' : k ∈ vs) : wipe (((wipe σ vs).set i o).set k u) vs = wipe σ vs := by
  refine List.ext_getElem? fun q => ?_
  rw [wipe_get, wipe_get, List.length_set, List.length_set, wipe_length, List.getElem?_set, List.length_set, List.getElem?_set, wipe_get, wipe_length]
  by_cases hk : q ∈ vs
  · simp [hk]
  · have h1 : i ≠ q := fun z => hk (z ▸ h)
    have h2 : k ≠ q := fun z => hk (z ▸ h')
    simp [hk, h1, h2]
theorem sets_two {i k : Nat} {vs : List Nat} (h : i ∈ vs) (h' : k ∈ vs) {l : Nat} : Sets (gTup K l (gCons (gName i) (gCons (gName k) gNil))) vs := fun x σ H Q q => by
  obtain ⟨a, xs, e1, e2, e3, v, r, e4, v2, r2, e5, e6, q⟩ := q
  exact ⟨a, xs, e1, e2, e3, v, r, e4, v2, r2, e5, e6, wipe_set2 h h', q⟩
/-- what a comprehension over the data ds wants: I i acc m ahead of turn i, acc made so far -/
def Made {S : Type} (F : Eff S) (K : PySem.W.Frag) (ds : List PyData) (g : TG) (tt : TT) (te : TE) (vs : List Nat) (ρ : List Sl) (n : S) (Φ : Sl → S → Prop) : Prop :=
  ∃ I : Nat → List PyData → S → Prop, I 0 [] n ∧ (∀ D xs i d acc m, ¬ F.own D → ds[i]? = some d → acc.length ≤ i → I i acc m → wG (F.hide D xs) K g (.dat d) (wipeR ρ vs) m fun ρ2 k => wT (F.hide D xs) K tt ρ2 k fun b k2 =>
      (b = true → wE (F.hide D xs) K te ρ2 k2 fun r k3 => ∃ y, r = .dat y ∧ I (i + 1) (acc ++ [y]) k3) ∧ (b = false → I (i + 1) acc k2)) ∧ ∀ acc m, I ds.length acc m → acc.length ≤ ds.length → Φ (.dat (.list acc)) m
end
end WkD
/-! Comprehensions and defs, told over data. -/
namespace WkD
open PySem PySem.Spec PyProof.Rows L2 WkH WkQ WkS WkF
section
variable {S : Type} {F : Eff S} {K : PySem.W.Frag} {ρ : List Sl} {n : S} {Φ : Sl → S → Prop} {P : Po S} {ta te : TE} {ar : TA} {g : TG} {tt : TT} {vs : List Nat}
/-- what stands while the list at D is made: v's data, i turns behind -/
def LcInv {S : Type} (F : Eff S) (K : PySem.W.Frag) (H1 : Hp) (D : Addr) (I : Nat → List PyData → S → Prop) (i : Nat) (H : Hp) : Prop :=
  ∃ (ws : List V) (ds : List PyData) (m : S), H D = some (.lst ws) ∧ DqAll K ((F.hide D []).st H) ws ds ∧ ds.length ≤ i ∧ I i ds m ∧ F.J m H ∧ Same (F.st H1) ((F.hide D []).st H)
theorem hide_J {D : Addr} {m : S} {H : Hp} {ws : List V} {o : HO} (nD : ¬ F.own D) (hD : H D = some (.lst ws)) (j : F.J m H) : F.J m (upd H D o) := F.loc (fun a ha => upd_ne (fun z => nD (z ▸ ha))) (Keeps.upd hD (fun _ z => nomatch z) fun _ _ z => nomatch z) j
/-- one turn -/
theorem lc_turn {σ : L2.St} {H1 H : Hp} {D : Addr} {I : Nat → List PyData → S → Prop} {i : Nat} {d : PyData} {x : V} (hi : i < 100000) (hset : Sets g vs) (nD : ¬ F.own D) (L : LcInv F K H1 D I i H) (rp : RepS K (F.st H1) σ ρ) (dq : Dq K ((F.hide D []).st H) x d)
    (hb : ∀ xs acc m, acc.length ≤ i → I i acc m → wG (F.hide D xs) K g (.dat d) (wipeR ρ vs) m fun ρ2 k => wT (F.hide D xs) K tt ρ2 k fun b k2 => (b = true → wE (F.hide D xs) K te ρ2 k2 fun r k3 => ∃ y, r = .dat y ∧ I (i + 1) (acc ++ [y]) k3) ∧ (b = false → I (i + 1) acc k2)) :
    g x (wipe σ vs) H fun σ2 H2 => wipe σ2 vs = wipe σ vs ∧ tt σ2 H2 fun b H3 => if b = true then te σ2 H3 fun y H4 => ∃ acc, H4 D = some (.lst acc) ∧ acc.length < sizeLine ∧ LcInv F K H1 D I (i + 1) (upd H4 D (.lst (acc ++ [y]))) else LcInv F K H1 D I (i + 1) H3 := by
  obtain ⟨ws, acc, m, hD, hq, hl, hI, j, s⟩ := L
  refine hset x σ H _ ?_
  have jh : (F.hide D ws).J m H := ⟨j, hD⟩
  refine hb ws acc m hl hI x (wipe σ vs) H _ jh dq ((rp.mono s).wipe vs) fun σ2 H2 ρ2 k h2 j2 s2 r2 => ?_
  refine h2 σ2 H2 _ j2 r2 fun b H3 k2 h3 j3 s3 => ?_
  cases b with
  | true =>
    rw [if_pos rfl]
    refine h3.1 rfl σ2 H3 _ j3 (r2.mono s3) fun y H4 r k4 ⟨d', e, hI'⟩ j4 s4 ry => ?_
    subst e
    have s24 : Same ((F.hide D []).st H) ((F.hide D []).st H4) := Same.trans s2 (Same.trans s3 s4)
    have hq4 := hq.mono s24
    refine ⟨ws, j4.2, sz (ws.length + 1) (by rw [hq.length]; omega), ws ++ [y], acc ++ [d'], k4, upd_same, ?_, by rw [List.length_append]; simp; omega, hI', hide_J (ws := ws) nD j4.2 j4.1, ?_⟩
    · rw [hide_upd (ys := [])]
      exact hq4.append (.cons ry .nil)
    · rw [hide_upd (ys := [])]
      exact s.trans s24
  | false =>
    rw [if_neg Bool.false_ne_true]
    have s23 : Same ((F.hide D []).st H) ((F.hide D []).st H3) := Same.trans s2 s3
    exact ⟨ws, acc, k2, j3.2, hq.mono s23, by omega, h3.2 rfl, j3.1, s.trans s23⟩
theorem lc_start {H1 : Hp} {D : Addr} {I : Nat → List PyData → S → Prop} {m : S} (nD : H1 D = none) (j : F.J m H1) (h0 : I 0 [] m) : LcInv F K H1 D I 0 (upd H1 D (.lst [])) :=
  ⟨[], [], m, upd_same, .nil, Nat.le_refl _, h0, Eff.keep (same_upd nD) j, hide_new nD⟩
theorem lc_end {H0 H1 H : Hp} {D : Addr} {I : Nat → List PyData → S → Prop} {k : Nat} {Q : VK} (nD : ¬ F.own D) (L : LcInv F K H1 D I k H) (s : Same (F.st H0) (F.st H1)) (hd : ∀ acc m, I k acc m → acc.length ≤ k → Φ (.dat (.list acc)) m)
    (q : ∀ v H' r m, Φ r m → F.J m H' → Same (F.st H0) (F.st H') → RepV K (F.st H') v r → Q v H') : Q (.ref D) H := by
  obtain ⟨ws, acc, m, hD, hq, hl, hI, j, s1⟩ := L
  refine q _ H _ m (hd acc m hI hl) j (s.trans (s1.trans hide_sub)) (.lst ?_ (hq.mono hide_sub))
  rw [Eff.st_ne nD]
  exact hD
theorem w_lcL (h : wE F K ta ρ n fun a m => ∃ ds, a = .dat (.list ds) ∧ ds.length ≤ 100000 ∧ Made F K ds g tt te vs ρ m Φ) (hset : Sets g vs) : wE F K (tLc (iList K ta) g tt te vs) ρ n Φ := fun σ H Q j rp q =>
  h σ H _ j rp fun x H1 a m ⟨ds, e, hz, I, h0, hs, hd⟩ j1 s1 rx => by
    subst e
    cases rx with
    | @lst a xs _ hx ha =>
      refine ⟨_, rfl, ⟨_, SqL.of (Eff.sub _ _ hx)⟩, fun D nD => ?_⟩
      have nO := Eff.fresh j1 nD
      refine lc_list (xs := xs) (LcInv F K H1 D I) (lc_start nD j1 h0) (fun i H' _ L => ?_) (fun i x H' hi L => ?_) fun H' L => ?_
      · obtain ⟨ws, acc, k, _, _, _, _, _, s⟩ := L
        exact SqL.of (Eff.sub _ _ (hide_sub _ _ (s _ _ hx)))
      · obtain ⟨d, hd', dq⟩ := ha.getV hi
        have lt : i < 100000 := by
          have := (List.getElem?_eq_some_iff.mp hd').1
          omega
        refine lc_turn lt hset nO L (rp.mono s1) ?_ fun ys acc k hl hI => hs D ys i d acc k nO hd' hl hI
        obtain ⟨ws, acc, k, _, _, _, _, _, s⟩ := L
        exact dq.mono s
      · rw [ha.length] at L
        exact lc_end nO L s1 hd q
theorem w_lcT (h : wE F K ta ρ n fun a m => ∃ ds, a = .dat (.tuple ds) ∧ ds.length ≤ 100000 ∧ Made F K ds g tt te vs ρ m Φ) (hset : Sets g vs) : wE F K (tLc (iTup K ta) g tt te vs) ρ n Φ := fun σ H Q j rp q =>
  h σ H _ j rp fun x H1 a m ⟨ds, e, hz, I, h0, hs, hd⟩ j1 s1 rx => by
    subst e
    cases rx with
    | @tup a xs _ hx ha =>
      refine ⟨_, rfl, ⟨_, SqT.mono Eff.sub hx⟩, fun D nD => ?_⟩
      have nO := Eff.fresh j1 nD
      refine lc_tup (xs := xs) (LcInv F K H1 D I) (lc_start nD j1 h0) (fun i H' _ L => ?_) (fun i x H' hi L => ?_) fun H' L => ?_
      · obtain ⟨ws, acc, k, _, _, _, _, _, s⟩ := L
        exact SqT.mono Eff.sub (SqT.mono hide_sub (SqT.mono s hx))
      · obtain ⟨d, hd', dq⟩ := ha.getV hi
        have lt : i < 100000 := by
          have := (List.getElem?_eq_some_iff.mp hd').1
          omega
        refine lc_turn lt hset nO L (rp.mono s1) ?_ fun ys acc k hl hI => hs D ys i d acc k nO hd' hl hI
        obtain ⟨ws, acc, k, _, _, _, _, _, s⟩ := L
        exact dq.mono s
      · rw [ha.length] at L
        exact lc_end nO L s1 hd q
theorem lc_rng {lo : Int} {k : Nat} {m : S} {σ : L2.St} {H H1 : Hp} {Q : VK} (hz : k ≤ 100000) (M : Made F K (intsD lo k) g tt te vs ρ m Φ) (hset : Sets g vs) (j1 : F.J m H1) (s1 : Same (F.st H) (F.st H1)) (rp : RepS K (F.st H1) σ ρ)
    (q : ∀ v H' r m, Φ r m → F.J m H' → Same (F.st H) (F.st H') → RepV K (F.st H') v r → Q v H') : ∀ D, H1 D = none → ∃ W : Nat → Nat → Hp → Prop, (∃ m, W 0 m (upd H1 D (.lst []))) ∧ ∀ i m H, W i m H →
      ((Itr lo k).stop i H ∧ Q (.ref D) H) ∨ ((Itr lo k).go i H ∧ ∃ Nx : Hp → Prop, (∀ H', Nx H' → ∃ m', m' < m ∧ W (i + 1) m' H') ∧ ∀ x H', (Itr lo k).yld i H x H' → g x (wipe σ vs) H' fun σ2 H2 => wipe σ2 vs = wipe σ vs ∧ tt σ2 H2 fun b H3 =>
        if b = true then te σ2 H3 fun y H4 => ∃ acc, H4 D = some (.lst acc) ∧ acc.length < sizeLine ∧ Nx (upd H4 D (.lst (acc ++ [y]))) else Nx H3) := fun D nD => by
  obtain ⟨I, h0, hs, hd⟩ := M
  have nO := Eff.fresh j1 nD
  refine lc_range (LcInv F K H1 D I) (lc_start nD j1 h0) (fun i H' hi L => ?_) fun H' L => ?_
  · exact lc_turn (by omega) hset nO L rp (.int _) fun ys acc k hl hI => hs D ys i _ acc k nO (intsD_get hi) hl hI
  · rw [intsD_length] at hd
    exact lc_end nO L s1 hd q
theorem w_lcR1 (h : wA F K ar ρ n fun as m => ∃ j : Int, as = [.dat (.int j)] ∧ -(2 ^ 62) ≤ j ∧ j < 2 ^ 62 ∧ j.toNat ≤ 100000 ∧ Made F K (intsD 0 j.toNat) g tt te vs ρ m Φ) (hset : Sets g vs) : wE F K (tLc (iRng1 ar) g tt te vs) ρ n Φ := fun σ H Q j rp q =>
  h σ H _ j rp fun xs H1 as m ⟨k, e, b1, b2, hz, M⟩ j1 s1 ra => by
    subst e
    cases ra with
    | cons r1 ra =>
      cases ra
      cases r1
      exact ⟨k, rfl, b1, b2, lc_rng hz M hset j1 s1 (rp.mono s1) q⟩
theorem w_lcR2 (h : wA F K ar ρ n fun as m => ∃ i j : Int, as = [.dat (.int i), .dat (.int j)] ∧ (-(2 ^ 62) ≤ i ∧ i < 2 ^ 62 ∧ -(2 ^ 62) ≤ j ∧ j < 2 ^ 62) ∧ (j - i).toNat ≤ 100000 ∧ Made F K (intsD i (j - i).toNat) g tt te vs ρ m Φ) (hset : Sets g vs) :
    wE F K (tLc (iRng2 ar) g tt te vs) ρ n Φ := fun σ H Q j rp q =>
  h σ H _ j rp fun xs H1 as m ⟨i, k, e, b, hz, M⟩ j1 s1 ra => by
    subst e
    cases ra with
    | cons r1 ra =>
      cases ra with
      | cons r2 ra =>
        cases ra
        cases r1
        cases r2
        exact ⟨i, k, rfl, b, lc_rng hz M hset j1 s1 (rp.mono s1) q⟩
end
end WkD
/-! Operations told over data, and defs by data. -/
namespace WkD
open PySem PySem.Spec PyProof.Rows L2 WkH WkQ WkS WkF
section
variable {S : Type} {F : Eff S} {K : PySem.W.Frag} {ρ : List Sl} {n : S} {Φ : Sl → S → Prop} {P : Po S} {ta tb te : TE} {ar : TA} {i j : Int} {d e : PyData} {ds es : List PyData}
theorem r_I0i {f : Int → Int → Int} (q : Φ (.dat (.int (f i j))) n) : wR F K (rI0 fun i j => .int (f i j)) (.dat (.int i)) (.dat (.int j)) n Φ := fun x y H Q jn rx ry k => by
  cases rx
  cases ry
  exact ⟨i, j, rfl, rfl, k _ H _ n q jn (Same.refl _) (.int _)⟩
theorem r_I0b {f : Int → Int → Bool} (q : Φ (.dat (.bool (f i j))) n) : wR F K (rI0 fun i j => .bl (f i j)) (.dat (.int i)) (.dat (.int j)) n Φ := fun x y H Q jn rx ry k => by
  cases rx
  cases ry
  exact ⟨i, j, rfl, rfl, k _ H _ n q jn (Same.refl _) (.bl _)⟩
theorem r_I {C : Int → Int → Prop} {f : Int → Int → Int} (hc : C i j) (q : Φ (.dat (.int (f i j))) n) : wR F K (rI C fun i j => .int (f i j)) (.dat (.int i)) (.dat (.int j)) n Φ := fun x y H Q jn rx ry k => by
  cases rx
  cases ry
  exact ⟨i, j, rfl, rfl, hc, k _ H _ n q jn (Same.refl _) (.int _)⟩
theorem u_U {f : Int → Int} (q : Φ (.dat (.int (f i))) n) : wU F K (rU fun i => .int (f i)) (.dat (.int i)) n Φ := fun x H Q jn rx k => by
  cases rx
  exact ⟨i, rfl, k _ H _ n q jn (Same.refl _) (.int _)⟩
theorem r_eqI (q : Φ (.dat (.bool (decide (i = j)))) n) : wR F K rEq (.dat (.int i)) (.dat (.int j)) n Φ := fun x y H Q jn rx ry k => by
  cases rx
  cases ry
  refine ⟨rfl, ?_⟩
  have e : decide (V.int i = V.int j) = decide (i = j) := decide_eq_decide.mpr ⟨fun z => by injection z, fun z => by rw [z]⟩
  rw [e]
  exact k _ H _ n q jn (Same.refl _) (.bl _)
theorem r_neI (q : Φ (.dat (.bool (!decide (i = j)))) n) : wR F K rNe (.dat (.int i)) (.dat (.int j)) n Φ := fun x y H Q jn rx ry k => by
  cases rx
  cases ry
  refine ⟨rfl, ?_⟩
  have e : decide (V.int i = V.int j) = decide (i = j) := decide_eq_decide.mpr ⟨fun z => by injection z, fun z => by rw [z]⟩
  rw [e]
  exact k _ H _ n q jn (Same.refl _) (.bl _)
theorem r_eqS {x y : Str} (q : Φ (.dat (.bool (decide (x = y)))) n) : wR F K rEq (.dat (.str x)) (.dat (.str y)) n Φ := fun x' y' H Q jn rx ry k => by
  cases rx
  cases ry
  refine ⟨rfl, ?_⟩
  have e : decide (V.str x = V.str y) = decide (x = y) := decide_eq_decide.mpr ⟨fun z => by injection z, fun z => by rw [z]⟩
  rw [e]
  exact k _ H _ n q jn (Same.refl _) (.bl _)
theorem r_eqB {x y : Bool} (q : Φ (.dat (.bool (decide (x = y)))) n) : wR F K rEq (.dat (.bool x)) (.dat (.bool y)) n Φ := fun x' y' H Q jn rx ry k => by
  cases rx
  cases ry
  refine ⟨rfl, ?_⟩
  have e : decide (V.bl x = V.bl y) = decide (x = y) := decide_eq_decide.mpr ⟨fun z => by injection z, fun z => by rw [z]⟩
  rw [e]
  exact k _ H _ n q jn (Same.refl _) (.bl _)
theorem r_ixT (h : atI ds i = some d) (q : Φ (.dat d) n) : wR F K (rIxT K) (.dat (.tuple ds)) (.dat (.int i)) n Φ := fun x y H Q jn rx ry k => by
  cases ry
  cases rx with
  | tup hs ha =>
    obtain ⟨v, hv, dq⟩ := ha.at_ h
    exact ⟨_, _, i, v, rfl, rfl, SqT.mono Eff.sub hs, hv, k v H _ n q jn (Same.refl _) dq⟩
theorem r_ixL (h : atI ds i = some d) (q : Φ (.dat d) n) : wR F K (rIxL K) (.dat (.list ds)) (.dat (.int i)) n Φ := fun x y H Q jn rx ry k => by
  cases ry
  cases rx with
  | lst hs ha =>
    obtain ⟨v, hv, dq⟩ := ha.at_ h
    exact ⟨_, _, i, v, rfl, rfl, SqL.of (Eff.sub _ _ hs), hv, k v H _ n q jn (Same.refl _) dq⟩
theorem r_cat (hl : ds.length + es.length ≤ 100000) (q : Φ (.dat (.list (ds ++ es))) n) : wR F K rCat (.dat (.list ds)) (.dat (.list es)) n Φ := fun x y H Q jn rx ry k => by
  cases rx with
  | lst hs ha =>
    cases ry with
    | lst hs' ha' =>
      refine ⟨_, _, _, _, rfl, rfl, Eff.sub _ _ hs, Eff.sub _ _ hs', sz _ (by rw [ha.length, ha'.length]; exact hl), fun p hp => ?_⟩
      exact k _ _ _ n q (Eff.keep (same_upd hp) jn) (Eff.mono (same_upd hp)) (.lst (Eff.new jn hp) ((ha.append ha').mono (Eff.mono (same_upd hp))))
/-! ### calls of built-ins -/
theorem c_len (h : d = .list ds ∨ d = .tuple ds) (q : Φ (.dat (.int ds.length)) n) : wC F K (fun xs H Q => ∃ p ys, xs = [V.ref p] ∧ (SqL K H p ys ∨ SqT K H p ys) ∧ Q (V.int ys.length) H) [.dat d] n Φ := fun vs H Q jn ra k => by
  cases ra with
  | cons r1 ra =>
    cases ra
    rcases h with rfl | rfl
    · cases r1 with
      | lst hs ha =>
        refine ⟨_, _, rfl, .inl (SqL.of (Eff.sub _ _ hs)), ?_⟩
        rw [ha.length]
        exact k _ H _ n q jn (Same.refl _) (.int _)
    · cases r1 with
      | tup hs ha =>
        refine ⟨_, _, rfl, .inr (SqT.mono Eff.sub hs), ?_⟩
        rw [ha.length]
        exact k _ H _ n q jn (Same.refl _) (.int _)
/-! ### defs by data -/
/-- a def that, of the data enc a (where pre a holds), comes to the data F a, and touches nothing -/
def spF (K : PySem.W.Frag) {α : Type} (enc : α → List PyData) (pre : α → Prop) (out : α → PyData) : Sp := fun vs H Q _ => ∃ (S : Type) (F : Eff S) (n : S) (a : α), F.J n H ∧ DqAll K (F.st H) vs (enc a) ∧ pre a ∧
  ∀ v H', F.J n H' → Same (F.st H) (F.st H') → Dq K (F.st H') v (out a) → Q v H'
theorem repA_of {G : Hp} : ∀ {vs : List V} {ds : List PyData}, DqAll K G vs ds → RepA K G vs (ds.map .dat)
  | _, _, .nil => .nil
  | _, _, .cons h1 h2 => .cons h1 (repA_of h2)
theorem c_fn {α : Type} {enc : α → List PyData} {pre : α → Prop} {out : α → PyData} (a : α) (hp : pre a) (q : Φ (.dat (out a)) n) : wC F K (fun vs H Q => spF K enc pre out vs H Q E0) ((enc a).map .dat) n Φ := fun vs H Q jn ra k =>
  ⟨S, F, n, a, jn, ra.dats, hp, fun v H' j' s dq => k v H' _ n q j' s dq⟩
theorem body_F {α : Type} {enc : α → List PyData} {pre : α → Prop} {out : α → PyData} {t : TS} {N : List Str} {vs : List V} {H : Hp} {Q : VK} {E : XK} (h : spF K enc pre out vs H Q E)
    (hw : ∀ {S : Type} (F : Eff S) (n : S) (a : α), pre a → wS F K t ((enc a).map .dat ++ List.replicate (N.length - (enc a).length) .no) n { nx := fun _ m => m = n ∧ out a = .none, rt := fun r m => m = n ∧ r = .dat (out a) }) :
    t { nx := fun _ H' => Q .non H', rt := Q } (L2.start N vs) H := by
  obtain ⟨S, F, n, a, jn, dq, hp, q⟩ := h
  refine hw F n a hp (L2.start N vs) H _ jn (RepS.start dq) ⟨fun σ' H' ρ' m p j s _ => ?_, fun v H' r m p j s rv => ?_, fun _ _ _ _ z => z.elim, fun _ _ _ _ z => z.elim⟩
  · obtain ⟨rfl, e⟩ := p
    exact q .non H' j s (by rw [e]; exact .non)
  · obtain ⟨rfl, rfl⟩ := p
    exact q v H' j s rv
theorem len_F {α : Type} {enc : α → List PyData} {pre : α → Prop} {out : α → PyData} {vs : List V} {H : Hp} {Q : VK} {E : XK} {k : Nat} (h : spF K enc pre out vs H Q E) (hk : ∀ a, (enc a).length = k) : vs.length = k := by
  obtain ⟨_, F, n, a, _, dq, _, _⟩ := h
  rw [dq.length, hk]
end
end WkD
/-! isinstance, equality, membership, gcd over data. -/
namespace WkD
open PySem PySem.Spec PyProof.Rows L2 WkH WkQ WkS WkF
def tyName : PyData → String
  | .none => "NoneType"
  | .bool _ => "bool"
  | .int _ => "int"
  | .str _ => "str"
  | .list _ => "list"
  | .tuple _ => "tuple"
  | .dict _ => "dict"
/-- isinstance(d, u) for the built-in classes that are asked of -/
def isA (d : PyData) (u : String) : Bool := tyName d == u || (tyName d == "bool" && u == "int")
def asked : List String := ["int", "bool", "tuple", "list", "str", "dict"]
theorem kits : ∀ t ∈ (["NoneType", "bool", "int", "str", "list", "tuple", "dict"] : List String), ∀ u ∈ asked, L2.kitB t u = some (t == u || (t == "bool" && u == "int")) := by decide +kernel
theorem tyName_mem (d : PyData) : tyName d ∈ (["NoneType", "bool", "int", "str", "list", "tuple", "dict"] : List String) := by
  cases d <;> simp [tyName]
theorem isA_kit {K : PySem.W.Frag} (d : PyData) {u : String} (hu : u ∈ asked) : PySem.W.kitOne K (.type (tyName d)) (.type u) = some (isA d u) := kit_ty (kits _ (tyName_mem d) u hu)
theorem tyX_of {K : PySem.W.Frag} {S : Type} {F : Eff S} {H : Hp} {v : V} {d : PyData} (h : Dq K (F.st H) v d) : TyX K H v (.type (tyName d)) := by
  cases h with
  | non => exact .base .non
  | bl b => exact .base (.bl b)
  | int i => exact .base (.int i)
  | str x => exact .base (.str x)
  | lst h1 _ => exact .base (.lst (Eff.sub _ _ h1))
  | tup h1 _ =>
    rcases SqT.mono Eff.sub h1 with (h | ⟨o, h⟩) | ⟨o, its, n, h, c, _⟩
    · exact .base (.tup h)
    · exact .fTuple h
    · exact .kTuple h c
  | dic h1 _ _ => exact .base (.dK (Eff.sub _ _ h1))
section
variable {S : Type} {F : Eff S} {K : PySem.W.Frag} {ρ : List Sl} {n : S} {Φ : Sl → S → Prop} {P : Po S} {ta tb te : TE} {ar : TA} {i j : Int} {d e : PyData} {ds es : List PyData}
theorem w_tyc {u : String} (q : Φ (.raw (.ty u)) n) : wE F K (tC (.ty u)) ρ n Φ := w_raw q
theorem c_isi {u : String} (hu : u ∈ asked) (q : Φ (.dat (.bool (isA d u))) n) : wC F K (rIsi K) [.dat d, .raw (.ty u)] n Φ := fun vs H Q jn ra k => by
  cases ra with
  | cons r1 ra =>
    cases ra with
    | cons r2 ra =>
      cases ra
      cases r2
      exact ⟨_, .ty u, .type (tyName d), .type u, isA d u, rfl, .ty u, tyX_of r1, isA_kit d hu, k _ H _ n q jn (Same.refl _) (.bl _)⟩
theorem c_gcd (q : Φ (.dat (.int ((Nat.gcd i.natAbs j.natAbs : Nat) : Int))) n) : wC F K rGcd [.dat (.int i), .dat (.int j)] n Φ := fun vs H Q jn ra k => by
  cases ra with
  | cons r1 ra =>
    cases ra with
    | cons r2 ra =>
      cases ra
      cases r1
      cases r2
      exact ⟨i, j, rfl, k _ H _ n q jn (Same.refl _) (.int _)⟩
/-! ### data without dicts -/
mutual
theorem dp_of {G : Hp} : ∀ {v : V} {d : PyData}, Dq K G v d → d.hasDict = false → Dp K G v d
  | _, _, .non, _ => .non
  | _, _, .bl b, _ => .bl b
  | _, _, .int i, _ => .int i
  | _, _, .str x, _ => .str x
  | _, _, .lst h1 h2, e => .lst (SqL.of h1) (dpAll_of h2 (by simpa [PyData.hasDict] using e))
  | _, _, .tup h1 h2, e => .tup h1 (dpAll_of h2 (by simpa [PyData.hasDict] using e))
  | _, _, .dic _ _ _, e => by simp [PyData.hasDict] at e
theorem dpAll_of {G : Hp} : ∀ {vs : List V} {ds : List PyData}, DqAll K G vs ds → PyData.hasDictAll ds = false → DpAll K G vs ds
  | _, _, .nil, _ => .nil
  | _ :: _, d :: ds, .cons h1 h2, e => by
    have e' : PyData.hasDict d = false ∧ PyData.hasDictAll ds = false := by simpa [PyData.hasDictAll] using e
    exact .cons (dp_of h1 e'.1) (dpAll_of h2 e'.2)
end
theorem Dq.sub {H : Hp} {v : V} (h : Dq K (F.st H) v d) : Dq K H v d := h.mono Eff.sub
theorem r_eqD (h1 : d.hasDict = false) (h2 : e.hasDict = false) (s1 : SeqAt.shaped d = true) (s2 : SeqAt.shaped e = true) (q : Φ (.dat (.bool (PyData.eqv d e))) n) : wR F K (rEqD K) (.dat d) (.dat e) n Φ := fun x y H Q jn rx ry k =>
  ⟨d, e, dp_of (Dq.sub rx) h1, dp_of (Dq.sub ry) h2, s1, s2, k _ H _ n q jn (Same.refl _) (.bl _)⟩
theorem r_neD (h1 : d.hasDict = false) (h2 : e.hasDict = false) (s1 : SeqAt.shaped d = true) (s2 : SeqAt.shaped e = true) (q : Φ (.dat (.bool (!PyData.eqv d e))) n) : wR F K (rNeD K) (.dat d) (.dat e) n Φ := fun x y H Q jn rx ry k =>
  ⟨d, e, dp_of (Dq.sub rx) h1, dp_of (Dq.sub ry) h2, s1, s2, k _ H _ n q jn (Same.refl _) (.bl _)⟩
/-! ### chains of comparisons, all(..) -/
theorem w_chain {ra rb : R2} {tx ty tz : TE} (h : wE F K tx ρ n fun a m => wE F K ty ρ m fun b k => wR F K ra a b k fun r l => ∃ q, r = .dat (.bool q) ∧ (q = true → wE F K tz ρ l fun c o => wR F K rb b c o Φ) ∧ (q = false → Φ (.dat (.bool false)) l)) :
    wE F K (tChain ra rb tx ty tz) ρ n Φ := fun σ H Q j rp q =>
  h σ H _ j rp fun x H1 a m h2 j1 s1 rx => h2 σ H1 _ j1 (rp.mono s1) fun y H2 b k h3 j2 s2 ry => h3 x y H2 _ j2 (rx.mono s2) ry fun v H3 s l ⟨p, e, ht, hf⟩ j3 s3 rv => by
    subst e
    cases rv
    refine ⟨p, rfl, ?_⟩
    have s13 : Same (F.st H) (F.st H3) := s1.trans (s2.trans s3)
    cases p with
    | true =>
      rw [if_pos rfl]
      exact ht rfl σ H3 _ j3 (rp.mono s13) fun z H4 c o h4 j4 s4 rz => h4 y z H4 Q j4 (RepV.mono (s3.trans s4) ry) rz fun v H' r m p j' s' rv => q v H' r m p j' (s13.trans (s4.trans s')) rv
    | false =>
      rw [if_neg Bool.false_ne_true]
      exact q _ H3 _ l (hf rfl) j3 s13 (.bl false)
theorem bools_of {G : Hp} : ∀ {vs : List V} {bs : List Bool}, DqAll K G vs (bs.map .bool) → vs = bs.map V.bl
  | _, [], .nil => rfl
  | _ :: _, b :: bs, .cons h1 h2 => by
    cases h1
    rw [bools_of h2]
    rfl
theorem c_all {bs : List Bool} (q : Φ (.dat (.bool (bs.all id))) n) : wC F K (rAll K) [.dat (.list (bs.map .bool))] n Φ := fun vs H Q jn ra k => by
  cases ra with
  | cons r1 ra =>
    cases ra
    cases r1 with
    | lst hs ha =>
      refine ⟨_, bs, rfl, ?_, k _ H _ n q jn (Same.refl _) (.bl _)⟩
      rw [← bools_of ha]
      exact SqL.of (Eff.sub _ _ hs)
/-! ### comprehensions that touch nothing -/
theorem get_map {α : Type} {f : α → PyData} {xs : List α} {i : Nat} {d : PyData} (h : (xs.map f)[i]? = some d) : ∃ x, xs[i]? = some x ∧ f x = d := by
  rw [List.getElem?_map] at h
  cases z : xs[i]? with
  | none =>
    rw [z] at h
    cases h
  | some x =>
    rw [z] at h
    exact ⟨x, rfl, Option.some.inj h⟩
theorem made_if {α : Type} {xs : List α} {enc out : α → PyData} {keep : α → Bool} {g : TG} {tt : TT} {vs : List Nat}
    (h : ∀ (D : Addr) (ys : List V) (i : Nat) (x : α), xs[i]? = some x → wG (F.hide D ys) K g (.dat (enc x)) (wipeR ρ vs) n fun ρ2 k => wT (F.hide D ys) K tt ρ2 k fun b k2 => b = keep x ∧ (keep x = true → wE (F.hide D ys) K te ρ2 k2 fun r k3 => r = .dat (out x) ∧ k3 = n) ∧ (keep x = false → k2 = n))
    (q : Φ (.dat (.list ((xs.filter keep).map out))) n) : Made F K (xs.map enc) g tt te vs ρ n Φ := by
  refine ⟨fun i acc m => acc = ((xs.take i).filter keep).map out ∧ m = n, ⟨rfl, rfl⟩, fun D ys i d acc m nD hi hl ⟨ea, em⟩ => ?_, fun acc m ⟨ea, em⟩ hl => ?_⟩
  · obtain ⟨x, hx, rfl⟩ := get_map hi
    subst em
    intro v σ H Q j rv rs k
    refine h D ys i x hx v σ H Q j rv rs fun σ2 H2 ρ2 k2 h2 j2 s2 r2 => k σ2 H2 ρ2 k2 ?_ j2 s2 r2
    intro σ3 H3 Q3 j3 rp3 q3
    refine h2 σ3 H3 Q3 j3 rp3 fun b H4 k4 ⟨eb, ht, hf⟩ j4 s4 => q3 b H4 k4 ⟨fun z => ?_, fun z => ?_⟩ j4 s4
    · intro σ5 H5 Q5 j5 rp5 q5
      refine ht (eb.symm.trans z) σ5 H5 Q5 j5 rp5 fun v H' r m ⟨er, em⟩ j' s' rv => q5 v H' r m ⟨out x, er, ?_, em⟩ j' s' rv
      rw [ea, List.take_add_one, hx, List.filter_append, List.map_append]
      have : keep x = true := eb.symm.trans z
      simp [this]
    · refine ⟨?_, hf (eb.symm.trans z)⟩
      rw [ea, List.take_add_one, hx, List.filter_append, List.map_append]
      have : keep x = false := eb.symm.trans z
      simp [this]
  · rw [List.length_map, List.take_length] at ea
    subst em
    rw [ea]
    exact q
theorem made_map {α : Type} {xs : List α} {enc out : α → PyData} {g : TG} {vs : List Nat}
    (h : ∀ (D : Addr) (ys : List V) (i : Nat) (x : α), xs[i]? = some x → wG (F.hide D ys) K g (.dat (enc x)) (wipeR ρ vs) n fun ρ2 k => wE (F.hide D ys) K te ρ2 k fun r k3 => r = .dat (out x) ∧ k3 = n)
    (q : Φ (.dat (.list (xs.map out))) n) : Made F K (xs.map enc) g tYes te vs ρ n Φ := by
  refine made_if (keep := fun _ => true) (out := out) (fun D ys i x hx => ?_) (by rw [List.filter_eq_self.mpr fun _ _ => rfl]; exact q)
  intro v σ H Q j rv rs k
  exact h D ys i x hx v σ H Q j rv rs fun σ2 H2 ρ2 k2 h2 j2 s2 r2 => k σ2 H2 ρ2 k2 (w_yes ⟨rfl, fun _ => h2, fun z => nomatch z⟩) j2 s2 r2
end
end WkD
/-! Fractions as data: pairs in lowest terms. -/
namespace WkD
open PySem PySem.Spec PyProof.Rows L2 WkH WkQ WkS WkF
abbrev frD (r : Rat) : PyData := .tuple [.int r.num, .int (r.den : Int)]
theorem frD_inj {r s : Rat} (h : frD r = frD s) : r = s := by
  unfold frD at h
  injection h with h
  injection h with h1 h2
  injection h2 with h2 _
  injection h1 with h1
  injection h2 with h2
  exact Rat.ext h1 (by omega)
/-- by a positive base, both parts over the common part -/
theorem low_num {a b : Int} (hb : 0 < b) : a / ((Nat.gcd a.natAbs b.natAbs : Nat) : Int) = (Rat.divInt a b).num := by
  rw [Rat.num_divInt, Int.sign_eq_one_of_pos hb, Int.one_mul, Int.gcd_comm]
  rfl
theorem low_den {a b : Int} (hb : 0 < b) : b / ((Nat.gcd a.natAbs b.natAbs : Nat) : Int) = ((Rat.divInt a b).den : Int) := by
  rw [Rat.den_divInt, if_neg (by omega), Int.natCast_ediv, Int.gcd_comm, Int.natAbs_of_nonneg (by omega)]
  rfl
theorem gcd_pos {a b : Int} (hb : 0 < b) : 0 < ((Nat.gcd a.natAbs b.natAbs : Nat) : Int) := by
  have : 0 < Nat.gcd a.natAbs b.natAbs := Nat.gcd_pos_of_pos_right _ (by omega)
  omega
/-- the numbers of a fraction are of at most k bits -/
structure Bits (k : Nat) (r : Rat) : Prop where
  n : r.num.natAbs < 2 ^ k
  d : r.den < 2 ^ k
theorem Bits.mono {j k : Nat} {r : Rat} (h : j ≤ k) (b : Bits j r) : Bits k r := ⟨Nat.lt_of_lt_of_le b.n (Nat.pow_le_pow_right (by decide) h), Nat.lt_of_lt_of_le b.d (Nat.pow_le_pow_right (by decide) h)⟩
theorem bits_mul {x y : Int} {a b : Nat} (hx : x.natAbs < 2 ^ a) (hy : y.natAbs < 2 ^ b) : (x * y).natAbs < 2 ^ (a + b) := wide_lt hx hy
theorem bits_add {x y : Int} {a : Nat} (hx : x.natAbs < 2 ^ a) (hy : y.natAbs < 2 ^ a) : (x + y).natAbs < 2 ^ (a + 1) := by
  have e : 2 ^ (a + 1) = 2 ^ a * 2 := Nat.pow_succ ..
  omega
theorem bits_sub {x y : Int} {a : Nat} (hx : x.natAbs < 2 ^ a) (hy : y.natAbs < 2 ^ a) : (x - y).natAbs < 2 ^ (a + 1) := by
  have e : 2 ^ (a + 1) = 2 ^ a * 2 := Nat.pow_succ ..
  omega
theorem den_bits {r : Rat} {k : Nat} (b : Bits k r) : ((r.den : Int)).natAbs < 2 ^ k := by
  rw [Int.natAbs_natCast]
  exact b.d
theorem add_div (r s : Rat) : Rat.divInt (r.num * (s.den : Int) + s.num * (r.den : Int)) ((r.den : Int) * (s.den : Int)) = r + s := by
  have h1 : (r.den : Int) ≠ 0 := by have := r.den_pos; omega
  have h2 : (s.den : Int) ≠ 0 := by have := s.den_pos; omega
  conv => rhs; rw [← Rat.num_divInt_den r, ← Rat.num_divInt_den s]
  rw [Rat.divInt_add_divInt _ _ h1 h2]
theorem sub_div (r s : Rat) : Rat.divInt (r.num * (s.den : Int) - s.num * (r.den : Int)) ((r.den : Int) * (s.den : Int)) = r - s := by
  have h1 : (r.den : Int) ≠ 0 := by have := r.den_pos; omega
  have h2 : (s.den : Int) ≠ 0 := by have := s.den_pos; omega
  conv => rhs; rw [← Rat.num_divInt_den r, ← Rat.num_divInt_den s]
  rw [Rat.divInt_sub_divInt _ _ h1 h2]
theorem mul_div (r s : Rat) : Rat.divInt (r.num * s.num) ((r.den : Int) * (s.den : Int)) = r * s := by
  conv => rhs; rw [← Rat.num_divInt_den r, ← Rat.num_divInt_den s]
  rw [Rat.divInt_mul_divInt]
theorem div_div {r s : Rat} (hs : 0 < s.num) : Rat.divInt (r.num * (s.den : Int)) ((r.den : Int) * s.num) = r / s := by
  have h2 : (s.den : Int) ≠ 0 := by have := s.den_pos; omega
  rw [Rat.div_def, Rat.inv_def]
  conv => rhs; rw [← Rat.num_divInt_den r]
  rw [Rat.divInt_mul_divInt]
theorem lt_cross (r s : Rat) : (r < s) ↔ r.num * (s.den : Int) < s.num * (r.den : Int) := Rat.lt_iff r s
end WkD
namespace WkD
open PySem PySem.Spec PyProof.Rows L2 WkH WkQ WkS WkF
theorem e_bool {b : Bool} {R : Bool → Prop} (q : R b) : ∃ b', Sl.dat (.bool b) = Sl.dat (.bool b') ∧ R b' := ⟨b, rfl, q⟩
theorem e_ab {a b : Sl} {R : Sl → Sl → Prop} (q : R a b) : ∃ a' b', [a, b] = [a', b'] ∧ R a' b' := ⟨a, b, rfl, q⟩
theorem r_ix {S : Type} {F : Eff S} {K : PySem.W.Frag} {n : S} {Φ : Sl → S → Prop} {ds : List PyData} {i : Int} {d : PyData} (h : atI ds i = some d) (q : Φ (.dat d) n) : wR F K (rIx K) (.dat (.tuple ds)) (.dat (.int i)) n Φ := fun x y H Q jn rx ry k => .inr (.inl (r_ixT h q x y H Q jn rx ry k))
theorem r_ixl {S : Type} {F : Eff S} {K : PySem.W.Frag} {n : S} {Φ : Sl → S → Prop} {ds : List PyData} {i : Int} {d : PyData} (h : atI ds i = some d) (q : Φ (.dat d) n) : wR F K (rIx K) (.dat (.list ds)) (.dat (.int i)) n Φ := fun x y H Q jn rx ry k => .inl (r_ixL h q x y H Q jn rx ry k)
theorem d0 {R : List PyData → Prop} (q : R []) : ∃ ds : List PyData, [] = ds.map Sl.dat ∧ ds.length ≤ 100000 ∧ R ds := ⟨[], rfl, by decide, q⟩
theorem d1 {a : PyData} {R : List PyData → Prop} (q : R [a]) : ∃ ds : List PyData, [Sl.dat a] = ds.map Sl.dat ∧ ds.length ≤ 100000 ∧ R ds := ⟨[a], rfl, Nat.le_of_ble_eq_true rfl, q⟩
theorem d2 {a b : PyData} {R : List PyData → Prop} (q : R [a, b]) : ∃ ds : List PyData, [Sl.dat a, Sl.dat b] = ds.map Sl.dat ∧ ds.length ≤ 100000 ∧ R ds := ⟨[a, b], rfl, Nat.le_of_ble_eq_true rfl, q⟩
theorem d3 {a b c : PyData} {R : List PyData → Prop} (q : R [a, b, c]) : ∃ ds : List PyData, [Sl.dat a, Sl.dat b, Sl.dat c] = ds.map Sl.dat ∧ ds.length ≤ 100000 ∧ R ds := ⟨[a, b, c], rfl, Nat.le_of_ble_eq_true rfl, q⟩
theorem d4 {a b c d : PyData} {R : List PyData → Prop} (q : R [a, b, c, d]) : ∃ ds : List PyData, [Sl.dat a, Sl.dat b, Sl.dat c, Sl.dat d] = ds.map Sl.dat ∧ ds.length ≤ 100000 ∧ R ds := ⟨[a, b, c, d], rfl, Nat.le_of_ble_eq_true rfl, q⟩
end WkD
/-! the steps over data that need no thought -/
local macro_rules | `(tactic| walk_at "gd") => `(tactic| repeat (first
  | ((with_reducible refine' WkD.w_var ?hv ?hn ?_); (case hv => exact rfl); (case hn => exact (fun z => nomatch z)))
  | with_reducible refine WkD.w_int ?_ | with_reducible refine WkD.w_str ?_ | with_reducible refine WkD.w_non ?_ | with_reducible refine WkD.w_bl ?_
  | with_reducible refine WkD.w_chain ?_ | with_reducible refine WkD.w_tyc ?_ | ((with_reducible refine' WkD.c_isi ?hu ?_); (case hu => decide))
  | with_reducible refine WkD.w_op ?_ | with_reducible refine WkD.w_un ?_ | with_reducible refine WkD.w_nil ?_ | with_reducible refine WkD.w_cons ?_ | ((with_reducible refine' WkD.w_isi2 ?ha ?hb ?_); (case ha => decide); (case hb => decide)) | with_reducible refine WkD.w_CB ?_ | with_reducible refine WkD.w_call ?_
  | with_reducible refine WkD.w_if ?_ | with_reducible refine WkD.w_andV ?_ | with_reducible refine WkD.w_orV ?_ | with_reducible refine WkD.w_notV ?_ | with_reducible refine WkD.w_test ?_ | with_reducible refine WkD.w_tB ?_ | with_reducible refine WkD.w_not ?_
  | with_reducible refine WkD.w_and ?_ | with_reducible refine WkD.w_or ?_ | with_reducible refine WkD.w_yes ?_ | with_reducible refine WkD.w_next ?_ | with_reducible refine WkD.w_seq ?_ | with_reducible refine WkD.w_ret ?_ | with_reducible refine WkD.w_retN ?_
  | with_reducible refine WkD.w_drop ?_ | with_reducible refine WkD.w_ifS ?_ | with_reducible refine WkD.w_asg ?_ | with_reducible refine WkD.w_sl ?_ | with_reducible refine WkD.w_po0 ?_ | with_reducible refine WkD.w_po1 ?_ | with_reducible refine WkD.e_si ?_ | with_reducible refine WkD.l_A ?_ | with_reducible refine WkD.l_L ?_ | with_reducible refine WkD.w_cont ?_ | with_reducible refine WkD.w_break ?_ | with_reducible refine WkD.w_gt2 ?_ | with_reducible refine WkD.w_gt3 ?_ | with_reducible refine WkD.w_gcons ?_ | with_reducible refine WkD.w_gnil ?_ | with_reducible refine WkD.w_name ?_ | with_reducible refine WkD.w_par ?_
  | with_reducible refine WkD.r_I0i ?_ | with_reducible refine WkD.r_I0b ?_ | with_reducible refine WkD.u_U ?_ | with_reducible refine WkD.r_eqI ?_ | with_reducible refine WkD.r_neI ?_ | with_reducible refine WkD.r_eqS ?_ | with_reducible refine WkD.r_eqB ?_
  | ((with_reducible refine' WkD.r_ix ?hi ?_); (case hi => exact rfl)) | ((with_reducible refine' WkD.r_ixl ?hi ?_); (case hi => exact rfl))
  | ((with_reducible refine' WkD.r_ixT ?hi ?_); (case hi => exact rfl)) | ((with_reducible refine' WkD.r_ixL ?hi ?_); (case hi => exact rfl))
  | with_reducible refine WkD.c_gcd ?_ | with_reducible refine WkD.c_abs ?_ | with_reducible refine WkD.c_int ?_ | with_reducible refine WkD.e_bool ?_ | with_reducible refine WkD.w_tup ?_ | with_reducible refine WkD.w_lst ?_ | with_reducible refine WkD.e_ab ?_ | with_reducible refine WkD.d0 ?_ | with_reducible refine WkD.d1 ?_ | with_reducible refine WkD.d2 ?_ | with_reducible refine WkD.d3 ?_ | with_reducible refine WkD.d4 ?_))

namespace K35
open PySem PySem.Spec PyProof.Rows L2 WkH WkE WkQ WkS WkF WkD
structure Bg (K : PySem.W.Frag) (mg : Str → Option Value) : Prop where
  gcd : mg "gcd" = some (.builtin "math.gcd")
  ZERO : mg "ZERO" = some (.ref 153)
  ONE : mg "ONE" = some (.ref 154)
  zero : ∀ H, SqT K H 153 [.int 0, .int 1]
  one : ∀ H, SqT K H 154 [.int 1, .int 1]
  all : mg "all" = none
  int : mg "int" = none
  bool : mg "bool" = none
  isinstance : mg "isinstance" = none
  len : mg "len" = none
  list : mg "list" = none
  range : mg "range" = none
  tuple : mg "tuple" = none
  sorted : mg "sorted" = none
  set : mg "set" = none
  sum : mg "sum" = none
  abs : mg "abs" = none
  str : mg "str" = none
  repr : mg "repr" = none
  max : mg "max" = none
  min : mg "min" = none
section
variable {P : Program} {w : World} {K : PySem.W.Frag} {mg : Str → Option Value} {base : Heap}
theorem sc_reduced : FnScope ["top", "base", "common"] ["top", "base"] d_reduced.sco := ⟨rfl, rfl, rfl, by decide +kernel, rfl, by decide +kernel, by decide +kernel⟩
/-- a pair of ints -/
def twoI (q : Int × Int) : List PyData := [.int q.1, .int q.2]
theorem ok_reduced {fd : FuncData} (F : Stands K d_reduced fd) (T : Bg K mg) : FnOk P w K mg base CX0 1 d_reduced.adr fd ["top", "base"] (spF K twoI (fun q => 0 < q.2 ∧ q.1.natAbs < 2 ^ 8900 ∧ q.2.natAbs < 2 ^ 8900) fun q => frD (Rat.divInt q.1 q.2)) := by
  refine FunD.ok F sc_reduced (fun vs H Q E h => len_F h fun _ => rfl) (fun cdv A outer s H vs Q E hr h => ⟨_, PSs.nox (pss_cons (ps_set (i := 2) sc_reduced.nd rfl (by first | exact Or.inl rfl | exact Or.inr rfl) (pe_callBfun cr_gcd rfl T.gcd (pa_cons (pv 0) (pa_cons (pv 1) pa_nil))))
  (pss_cons (ps_if (pt_cmpR op_lt (pv 1) pe_int (nomark _)) (pss_one (ps_set (i := 2) sc_reduced.nd rfl (by first | exact Or.inl rfl | exact Or.inr rfl) (pe_un un_neg (pv 2)))) pss_nil)
  (pss_one (ps_ret (pe_tup (pa_cons (pe_op op_fdivW (pv 0) (pv 2)) (pa_cons (pe_op op_fdivW (pv 1) (pv 2)) pa_nil))))))), ?_⟩)
  refine body_F h fun F n q hp => ?_
  obtain ⟨a, b⟩ := q
  obtain ⟨h0, h1, h2⟩ := hp
  try dsimp only [cxOf, Cx.nox, Cx.wish, twoI]
  walk_at "gd"
  have hb : 0 < b := h0
  have g0 := gcd_pos (a := a) hb
  have gl : (Nat.gcd a.natAbs b.natAbs) ≤ b.natAbs := Nat.le_of_dvd (by omega) (Nat.gcd_dvd_right _ _)
  have gw : CDivW a ((Nat.gcd a.natAbs b.natAbs : Nat) : Int) := wide_div g0 (b := 8900) (Nat.lt_of_le_of_lt gl h2) (by decide) (by decide)
  refine ⟨fun h => ?_, fun h => ?_⟩
  · have := of_decide_eq_true h
    omega
  · walk_at "gd"
    refine r_I gw ?_
    walk_at "gd"
    refine r_I gw ?_
    walk_at "gd"
    rw [low_num hb, low_den hb]
    exact ⟨rfl, rfl⟩
def twoR (q : Rat × Rat) : List PyData := [frD q.1, frD q.2]
abbrev spReduced : Sp := spF K twoI (fun q => 0 < q.2 ∧ q.1.natAbs < 2 ^ 8900 ∧ q.2.natAbs < 2 ^ 8900) fun q => frD (Rat.divInt q.1 q.2)
theorem sc_add : FnScope ["one", "other"] ["one", "other"] d_add.sco := ⟨rfl, rfl, rfl, by decide +kernel, rfl, by decide +kernel, by decide +kernel⟩
theorem ok_add {fd : FuncData} (F : Stands K d_add fd) (Fr : Fn P w K mg base CX0 1 "reduced" ["top", "base"] (spReduced (K := K))) : FnOk P w K mg base CX0 2 d_add.adr fd ["one", "other"] (spF K twoR (fun q => Bits 4000 q.1 ∧ Bits 4000 q.2) fun q => frD (q.1 + q.2)) := by
  refine FunD.ok F sc_add (fun vs H Q E h => len_F h fun _ => rfl) (fun cdv A outer s H vs Q E hr h => ⟨_, PSs.nox (pss_one (ps_ret (pe_fn Fr hr rfl (pa_cons (pe_op op_add (pe_op op_mulW (pe_ix ix_seq (pv 0) pe_int (fun _ _ => rfl)) (pe_ix ix_seq (pv 1) pe_int (fun _ _ => rfl))) (pe_op op_mulW (pe_ix ix_seq (pv 1) pe_int (fun _ _ => rfl)) (pe_ix ix_seq (pv 0) pe_int (fun _ _ => rfl)))) (pa_cons (pe_op op_mulW (pe_ix ix_seq (pv 0) pe_int (fun _ _ => rfl)) (pe_ix ix_seq (pv 1) pe_int (fun _ _ => rfl))) pa_nil))))), ?_⟩)
  refine body_F h fun F n q hp => ?_
  obtain ⟨r, s⟩ := q
  obtain ⟨h1, h2⟩ := hp
  have h1 : Bits 4000 r := h1
  have h2 : Bits 4000 s := h2
  have e1 := den_bits h1
  have e2 := den_bits h2
  try dsimp only [cxOf, Cx.nox, Cx.wish, twoR]
  walk_at "gd"
  refine r_I (wide_mul h1.n e2 (by decide) (by decide) (by decide)) ?_
  walk_at "gd"
  refine r_I (wide_mul h2.n e1 (by decide) (by decide) (by decide)) ?_
  walk_at "gd"
  refine r_I (wide_mul e1 e2 (by decide) (by decide) (by decide)) ?_
  walk_at "gd"
  refine c_fn (enc := twoI) (_, _) ⟨Int.mul_pos (by have := r.den_pos; omega) (by have := s.den_pos; omega), Nat.lt_of_lt_of_le (bits_add (bits_mul h1.n e2) (bits_mul h2.n e1)) (Nat.pow_le_pow_right (by decide) (by decide)), Nat.lt_of_lt_of_le (bits_mul e1 e2) (Nat.pow_le_pow_right (by decide) (by decide))⟩ ?_
  exact ⟨rfl, by rw [add_div]⟩
theorem sc_subtract : FnScope ["one", "other"] ["one", "other"] d_subtract.sco := ⟨rfl, rfl, rfl, by decide +kernel, rfl, by decide +kernel, by decide +kernel⟩
theorem ok_subtract {fd : FuncData} (F : Stands K d_subtract fd) (Fr : Fn P w K mg base CX0 1 "reduced" ["top", "base"] (spReduced (K := K))) : FnOk P w K mg base CX0 2 d_subtract.adr fd ["one", "other"] (spF K twoR (fun q => Bits 4000 q.1 ∧ Bits 4000 q.2) fun q => frD (q.1 - q.2)) := by
  refine FunD.ok F sc_subtract (fun vs H Q E h => len_F h fun _ => rfl) (fun cdv A outer s H vs Q E hr h => ⟨_, PSs.nox (pss_one (ps_ret (pe_fn Fr hr rfl (pa_cons (pe_op op_sub (pe_op op_mulW (pe_ix ix_seq (pv 0) pe_int (fun _ _ => rfl)) (pe_ix ix_seq (pv 1) pe_int (fun _ _ => rfl))) (pe_op op_mulW (pe_ix ix_seq (pv 1) pe_int (fun _ _ => rfl)) (pe_ix ix_seq (pv 0) pe_int (fun _ _ => rfl)))) (pa_cons (pe_op op_mulW (pe_ix ix_seq (pv 0) pe_int (fun _ _ => rfl)) (pe_ix ix_seq (pv 1) pe_int (fun _ _ => rfl))) pa_nil))))), ?_⟩)
  refine body_F h fun F n q hp => ?_
  obtain ⟨r, s⟩ := q
  obtain ⟨h1, h2⟩ := hp
  have h1 : Bits 4000 r := h1
  have h2 : Bits 4000 s := h2
  have e1 := den_bits h1
  have e2 := den_bits h2
  try dsimp only [cxOf, Cx.nox, Cx.wish, twoR]
  walk_at "gd"
  refine r_I (wide_mul h1.n e2 (by decide) (by decide) (by decide)) ?_
  walk_at "gd"
  refine r_I (wide_mul h2.n e1 (by decide) (by decide) (by decide)) ?_
  walk_at "gd"
  refine r_I (wide_mul e1 e2 (by decide) (by decide) (by decide)) ?_
  walk_at "gd"
  refine c_fn (enc := twoI) (_, _) ⟨Int.mul_pos (by have := r.den_pos; omega) (by have := s.den_pos; omega), Nat.lt_of_lt_of_le (bits_sub (bits_mul h1.n e2) (bits_mul h2.n e1)) (Nat.pow_le_pow_right (by decide) (by decide)), Nat.lt_of_lt_of_le (bits_mul e1 e2) (Nat.pow_le_pow_right (by decide) (by decide))⟩ ?_
  exact ⟨rfl, by rw [sub_div]⟩
theorem sc_multiply : FnScope ["one", "other"] ["one", "other"] d_multiply.sco := ⟨rfl, rfl, rfl, by decide +kernel, rfl, by decide +kernel, by decide +kernel⟩
theorem ok_multiply {fd : FuncData} (F : Stands K d_multiply fd) (Fr : Fn P w K mg base CX0 1 "reduced" ["top", "base"] (spReduced (K := K))) : FnOk P w K mg base CX0 2 d_multiply.adr fd ["one", "other"] (spF K twoR (fun q => Bits 4000 q.1 ∧ Bits 4000 q.2) fun q => frD (q.1 * q.2)) := by
  refine FunD.ok F sc_multiply (fun vs H Q E h => len_F h fun _ => rfl) (fun cdv A outer s H vs Q E hr h => ⟨_, PSs.nox (pss_one (ps_ret (pe_fn Fr hr rfl (pa_cons (pe_op op_mulW (pe_ix ix_seq (pv 0) pe_int (fun _ _ => rfl)) (pe_ix ix_seq (pv 1) pe_int (fun _ _ => rfl))) (pa_cons (pe_op op_mulW (pe_ix ix_seq (pv 0) pe_int (fun _ _ => rfl)) (pe_ix ix_seq (pv 1) pe_int (fun _ _ => rfl))) pa_nil))))), ?_⟩)
  refine body_F h fun F n q hp => ?_
  obtain ⟨r, s⟩ := q
  obtain ⟨h1, h2⟩ := hp
  have h1 : Bits 4000 r := h1
  have h2 : Bits 4000 s := h2
  have e1 := den_bits h1
  have e2 := den_bits h2
  try dsimp only [cxOf, Cx.nox, Cx.wish, twoR]
  walk_at "gd"
  refine r_I (wide_mul h1.n h2.n (by decide) (by decide) (by decide)) ?_
  walk_at "gd"
  refine r_I (wide_mul e1 e2 (by decide) (by decide) (by decide)) ?_
  walk_at "gd"
  refine c_fn (enc := twoI) (_, _) ⟨Int.mul_pos (by have := r.den_pos; omega) (by have := s.den_pos; omega), Nat.lt_of_lt_of_le (bits_mul h1.n h2.n) (Nat.pow_le_pow_right (by decide) (by decide)), Nat.lt_of_lt_of_le (bits_mul e1 e2) (Nat.pow_le_pow_right (by decide) (by decide))⟩ ?_
  exact ⟨rfl, by rw [mul_div]⟩
theorem sc_divide : FnScope ["one", "other"] ["one", "other"] d_divide.sco := ⟨rfl, rfl, rfl, by decide +kernel, rfl, by decide +kernel, by decide +kernel⟩
theorem ok_divide {fd : FuncData} (F : Stands K d_divide fd) (Fr : Fn P w K mg base CX0 1 "reduced" ["top", "base"] (spReduced (K := K))) : FnOk P w K mg base CX0 2 d_divide.adr fd ["one", "other"] (spF K twoR (fun q => Bits 4000 q.1 ∧ Bits 4000 q.2 ∧ 0 < q.2.num) fun q => frD (q.1 / q.2)) := by
  refine FunD.ok F sc_divide (fun vs H Q E h => len_F h fun _ => rfl) (fun cdv A outer s H vs Q E hr h => ⟨_, PSs.nox (pss_one (ps_ret (pe_fn Fr hr rfl (pa_cons (pe_op op_mulW (pe_ix ix_seq (pv 0) pe_int (fun _ _ => rfl)) (pe_ix ix_seq (pv 1) pe_int (fun _ _ => rfl))) (pa_cons (pe_op op_mulW (pe_ix ix_seq (pv 0) pe_int (fun _ _ => rfl)) (pe_ix ix_seq (pv 1) pe_int (fun _ _ => rfl))) pa_nil))))), ?_⟩)
  refine body_F h fun F n q hp => ?_
  obtain ⟨r, s⟩ := q
  obtain ⟨h1, h2, h3⟩ := hp
  have h1 : Bits 4000 r := h1
  have h2 : Bits 4000 s := h2
  have h3 : 0 < s.num := h3
  have e1 := den_bits h1
  have e2 := den_bits h2
  try dsimp only [cxOf, Cx.nox, Cx.wish, twoR]
  walk_at "gd"
  refine r_I (wide_mul h1.n e2 (by decide) (by decide) (by decide)) ?_
  walk_at "gd"
  refine r_I (wide_mul e1 h2.n (by decide) (by decide) (by decide)) ?_
  walk_at "gd"
  refine c_fn (enc := twoI) (_, _) ⟨Int.mul_pos (by have := r.den_pos; omega) h3, Nat.lt_of_lt_of_le (bits_mul h1.n e2) (Nat.pow_le_pow_right (by decide) (by decide)), Nat.lt_of_lt_of_le (bits_mul e1 h2.n) (Nat.pow_le_pow_right (by decide) (by decide))⟩ ?_
  exact ⟨rfl, by rw [div_div h3]⟩
theorem sc_is_below : FnScope ["one", "other"] ["one", "other"] d_is_below.sco := ⟨rfl, rfl, rfl, by decide +kernel, rfl, by decide +kernel, by decide +kernel⟩
theorem ok_is_below {fd : FuncData} (F : Stands K d_is_below fd) : FnOk P w K mg base CX0 1 d_is_below.adr fd ["one", "other"] (spF K twoR (fun q => Bits 4000 q.1 ∧ Bits 4000 q.2) fun q => .bool (decide (q.1 < q.2))) := by
  refine FunD.ok F sc_is_below (fun vs H Q E h => len_F h fun _ => rfl) (fun cdv A outer s H vs Q E hr h => ⟨_, PSs.nox (pss_one (ps_ret (pe_cmpR op_lt (pe_op op_mulW (pe_ix ix_seq (pv 0) pe_int (fun _ _ => rfl)) (pe_ix ix_seq (pv 1) pe_int (fun _ _ => rfl))) (pe_op op_mulW (pe_ix ix_seq (pv 1) pe_int (fun _ _ => rfl)) (pe_ix ix_seq (pv 0) pe_int (fun _ _ => rfl))) (nomark _)))), ?_⟩)
  refine body_F h fun F n q hp => ?_
  obtain ⟨r, s⟩ := q
  obtain ⟨h1, h2⟩ := hp
  have h1 : Bits 4000 r := h1
  have h2 : Bits 4000 s := h2
  have e1 := den_bits h1
  have e2 := den_bits h2
  try dsimp only [cxOf, Cx.nox, Cx.wish, twoR]
  walk_at "gd"
  refine r_I (wide_mul h1.n e2 (by decide) (by decide) (by decide)) ?_
  walk_at "gd"
  refine r_I (wide_mul h2.n e1 (by decide) (by decide) (by decide)) ?_
  walk_at "gd"
  refine ⟨rfl, ?_⟩
  have e : decide (r < s) = decide (r.num * (s.den : Int) < s.num * (r.den : Int)) := decide_eq_decide.mpr (lt_cross r s)
  rw [e]
end
end K35
/-! the steps over data that need no thought -/
local macro_rules | `(tactic| walk_at "gd") => `(tactic| repeat (first
  | ((with_reducible refine' WkD.w_var ?hv ?hn ?_); (case hv => exact rfl); (case hn => exact (fun z => nomatch z)))
  | with_reducible refine WkD.w_int ?_ | with_reducible refine WkD.w_str ?_ | with_reducible refine WkD.w_non ?_ | with_reducible refine WkD.w_bl ?_
  | with_reducible refine WkD.w_chain ?_ | with_reducible refine WkD.w_tyc ?_ | ((with_reducible refine' WkD.c_isi ?hu ?_); (case hu => decide))
  | with_reducible refine WkD.w_op ?_ | with_reducible refine WkD.w_un ?_ | with_reducible refine WkD.w_nil ?_ | with_reducible refine WkD.w_cons ?_ | ((with_reducible refine' WkD.w_isi2 ?ha ?hb ?_); (case ha => decide); (case hb => decide)) | with_reducible refine WkD.w_CB ?_ | with_reducible refine WkD.w_call ?_
  | with_reducible refine WkD.w_if ?_ | with_reducible refine WkD.w_andV ?_ | with_reducible refine WkD.w_orV ?_ | with_reducible refine WkD.w_notV ?_ | with_reducible refine WkD.w_test ?_ | with_reducible refine WkD.w_tB ?_ | with_reducible refine WkD.w_not ?_
  | with_reducible refine WkD.w_and ?_ | with_reducible refine WkD.w_or ?_ | with_reducible refine WkD.w_yes ?_ | with_reducible refine WkD.w_next ?_ | with_reducible refine WkD.w_seq ?_ | with_reducible refine WkD.w_ret ?_ | with_reducible refine WkD.w_retN ?_
  | with_reducible refine WkD.w_drop ?_ | with_reducible refine WkD.w_ifS ?_ | with_reducible refine WkD.w_asg ?_ | with_reducible refine WkD.w_sl ?_ | with_reducible refine WkD.w_po0 ?_ | with_reducible refine WkD.w_po1 ?_ | with_reducible refine WkD.e_si ?_ | with_reducible refine WkD.l_A ?_ | with_reducible refine WkD.l_L ?_ | with_reducible refine WkD.w_cont ?_ | with_reducible refine WkD.w_break ?_ | with_reducible refine WkD.w_gt2 ?_ | with_reducible refine WkD.w_gt3 ?_ | with_reducible refine WkD.w_gcons ?_ | with_reducible refine WkD.w_gnil ?_ | with_reducible refine WkD.w_name ?_ | with_reducible refine WkD.w_par ?_
  | with_reducible refine WkD.r_I0i ?_ | with_reducible refine WkD.r_I0b ?_ | with_reducible refine WkD.u_U ?_ | with_reducible refine WkD.r_eqI ?_ | with_reducible refine WkD.r_neI ?_ | with_reducible refine WkD.r_eqS ?_ | with_reducible refine WkD.r_eqB ?_
  | ((with_reducible refine' WkD.r_ix ?hi ?_); (case hi => exact rfl)) | ((with_reducible refine' WkD.r_ixl ?hi ?_); (case hi => exact rfl))
  | ((with_reducible refine' WkD.r_ixT ?hi ?_); (case hi => exact rfl)) | ((with_reducible refine' WkD.r_ixL ?hi ?_); (case hi => exact rfl))
  | with_reducible refine WkD.c_gcd ?_ | with_reducible refine WkD.c_abs ?_ | with_reducible refine WkD.c_int ?_ | with_reducible refine WkD.e_bool ?_ | with_reducible refine WkD.w_tup ?_ | with_reducible refine WkD.w_lst ?_ | with_reducible refine WkD.e_ab ?_ | with_reducible refine WkD.d0 ?_ | with_reducible refine WkD.d1 ?_ | with_reducible refine WkD.d2 ?_ | with_reducible refine WkD.d3 ?_ | with_reducible refine WkD.d4 ?_))

namespace K35
open PySem PySem.Spec PyProof.Rows L2 WkH WkE WkQ WkS WkF WkD
section
variable {P : Program} {w : World} {K : PySem.W.Frag} {mg : Str → Option Value} {base : Heap}
abbrev spBelow : Sp := spF K twoR (fun q => Bits 4000 q.1 ∧ Bits 4000 q.2) fun q => .bool (decide (q.1 < q.2))
def maxR (r s : Rat) : Rat := if r < s then s else r
abbrev spGreater : Sp := spF K twoR (fun q => Bits 4000 q.1 ∧ Bits 4000 q.2) fun q => frD (maxR q.1 q.2)
theorem sc_greater_of : FnScope ["one", "other"] ["one", "other"] d_greater_of.sco := ⟨rfl, rfl, rfl, by decide +kernel, rfl, by decide +kernel, by decide +kernel⟩
theorem ok_greater_of {fd : FuncData} (F : Stands K d_greater_of fd) (Fb : Fn P w K mg base CX0 1 "is_below" ["one", "other"] (spBelow (K := K))) : FnOk P w K mg base CX0 2 d_greater_of.adr fd ["one", "other"] (spGreater (K := K)) := by
  refine FunD.ok F sc_greater_of (fun vs H Q E h => len_F h fun _ => rfl) (fun cdv A outer s H vs Q E hr h => ⟨_, PSs.nox (pss_one (ps_ret (pe_ifExp (pt_val (pe_fn Fb hr rfl (pa_cons (pv 0) (pa_cons (pv 1) pa_nil)))) (pv 1) (pv 0)))), ?_⟩)
  refine body_F h fun F n q hp => ?_
  obtain ⟨r, s⟩ := q
  try dsimp only [cxOf, Cx.nox, Cx.wish, twoR]
  walk_at "gd"
  refine c_fn (enc := twoR) (r, s) hp ?_
  walk_at "gd"
  refine ⟨fun h => ?_, fun h => ?_⟩
  · walk_at "gd"
    exact ⟨rfl, by rw [maxR, if_pos (of_decide_eq_true h)]⟩
  · walk_at "gd"
    exact ⟨rfl, by rw [maxR, if_neg (of_decide_eq_false h)]⟩
def greatestR : List Rat → Rat
  | [] => 0
  | r :: rs => (r :: rs).foldl maxR r
def listR (rs : List Rat) : List PyData := [.list (rs.map frD)]
abbrev spGreatest : Sp := spF K listR (fun rs => rs ≠ [] ∧ ∀ r ∈ rs, Bits 4000 r) fun rs => frD (greatestR rs)
theorem maxR_mem {r s : Rat} : maxR r s = r ∨ maxR r s = s := by
  unfold maxR
  split
  · exact .inr rfl
  · exact .inl rfl
theorem sc_greatest : FnScope ["fractions", "best", "fraction"] ["fractions"] d_greatest.sco := ⟨rfl, rfl, rfl, by decide +kernel, rfl, by decide +kernel, by decide +kernel⟩
theorem ok_greatest {fd : FuncData} (F : Stands K d_greatest fd) (Fg : Fn P w K mg base CX0 2 "greater_of" ["one", "other"] (spGreater (K := K))) : FnOk P w K mg base CX0 3 d_greatest.adr fd ["fractions"] (spGreatest (K := K)) := by
  refine FunD.ok F sc_greatest (fun vs H Q E h => len_F h fun _ => rfl) (fun cdv A outer s H vs Q E hr h => ⟨_, PSs.nox (pss_cons (ps_set (i := 1) sc_greatest.nd rfl (by first | exact Or.inl rfl | exact Or.inr rfl) (pe_ix ix_seq (pv 0) pe_int (fun _ _ => rfl)))
  (pss_cons (ps_for PassesOwn.never rfl (pi_list (pv 0)) (pg_name (i := 2) sc_greatest.nd rfl (by first | exact Or.inl rfl | exact Or.inr rfl)) (pss_one (ps_set (i := 1) sc_greatest.nd rfl (by first | exact Or.inl rfl | exact Or.inr rfl) (pe_fn Fg hr rfl (pa_cons (pv 1) (pa_cons (pv 2) pa_nil))))))
  (pss_one (ps_ret (pv 1))))), ?_⟩)
  refine body_F h fun F n rs hp => ?_
  obtain ⟨h0, hB⟩ := hp
  try dsimp only [cxOf, Cx.nox, Cx.wish, listR]
  cases rs with
  | nil => exact absurd rfl h0
  | cons r rs =>
    walk_at "gd"
    refine r_ixl (d := frD r) (atI_nat (j := 0) rfl) ?_
    walk_at "gd"
    refine w_forL ?_
    walk_at "gd"
    refine ⟨_, rfl, fun i ρ m => ∃ x b, ρ = [.dat (.list ((r :: rs).map frD)), .dat (frD b), x] ∧ Bits 4000 b ∧ b = ((r :: rs).take i).foldl maxR r ∧ m = n, ⟨_, r, rfl, hB r (List.mem_cons_self ..), rfl, rfl⟩, fun i d ρ m hi hI => ?_, fun ρ m hI => ?_⟩
    · obtain ⟨x, b, rfl, hb, eb, rfl⟩ := hI
      obtain ⟨s, hs, rfl⟩ : ∃ s, (r :: rs)[i]? = some s ∧ frD s = d := by
        rw [List.getElem?_map] at hi
        cases z : (r :: rs)[i]? with
        | none =>
          rw [z] at hi
          cases hi
        | some s =>
          rw [z] at hi
          exact ⟨s, rfl, Option.some.inj hi⟩
      have hs4 := hB s (List.mem_of_getElem? hs)
      walk_at "gd"
      refine c_fn (enc := twoR) (b, s) ⟨hb, hs4⟩ ?_
      walk_at "gd"
      refine ⟨_, maxR b s, rfl, ?_, ?_, rfl⟩
      · rcases maxR_mem (r := b) (s := s) with e | e <;> rw [e] <;> assumption
      · rw [List.take_add_one, hs, List.foldl_append, ← eb]
        rfl
    · obtain ⟨x, b, rfl, hb, eb, rfl⟩ := hI
      walk_at "gd"
      refine ⟨rfl, ?_⟩
      rw [List.length_map, List.take_length] at eb
      rw [eb]
      rfl
/-- a constant of the module -/
theorem w_con {S : Type} {F : Eff S} {ρ : List Sl} {n : S} {Φ : Sl → S → Prop} {a : Addr} {i j : Int} (h : ∀ H, SqT K H a [.int i, .int j]) (q : Φ (.dat (.tuple [.int i, .int j])) n) : wE F K (tC (.ref a)) ρ n Φ := fun σ H Q jn r k =>
  k _ H _ n q jn (Same.refl _) (.tup (h _) (.cons (.int _) (.cons (.int _) .nil)))
def sumR (rs : List Rat) : Rat := rs.foldl (· + ·) 0
abbrev spAdd : Sp := spF K twoR (fun q => Bits 4000 q.1 ∧ Bits 4000 q.2) fun q => frD (q.1 + q.2)
abbrev spSum : Sp := spF K listR (fun rs => (∀ r ∈ rs, Bits 4000 r) ∧ ∀ k, Bits 4000 (sumR (rs.take k))) fun rs => frD (sumR rs)
theorem sc_sum_of : FnScope ["fractions", "total", "fraction"] ["fractions"] d_sum_of.sco := ⟨rfl, rfl, rfl, by decide +kernel, rfl, by decide +kernel, by decide +kernel⟩
theorem ok_sum_of {fd : FuncData} (F : Stands K d_sum_of fd) (T : Bg K mg) (Fadd : Fn P w K mg base CX0 2 "add" ["one", "other"] (spAdd (K := K))) : FnOk P w K mg base CX0 3 d_sum_of.adr fd ["fractions"] (spSum (K := K)) := by
  refine FunD.ok F sc_sum_of (fun vs H Q E h => len_F h fun _ => rfl) (fun cdv A outer s H vs Q E hr h => ⟨_, PSs.nox (pss_cons (ps_set (i := 1) sc_sum_of.nd rfl (by first | exact Or.inl rfl | exact Or.inr rfl) (pe_glob (v := .ref 153) rfl T.ZERO rfl))
  (pss_cons (ps_for PassesOwn.never rfl (pi_list (pv 0)) (pg_name (i := 2) sc_sum_of.nd rfl (by first | exact Or.inl rfl | exact Or.inr rfl)) (pss_one (ps_set (i := 1) sc_sum_of.nd rfl (by first | exact Or.inl rfl | exact Or.inr rfl) (pe_fn Fadd hr rfl (pa_cons (pv 1) (pa_cons (pv 2) pa_nil))))))
  (pss_one (ps_ret (pv 1))))), ?_⟩)
  refine body_F h fun F n rs hp => ?_
  obtain ⟨hB, hS⟩ := hp
  try dsimp only [cxOf, Cx.nox, Cx.wish, listR]
  walk_at "gd"
  refine w_con T.zero ?_
  walk_at "gd"
  refine w_forL ?_
  walk_at "gd"
  refine ⟨_, rfl, fun i ρ m => ∃ x, ρ = [.dat (.list (rs.map frD)), .dat (frD (sumR (rs.take i))), x] ∧ m = n, ⟨_, rfl, rfl⟩, fun i d ρ m hi hI => ?_, fun ρ m hI => ?_⟩
  · obtain ⟨x, rfl, rfl⟩ := hI
    obtain ⟨s, hs, rfl⟩ : ∃ s, rs[i]? = some s ∧ frD s = d := by
      rw [List.getElem?_map] at hi
      cases z : rs[i]? with
      | none =>
        rw [z] at hi
        cases hi
      | some s =>
        rw [z] at hi
        exact ⟨s, rfl, Option.some.inj hi⟩
    walk_at "gd"
    refine c_fn (enc := twoR) (_, s) ⟨hS i, hB s (List.mem_of_getElem? hs)⟩ ?_
    walk_at "gd"
    refine ⟨.dat (frD s), ?_, rfl⟩
    have e : sumR (rs.take (i + 1)) = sumR (rs.take i) + s := by
      unfold sumR
      rw [List.take_add_one, hs, List.foldl_append]
      rfl
    rw [e]
    rfl
  · obtain ⟨x, rfl, rfl⟩ := hI
    walk_at "gd"
    rw [List.length_map, List.take_length]
    exact ⟨rfl, rfl⟩
end
end K35
/-! what the built-in names name -/
namespace WkB
open PySem
theorem b_bool : bootBuiltins "bool" = some (.type "bool") := by decide +kernel
theorem b_dict : bootBuiltins "dict" = some (.type "dict") := by decide +kernel
theorem b_int : bootBuiltins "int" = some (.type "int") := by decide +kernel
theorem b_list : bootBuiltins "list" = some (.type "list") := by decide +kernel
theorem b_range : bootBuiltins "range" = some (.type "range") := by decide +kernel
theorem b_str : bootBuiltins "str" = some (.type "str") := by decide +kernel
theorem b_tuple : bootBuiltins "tuple" = some (.type "tuple") := by decide +kernel
theorem b_set : bootBuiltins "set" = some (.type "set") := by decide +kernel
theorem b_ValueError : bootBuiltins "ValueError" = some (.type "ValueError") := by decide +kernel
theorem b_LookupError : bootBuiltins "LookupError" = some (.type "LookupError") := by decide +kernel
theorem b_ArithmeticError : bootBuiltins "ArithmeticError" = some (.type "ArithmeticError") := by decide +kernel
theorem b_bytes : bootBuiltins "bytes" = some (.type "bytes") := by decide +kernel
theorem b_type : bootBuiltins "type" = some (.type "type") := by decide +kernel
theorem b_zip : bootBuiltins "zip" = some (.type "zip") := by decide +kernel
theorem b_enumerate : bootBuiltins "enumerate" = some (.type "enumerate") := by decide +kernel
theorem b_reversed : bootBuiltins "reversed" = some (.type "reversed") := by decide +kernel
theorem b_Exception : bootBuiltins "Exception" = some (.type "Exception") := by decide +kernel
theorem b_KeyError : bootBuiltins "KeyError" = some (.type "KeyError") := by decide +kernel
theorem b_TypeError : bootBuiltins "TypeError" = some (.type "TypeError") := by decide +kernel
theorem b_ZeroDivisionError : bootBuiltins "ZeroDivisionError" = some (.type "ZeroDivisionError") := by decide +kernel
theorem b_IndexError : bootBuiltins "IndexError" = some (.type "IndexError") := by decide +kernel
theorem b_abs : bootBuiltins "abs" = some (.builtin "abs") := by decide +kernel
theorem b_isinstance : bootBuiltins "isinstance" = some (.builtin "isinstance") := by decide +kernel
theorem b_len : bootBuiltins "len" = some (.builtin "len") := by decide +kernel
theorem b_max : bootBuiltins "max" = some (.builtin "max") := by decide +kernel
theorem b_min : bootBuiltins "min" = some (.builtin "min") := by decide +kernel
theorem b_repr : bootBuiltins "repr" = some (.builtin "repr") := by decide +kernel
theorem b_sum : bootBuiltins "sum" = some (.builtin "sum") := by decide +kernel
theorem b_sorted : bootBuiltins "sorted" = some (.builtin "sorted") := by decide +kernel
theorem b_divmod : bootBuiltins "divmod" = some (.builtin "divmod") := by decide +kernel
theorem b_all : bootBuiltins "all" = some (.builtin "all") := by decide +kernel
theorem b_any : bootBuiltins "any" = some (.builtin "any") := by decide +kernel
end WkB
/-! the steps over data that need no thought -/
local macro_rules | `(tactic| walk_at "gd") => `(tactic| repeat (first
  | ((with_reducible refine' WkD.w_var ?hv ?hn ?_); (case hv => exact rfl); (case hn => exact (fun z => nomatch z)))
  | with_reducible refine WkD.w_int ?_ | with_reducible refine WkD.w_str ?_ | with_reducible refine WkD.w_non ?_ | with_reducible refine WkD.w_bl ?_
  | with_reducible refine WkD.w_chain ?_ | with_reducible refine WkD.w_tyc ?_ | ((with_reducible refine' WkD.c_isi ?hu ?_); (case hu => decide))
  | with_reducible refine WkD.w_op ?_ | with_reducible refine WkD.w_un ?_ | with_reducible refine WkD.w_nil ?_ | with_reducible refine WkD.w_cons ?_ | ((with_reducible refine' WkD.w_isi2 ?ha ?hb ?_); (case ha => decide); (case hb => decide)) | with_reducible refine WkD.w_CB ?_ | with_reducible refine WkD.w_call ?_
  | with_reducible refine WkD.w_if ?_ | with_reducible refine WkD.w_andV ?_ | with_reducible refine WkD.w_orV ?_ | with_reducible refine WkD.w_notV ?_ | with_reducible refine WkD.w_test ?_ | with_reducible refine WkD.w_tB ?_ | with_reducible refine WkD.w_not ?_
  | with_reducible refine WkD.w_and ?_ | with_reducible refine WkD.w_or ?_ | with_reducible refine WkD.w_yes ?_ | with_reducible refine WkD.w_next ?_ | with_reducible refine WkD.w_seq ?_ | with_reducible refine WkD.w_ret ?_ | with_reducible refine WkD.w_retN ?_
  | with_reducible refine WkD.w_drop ?_ | with_reducible refine WkD.w_ifS ?_ | with_reducible refine WkD.w_asg ?_ | with_reducible refine WkD.w_sl ?_ | with_reducible refine WkD.w_po0 ?_ | with_reducible refine WkD.w_po1 ?_ | with_reducible refine WkD.e_si ?_ | with_reducible refine WkD.l_A ?_ | with_reducible refine WkD.l_L ?_ | with_reducible refine WkD.w_cont ?_ | with_reducible refine WkD.w_break ?_ | with_reducible refine WkD.w_gt2 ?_ | with_reducible refine WkD.w_gt3 ?_ | with_reducible refine WkD.w_gcons ?_ | with_reducible refine WkD.w_gnil ?_ | with_reducible refine WkD.w_name ?_ | with_reducible refine WkD.w_par ?_
  | with_reducible refine WkD.r_I0i ?_ | with_reducible refine WkD.r_I0b ?_ | with_reducible refine WkD.u_U ?_ | with_reducible refine WkD.r_eqI ?_ | with_reducible refine WkD.r_neI ?_ | with_reducible refine WkD.r_eqS ?_ | with_reducible refine WkD.r_eqB ?_
  | ((with_reducible refine' WkD.r_ix ?hi ?_); (case hi => exact rfl)) | ((with_reducible refine' WkD.r_ixl ?hi ?_); (case hi => exact rfl))
  | ((with_reducible refine' WkD.r_ixT ?hi ?_); (case hi => exact rfl)) | ((with_reducible refine' WkD.r_ixL ?hi ?_); (case hi => exact rfl))
  | with_reducible refine WkD.c_gcd ?_ | with_reducible refine WkD.c_abs ?_ | with_reducible refine WkD.c_int ?_ | with_reducible refine WkD.e_bool ?_ | with_reducible refine WkD.w_tup ?_ | with_reducible refine WkD.w_lst ?_ | with_reducible refine WkD.e_ab ?_ | with_reducible refine WkD.d0 ?_ | with_reducible refine WkD.d1 ?_ | with_reducible refine WkD.d2 ?_ | with_reducible refine WkD.d3 ?_ | with_reducible refine WkD.d4 ?_))

namespace K35
open PySem PySem.Spec PyProof.Rows L2 WkH WkE WkQ WkS WkF WkD
section
variable {P : Program} {w : World} {K : PySem.W.Frag} {mg : Str → Option Value} {base : Heap}
def isInt : PyData → Bool
  | .int _ => true
  | _ => false
theorem isInt_eq (d : PyData) : (isA d "int" && !isA d "bool") = isInt d := by
  cases d <;> simp [isA, tyName, isInt]
def one1 (d : PyData) : List PyData := [d]
abbrev spInteger : Sp := spF K one1 (fun _ => True) fun d => .bool (isInt d)
theorem sc_is_integer : FnScope ["value"] ["value"] d_is_integer.sco := ⟨rfl, rfl, rfl, by decide +kernel, rfl, by decide +kernel, by decide +kernel⟩
theorem ok_is_integer {fd : FuncData} (F : Stands K d_is_integer fd) (T : Bg K mg) : FnOk P w K mg base CX0 1 d_is_integer.adr fd ["value"] (spInteger (K := K)) := by
  refine FunD.ok F sc_is_integer (fun vs H Q E h => len_F h fun _ => rfl) (fun cdv A outer s H vs Q E hr h => ⟨_, PSs.nox (pss_one (ps_ret (pe_and (pe_callB call_isi rfl T.isinstance WkB.b_isinstance (pa_cons (pv 0) (pa_cons (pe_bltn (v := .ty "int") rfl T.int WkB.b_int rfl) pa_nil))) (pe_one (pe_not (pe_callB call_isi rfl T.isinstance WkB.b_isinstance (pa_cons (pv 0) (pa_cons (pe_bltn (v := .ty "bool") rfl T.bool WkB.b_bool rfl) pa_nil)))))))), ?_⟩)
  refine body_F h fun F n d hp => ?_
  try dsimp only [cxOf, Cx.nox, Cx.wish, one1]
  walk_at "gd"
  refine ⟨fun h => ?_, fun h => ?_⟩
  · walk_at "gd"
    exact ⟨rfl, by rw [← isInt_eq, h, Bool.true_and]⟩
  · exact ⟨rfl, by rw [← isInt_eq, h, Bool.false_and]⟩
def isTup (d : PyData) (k : Int) : Bool := match d with
  | .tuple ds => decide ((ds.length : Int) = k)
  | _ => false
def oneI (q : PyData × Int) : List PyData := [q.1, .int q.2]
abbrev spTuple : Sp := spF K oneI (fun _ => True) fun q => .bool (isTup q.1 q.2)
theorem sc_is_tuple : FnScope ["value", "many"] ["value", "many"] d_is_tuple.sco := ⟨rfl, rfl, rfl, by decide +kernel, rfl, by decide +kernel, by decide +kernel⟩
theorem ok_is_tuple {fd : FuncData} (F : Stands K d_is_tuple fd) (T : Bg K mg) : FnOk P w K mg base CX0 1 d_is_tuple.adr fd ["value", "many"] (spTuple (K := K)) := by
  refine FunD.ok F sc_is_tuple (fun vs H Q E h => len_F h fun _ => rfl) (fun cdv A outer s H vs Q E hr h => ⟨_, PSs.nox (pss_one (ps_ret (pe_and (pe_callB call_isi rfl T.isinstance WkB.b_isinstance (pa_cons (pv 0) (pa_cons (pe_bltn (v := .ty "tuple") rfl T.tuple WkB.b_tuple rfl) pa_nil))) (pe_one (pe_cmpR op_eq (pe_callB call_len_seq rfl T.len WkB.b_len (pa_cons (pv 0) pa_nil)) (pv 1) (nomark _)))))), ?_⟩)
  refine body_F h fun F n q hp => ?_
  obtain ⟨d, k⟩ := q
  try dsimp only [cxOf, Cx.nox, Cx.wish, oneI]
  walk_at "gd"
  refine ⟨fun h => ?_, fun h => ?_⟩
  · cases d <;> simp [isA, tyName] at h
    walk_at "gd"
    refine c_len (.inr rfl) ?_
    walk_at "gd"
    exact ⟨rfl, rfl⟩
  · refine ⟨rfl, ?_⟩
    cases d <;> first | rfl | simp [isA, tyName] at h
end
end K35
/-! Sizes of fractions: over a common base N, at most M. -/
namespace WkD
open PySem PySem.Spec PyProof.Rows L2 WkH WkQ WkS WkF
theorem den_divInt_dvd (a : Int) {b : Nat} (hb : 0 < b) : (Rat.divInt a b).den ∣ b := by
  rw [Rat.den_divInt]
  rw [if_neg (by omega)]
  rw [Int.natAbs_natCast]
  exact Nat.div_dvd_of_dvd (by
    have := Int.gcd_dvd_left (a := (b : Int)) (b := a)
    exact Int.natCast_dvd_natCast.mp this)
theorem mul_den (r : Rat) : r * (r.den : Rat) = (r.num : Rat) := by
  have e : (r.den : Rat) ≠ 0 := by
    have := r.den_pos
    exact_mod_cast (by omega : r.den ≠ 0)
  have e2 : r = (r.num : Rat) / (r.den : Rat) := by
    conv => lhs; rw [← Rat.num_divInt_den r, Rat.divInt_eq_div]
    rfl
  conv => lhs; lhs; rw [e2]
  exact Rat.div_mul_cancel e
theorem nat_le {M : Nat} {i : Int} : (i : Rat) ≤ (M : Rat) ↔ i ≤ (M : Int) := by
  rw [← Rat.intCast_natCast]
  exact Rat.intCast_le_intCast
theorem le_nat {M : Nat} {i : Int} : -(M : Rat) ≤ (i : Rat) ↔ -(M : Int) ≤ i := by
  rw [← Rat.intCast_natCast, ← Rat.intCast_neg]
  exact Rat.intCast_le_intCast
theorem over_base {r : Rat} {N : Nat} (h : r.den ∣ N) : ∃ a : Int, r * (N : Rat) = (a : Rat) := by
  obtain ⟨c, hc⟩ := h
  refine ⟨r.num * c, ?_⟩
  subst hc
  have e : (r.den : Rat) ≠ 0 := by
    have := r.den_pos
    exact_mod_cast (by omega : r.den ≠ 0)
  have e2 : r * (r.den : Rat) = (r.num : Rat) := mul_den r
  rw [Rat.natCast_mul, Rat.intCast_mul, ← Rat.mul_assoc, e2]
  rfl
theorem base_of {r : Rat} {N : Nat} (hN : 0 < N) {a : Int} (h : r * (N : Rat) = (a : Rat)) : r.den ∣ N := by
  have e : r = Rat.divInt a N := by
    have hn : (N : Rat) ≠ 0 := by exact_mod_cast (by omega : N ≠ 0)
    rw [Rat.divInt_eq_div]
    have : r = (a : Rat) / (N : Rat) := by rw [← h, Rat.mul_div_cancel hn]
    rw [this]
    rfl
  rw [e]
  exact den_divInt_dvd a hN
/-- r over the base N, at most M -/
structure In (N M : Nat) (r : Rat) : Prop where
  pos : 0 < N
  d : r.den ∣ N
  lo : -(M : Rat) ≤ r
  hi : r ≤ (M : Rat)
theorem In.bits {N M k : Nat} {r : Rat} (h : In N M r) (b1 : N < 2 ^ k) (b2 : M * N < 2 ^ k) : Bits k r := by
  have hd := Nat.le_of_dvd h.pos h.d
  refine ⟨?_, Nat.lt_of_le_of_lt hd b1⟩
  have e2 : r * (r.den : Rat) = (r.num : Rat) := mul_den r
  have dp : (0 : Rat) ≤ (r.den : Rat) := by exact_mod_cast Nat.zero_le _
  have u : (r.num : Rat) ≤ (M : Rat) * (r.den : Rat) := by rw [← e2]; exact Rat.mul_le_mul_of_nonneg_right h.hi dp
  have l : -(M : Rat) * (r.den : Rat) ≤ (r.num : Rat) := by rw [← e2]; exact Rat.mul_le_mul_of_nonneg_right h.lo dp
  have u' : r.num ≤ ((M * r.den : Nat) : Int) := by
    rw [← nat_le, Rat.natCast_mul]
    exact u
  have l' : -((M * r.den : Nat) : Int) ≤ r.num := by
    rw [← le_nat, Rat.natCast_mul]
    have : -((M : Rat) * (r.den : Rat)) = -(M : Rat) * (r.den : Rat) := by grind
    rw [this]
    exact l
  have : r.num.natAbs ≤ M * r.den := by omega
  have m : M * r.den ≤ M * N := Nat.mul_le_mul_left _ hd
  omega
theorem In.mono {N M N' M' : Nat} {r : Rat} (h : In N M r) (hN : 0 < N') (d : N ∣ N') (m : M ≤ M') : In N' M' r := by
  have : (M : Rat) ≤ (M' : Rat) := by exact_mod_cast m
  exact ⟨hN, Nat.dvd_trans h.d d, by have := h.lo; grind, by have := h.hi; grind⟩
theorem In.add {N M M' : Nat} {r s : Rat} (h : In N M r) (h' : In N M' s) : In N (M + M') (r + s) := by
  obtain ⟨a, ea⟩ := over_base h.d
  obtain ⟨b, eb⟩ := over_base h'.d
  have e : ((M + M' : Nat) : Rat) = (M : Rat) + (M' : Rat) := Rat.natCast_add M M'
  refine ⟨h.pos, base_of h.pos (a := a + b) ?_, ?_, ?_⟩
  · rw [Rat.add_mul, ea, eb, Rat.intCast_add]
  · rw [e]
    have := h.lo
    have := h'.lo
    grind
  · rw [e]
    have := h.hi
    have := h'.hi
    grind
theorem In.neg {N M : Nat} {r : Rat} (h : In N M r) : In N M (-r) := by
  refine ⟨h.pos, ?_, ?_, ?_⟩
  · exact h.d
  · have := h.hi
    grind
  · have := h.lo
    grind
theorem In.sub {N M M' : Nat} {r s : Rat} (h : In N M r) (h' : In N M' s) : In N (M + M') (r - s) := by
  rw [Rat.sub_eq_add_neg]
  exact h.add h'.neg
theorem In.mul {N M N' M' : Nat} {r s : Rat} (h : In N M r) (h' : In N' M' s) : In (N * N') (M * M') (r * s) := by
  obtain ⟨a, ea⟩ := over_base h.d
  obtain ⟨b, eb⟩ := over_base h'.d
  have e : ((M * M' : Nat) : Rat) = (M : Rat) * (M' : Rat) := Rat.natCast_mul M M'
  have hp : 0 < N * N' := Nat.mul_pos h.pos h'.pos
  have l1 := h.lo
  have l2 := h.hi
  have l3 := h'.lo
  have l4 := h'.hi
  have key : ∀ {x y A B : Rat}, -A ≤ x → x ≤ A → -B ≤ y → y ≤ B → x * y ≤ A * B := fun {x y A B} a1 a2 b1 b2 => by
    rcases Rat.le_total (a := 0) (b := y) with hy | hy
    · have s1 : x * y ≤ A * y := Rat.mul_le_mul_of_nonneg_right a2 hy
      have s2 : A * y ≤ A * B := Rat.mul_le_mul_of_nonneg_left b2 (by grind)
      grind
    · have s1 : x * y ≤ (-A) * y := by
        have := Rat.mul_le_mul_of_nonneg_right a1 (show (0 : Rat) ≤ -y by grind)
        grind
      have s2 : (-A) * y ≤ A * B := by
        have := Rat.mul_le_mul_of_nonneg_left (show -y ≤ B by grind) (show (0 : Rat) ≤ A by grind)
        grind
      grind
  refine ⟨hp, base_of hp (a := a * b) ?_, ?_, ?_⟩
  · rw [Rat.natCast_mul, Rat.intCast_mul, ← ea, ← eb]
    grind
  · have := key (x := -r) (y := s) (A := (M : Rat)) (B := (M' : Rat)) (by grind) (by grind) l3 l4
    rw [e]
    grind
  · rw [e]
    exact key l1 l2 l3 l4
theorem In.ofInt (i : Int) {M : Nat} (h : i.natAbs ≤ M) : In 1 M (i : Rat) := by
  refine ⟨by decide, ?_, ?_, ?_⟩
  · rw [Rat.den_intCast]
    exact Nat.dvd_refl 1
  · exact le_nat.mpr (by omega)
  · exact nat_le.mpr (by omega)
theorem In.one {N M : Nat} {r : Rat} (h : In N M r) (m : M = 0) : r = 0 := by
  subst m
  have l1 := h.lo
  have l2 := h.hi
  have : ((0 : Nat) : Rat) = 0 := rfl
  grind
/-- the sum of fractions over one base -/
theorem In.fold {N M : Nat} : ∀ {rs : List Rat} {x : Rat} {M0 : Nat}, In N M0 x → (∀ r ∈ rs, In N M r) → In N (M0 + rs.length * M) (rs.foldl (· + ·) x)
  | [], x, M0, hx, _ => by
    rw [List.length_nil, Nat.zero_mul, Nat.add_zero]
    exact hx
  | r :: rs, x, M0, hx, h => by
    have := In.fold (rs := rs) (x := x + r) (M0 := M0 + M) (hx.add (h r (List.mem_cons_self ..))) fun s hs => h s (List.mem_cons_of_mem _ hs)
    rw [List.length_cons, Nat.add_mul, Nat.one_mul]
    have e : M0 + (rs.length * M + M) = M0 + M + rs.length * M := by omega
    rw [e]
    exact this
theorem In.mx {N M : Nat} {r s : Rat} (h : In N M r) (h' : In N M s) : In N M (if r < s then s else r) := by
  split
  · exact h'
  · exact h
end WkD
namespace WkD
open PySem PySem.Spec PyProof.Rows L2 WkH WkQ WkS WkF
theorem bits_divInt {a b : Int} {k : Nat} (hb : 0 < b) (h1 : a.natAbs < 2 ^ k) (h2 : b.natAbs < 2 ^ k) : Bits k (Rat.divInt a b) := by
  have g := gcd_pos (a := a) hb
  have e1 := low_num (a := a) hb
  have e2 := low_den (a := a) hb
  have m1 : (a / ((Nat.gcd a.natAbs b.natAbs : Nat) : Int)).natAbs ≤ a.natAbs := Int.natAbs_ediv_le_natAbs _ _
  have m2 : (b / ((Nat.gcd a.natAbs b.natAbs : Nat) : Int)).natAbs ≤ b.natAbs := Int.natAbs_ediv_le_natAbs _ _
  rw [e1] at m1
  rw [e2, Int.natAbs_natCast] at m2
  exact ⟨by omega, by omega⟩
theorem Bits.plus {a c : Nat} {r s : Rat} (h : Bits a r) (h' : Bits c s) : Bits (a + c + 1) (r + s) := by
  rw [← add_div]
  have d1 := den_bits h
  have d2 := den_bits h'
  have p1 := r.den_pos
  have p2 := s.den_pos
  have b1 := bits_mul h.n d2
  have b2 := bits_mul h'.n d1
  rw [Nat.add_comm] at b2
  exact bits_divInt (Int.mul_pos (by omega) (by omega)) (bits_add b1 b2) (Nat.lt_of_lt_of_le (bits_mul d1 d2) (Nat.pow_le_pow_right (by decide) (by omega)))
theorem Bits.fold {c : Nat} : ∀ {rs : List Rat} {x : Rat} {a : Nat}, Bits a x → (∀ r ∈ rs, Bits c r) → Bits (a + rs.length * (c + 1)) (rs.foldl (· + ·) x)
  | [], x, a, hx, _ => by
    rw [List.length_nil, Nat.zero_mul, Nat.add_zero]
    exact hx
  | r :: rs, x, a, hx, h => by
    have := Bits.fold (rs := rs) (x := x + r) (a := a + c + 1) (hx.plus (h r (List.mem_cons_self ..))) fun s hs => h s (List.mem_cons_of_mem _ hs)
    rw [List.length_cons, Nat.add_mul, Nat.one_mul]
    have e : a + (rs.length * (c + 1) + (c + 1)) = a + c + 1 + rs.length * (c + 1) := by omega
    rw [e]
    exact this
/-! ### data of small numbers -/
mutual
def small : PyData → Bool
  | .int i => decide (i.natAbs < 2 ^ 100)
  | .list ds => smalls ds
  | .tuple ds => smalls ds
  | _ => true
def smalls : List PyData → Bool
  | [] => true
  | d :: ds => small d && smalls ds
end
theorem smalls_mem : ∀ {ds : List PyData} {d : PyData}, smalls ds = true → d ∈ ds → small d = true
  | e :: ds, d, h, m => by
    have h' : small e = true ∧ smalls ds = true := by simpa [smalls] using h
    rcases List.mem_cons.mp m with rfl | m
    · exact h'.1
    · exact smalls_mem h'.2 m
theorem smalls_of : ∀ {ds : List PyData}, (∀ d ∈ ds, small d = true) → smalls ds = true
  | [], _ => rfl
  | e :: ds, h => by
    have h1 := h e (List.mem_cons_self ..)
    have h2 := smalls_of (ds := ds) fun d hd => h d (List.mem_cons_of_mem _ hd)
    simp [smalls, h1, h2]
theorem small_fr {r : Rat} (h : small (frD r) = true) : Bits 100 r := by
  have h' : r.num.natAbs < 2 ^ 100 ∧ r.den < 2 ^ 100 := by simpa [small, smalls, frD] using h
  exact ⟨h'.1, h'.2⟩
theorem fr_small {r : Rat} (h : Bits 100 r) : small (frD r) = true := by
  have h1 := h.n
  have h2 := h.d
  simpa [small, smalls, frD] using ⟨h1, h2⟩
/-! ### more rules -/
section
variable {S : Type} {F : Eff S} {K : PySem.W.Frag} {ρ : List Sl} {n : S} {Φ : Sl → S → Prop} {te : TE} {g : TG} {vs : List Nat}
open PySem PySem.Spec PyProof.Rows L2 WkQ
theorem c_allE {bs : List Bool} {ds : List PyData} (h : ds = bs.map .bool) (q : Φ (.dat (.bool (bs.all id))) n) : wC F K (rAll K) [.dat (.list ds)] n Φ := by
  subst h
  exact c_all q
theorem made_range {lo : Int} {k : Nat} {out : Nat → PyData} (h : ∀ (D : Addr) (ys : List V) (i : Nat), i < k → wG (F.hide D ys) K g (.dat (.int (lo + (i : Int)))) (wipeR ρ vs) n fun ρ2 m => wE (F.hide D ys) K te ρ2 m fun r m3 => r = .dat (out i) ∧ m3 = n)
    (q : Φ (.dat (.list ((List.range k).map out))) n) : Made F K (intsD lo k) g tYes te vs ρ n Φ :=
  made_map (xs := List.range k) (enc := fun (i : Nat) => .int (lo + (i : Int))) (fun D ys i x hx => h D ys x (by
    obtain ⟨h1, h2⟩ := List.getElem?_eq_some_iff.mp hx
    rw [List.getElem_range] at h2
    rw [List.length_range] at h1
    omega)) q
theorem c_fnE {α : Type} {enc : α → List PyData} {pre : α → Prop} {out : α → PyData} {as : List Sl} (a : α) (he : as = (enc a).map .dat) (hp : pre a) (q : Φ (.dat (out a)) n) : wC F K (fun vs H Q => WkD.spF K enc pre out vs H Q E0) as n Φ := by
  subst he
  exact c_fn a hp q
theorem atI_map {α : Type} {f : α → PyData} {xs : List α} {i : Nat} {x : α} (h : xs[i]? = some x) : atI (xs.map f) (i : Int) = some (f x) := atI_nat (by rw [List.getElem?_map, h]; rfl)
theorem w_gt2 {gs : TGs} {a b : PyData} {Ψ : List Sl → S → Prop} (h : wGs F K gs [.dat a, .dat b] ρ n Ψ) : wG F K (gTup K 2 gs) (.dat (.tuple [a, b])) ρ n Ψ := w_gtup rfl h
theorem w_gt3 {gs : TGs} {a b c : PyData} {Ψ : List Sl → S → Prop} (h : wGs F K gs [.dat a, .dat b, .dat c] ρ n Ψ) : wG F K (gTup K 3 gs) (.dat (.tuple [a, b, c])) ρ n Ψ := w_gtup rfl h
end
end WkD
namespace WkD
open PySem PySem.Spec PyProof.Rows L2 WkH WkQ WkS WkF
theorem Bits.minus {a c : Nat} {r s : Rat} (h : Bits a r) (h' : Bits c s) : Bits (a + c + 1) (r - s) := by
  rw [Rat.sub_eq_add_neg]
  exact h.plus ⟨by show (-s.num).natAbs < _; rw [Int.natAbs_neg]; exact h'.n, h'.d⟩
theorem Bits.times {a c : Nat} {r s : Rat} (h : Bits a r) (h' : Bits c s) : Bits (a + c) (r * s) := by
  rw [← mul_div]
  have p1 := r.den_pos
  have p2 := s.den_pos
  exact bits_divInt (Int.mul_pos (by omega) (by omega)) (bits_mul h.n h'.n) (bits_mul (den_bits h) (den_bits h'))
theorem Bits.over {a c : Nat} {r s : Rat} (h : Bits a r) (h' : Bits c s) (hs : 0 < s.num) : Bits (a + c) (r / s) := by
  rw [← div_div hs]
  have p1 := r.den_pos
  exact bits_divInt (Int.mul_pos (by omega) hs) (bits_mul h.n (den_bits h')) (bits_mul (den_bits h) h'.n)
/-! ### slices, loops down -/
section
variable {S : Type} {F : Eff S} {K : PySem.W.Frag} {ρ : List Sl} {n : S} {Φ : Sl → S → Prop} {P : Po S} {te : TE} {ar : TA} {g : TG} {tb : TS} {tl th : TO}
def wL {S : Type} (F : Eff S) (K : PySem.W.Frag) (r : V → Option Int → Option Int → Hp → VK → Prop) (a : Sl) (l u : Option Int) (n : S) (Φ : Sl → S → Prop) : Prop :=
  ∀ (x : V) (H : Hp) (Q : VK), F.J n H → RepV K (F.st H) x a → (∀ v H' r m, Φ r m → F.J m H' → Same (F.st H) (F.st H') → RepV K (F.st H') v r → Q v H') → r x l u H Q
theorem w_sl {r : V → Option Int → Option Int → Hp → VK → Prop} (h : wE F K te ρ n fun a m => wO F K tl ρ m fun l k => wO F K th ρ k fun u q => wL F K r a l u q Φ) : wE F K (tSl r te tl th) ρ n Φ := fun σ H Q j rp q =>
  h σ H _ j rp fun x H1 a m h2 j1 s1 rx => h2 σ H1 _ j1 (rp.mono s1) fun l H2 k h3 j2 s2 => h3 σ H2 _ j2 (rp.mono (s1.trans s2)) fun u H3 p h4 j3 s3 => h4 x H3 Q j3 (RepV.mono (s2.trans s3) rx) fun v H' r m z j' s' rv => q v H' r m z j' (s1.trans (s2.trans (s3.trans s'))) rv
theorem w_po0 {Θ : Option Int → S → Prop} (q : Θ none n) : wO F K tNoPart ρ n Θ := fun σ H Q j rp k => k none H n q j (Same.refl _)
theorem w_po1 {Θ : Option Int → S → Prop} (h : wE F K te ρ n fun a m => ∃ i, a = .dat (.int i) ∧ Θ (some i) m) : wO F K (tPart te) ρ n Θ := fun σ H Q j rp q =>
  h σ H _ j rp fun x H1 a m ⟨i, e, z⟩ j1 s1 rx => by
    subst e
    cases rx
    exact ⟨i, rfl, q (some i) H1 m z j1 s1⟩
/-- the items of ds[lo:hi] -/
def cutD (ds : List PyData) (lo hi : Option Int) : List PyData := (ds.drop (HT.sIx ds.length 0 lo)).take (HT.sIx ds.length ds.length hi - HT.sIx ds.length 0 lo)
theorem cutD_from (ds : List PyData) (k : Nat) : cutD ds (some (k : Int)) none = ds.drop k := by
  unfold cutD
  rw [HT.sIx_none, HT.sIx_nat]
  rcases Nat.le_total k ds.length with h | h
  · rw [Nat.min_eq_left h]
    exact List.take_of_length_le (by rw [List.length_drop]; omega)
  · rw [Nat.min_eq_right h, Nat.sub_self, List.take_zero, List.drop_eq_nil_of_le h]
theorem cutD_to (ds : List PyData) (k : Nat) : cutD ds none (some (k : Int)) = ds.take k := by
  unfold cutD
  rw [HT.sIx_none, HT.sIx_nat, List.drop_zero, Nat.sub_zero]
  rcases Nat.le_total k ds.length with h | h
  · rw [Nat.min_eq_left h]
  · rw [Nat.min_eq_right h, List.take_of_length_le (Nat.le_refl _), List.take_of_length_le h]
theorem cut_rep {G : Hp} {vs : List V} {ds : List PyData} (h : DqAll K G vs ds) (lo hi : Option Int) : DqAll K G (cutV vs lo hi) (cutD ds lo hi) := by
  unfold cutV cutD
  rw [h.length]
  exact (h.drop _).take _
theorem l_A {ds : List PyData} {l u : Option Int} (q : Φ (.dat (.tuple (cutD ds l u))) n) : wL F K (rSlA K) (.dat (.tuple ds)) l u n Φ := fun x H Q j rx k => by
  cases rx with
  | @tup a xs _ hs ha =>
    refine ⟨a, xs, rfl, SqT.mono Eff.sub hs, fun hw => ?_, fun _ p hp => ?_⟩
    · have e : cutD ds l u = ds := by
        unfold cutD
        rw [ha.length] at hw
        rw [hw.1, hw.2, List.drop_zero, Nat.sub_zero, List.take_length]
      exact k _ H _ n q j (Same.refl _) (by rw [e]; exact .tup hs ha)
    · exact k _ _ _ n q (Eff.keep (same_upd hp) j) (Eff.mono (same_upd hp)) (.tup (.inl (.inl (Eff.new j hp))) ((cut_rep ha l u).mono (Eff.mono (same_upd hp))))
theorem l_L {ds : List PyData} {l u : Option Int} (q : Φ (.dat (.list (cutD ds l u))) n) : wL F K (rSlL K) (.dat (.list ds)) l u n Φ := fun x H Q j rx k => by
  cases rx with
  | @lst a xs _ hs ha =>
    refine ⟨a, xs, rfl, SqL.of (Eff.sub _ _ hs), fun p hp => ?_⟩
    exact k _ _ _ n q (Eff.keep (same_upd hp) j) (Eff.mono (same_upd hp)) (.lst (Eff.new j hp) ((cut_rep ha l u).mono (Eff.mono (same_upd hp))))
/-- i, i - 1, .., k of them -/
def downD (i : Int) (k : Nat) : List PyData := (List.range k).map fun (j : Nat) => .int (i + (j : Int) * (-1))
theorem downD_get {lo : Int} {k i : Nat} (h : i < k) : (downD lo k)[i]? = some (.int (lo + (i : Int) * (-1))) := by
  unfold downD
  rw [List.getElem?_map, List.getElem?_range h]
  rfl
theorem downD_length {lo : Int} {k : Nat} : (downD lo k).length = k := by
  unfold downD
  rw [List.length_map, List.length_range]
theorem w_forDn (h : wA F K ar ρ n fun as m => ∃ i j : Int, as = [.dat (.int i), .dat (.int j), .dat (.int (-1))] ∧ (-(2 ^ 62) ≤ i ∧ i < 2 ^ 62 ∧ -(2 ^ 62) ≤ j ∧ j < 2 ^ 62) ∧ Loop F K (downD i (i - j).toNat) g tb ρ m P) : wS F K (tFor (iRng3 ar) g tb) ρ n P := fun σ H D j rp M =>
  h σ H _ j rp fun vs H1 as m ⟨i, k, e, b, L⟩ j1 s1 ra => by
    subst e
    cases ra with
    | cons r1 ra =>
      cases ra with
      | cons r2 ra =>
        cases ra with
        | cons r3 ra =>
          cases ra
          cases r1
          cases r2
          cases r3
          obtain ⟨I, h0, hs, hd⟩ := L
          refine ⟨i, k, -1, (i - k).toNat, rfl, RgC.neg b.1 b.2.1 b.2.2.1 b.2.2.2, ?_⟩
          refine for_rangeC (fun i σ' H' => ∃ ρ' k, I i ρ' k ∧ F.J k H' ∧ Same (F.st H1) (F.st H') ∧ RepS K (F.st H') σ' ρ') ⟨ρ, m, h0, j1, Same.refl _, rp.mono s1⟩ (fun i σ' H' hi ⟨ρ', q, p, jk, s, rk⟩ => ?_) fun σ' H' ⟨ρ', q, p, jk, s, rk⟩ => ?_
          · refine hs i _ ρ' q (downD_get hi) p _ σ' H' _ jk (.int _) rk fun σ2 H2 ρ2 k2 h2 j2 s2 r2 => ?_
            exact h2 σ2 H2 _ j2 r2 ⟨fun σ3 H3 ρ3 k3 p3 j3 s3 r3 => ⟨ρ3, k3, p3, j3, s.trans (s2.trans s3), r3⟩, fun v H3 r k3 p3 j3 s3 r3 => M.rt v H3 r k3 p3 j3 (s1.trans (s.trans (s2.trans s3))) r3,
              fun σ3 H3 ρ3 k3 p3 j3 s3 r3 => M.nx σ3 H3 ρ3 k3 p3 j3 (s1.trans (s.trans (s2.trans s3))) r3, fun σ3 H3 ρ3 k3 p3 j3 s3 r3 => ⟨ρ3, k3, p3, j3, s.trans (s2.trans s3), r3⟩⟩
          · exact M.nx σ' H' ρ' q (hd ρ' q (by rw [downD_length]; exact p)) jk (s1.trans s) rk
theorem e_si {i : Int} {R : Int → Prop} (q : R i) : ∃ i', Sl.dat (.int i) = Sl.dat (.int i') ∧ R i' := ⟨i, rfl, q⟩
end
end WkD
/-! the steps over data that need no thought -/
local macro_rules | `(tactic| walk_at "gd") => `(tactic| repeat (first
  | ((with_reducible refine' WkD.w_var ?hv ?hn ?_); (case hv => exact rfl); (case hn => exact (fun z => nomatch z)))
  | with_reducible refine WkD.w_int ?_ | with_reducible refine WkD.w_str ?_ | with_reducible refine WkD.w_non ?_ | with_reducible refine WkD.w_bl ?_
  | with_reducible refine WkD.w_chain ?_ | with_reducible refine WkD.w_tyc ?_ | ((with_reducible refine' WkD.c_isi ?hu ?_); (case hu => decide))
  | with_reducible refine WkD.w_op ?_ | with_reducible refine WkD.w_un ?_ | with_reducible refine WkD.w_nil ?_ | with_reducible refine WkD.w_cons ?_ | ((with_reducible refine' WkD.w_isi2 ?ha ?hb ?_); (case ha => decide); (case hb => decide)) | with_reducible refine WkD.w_CB ?_ | with_reducible refine WkD.w_call ?_
  | with_reducible refine WkD.w_if ?_ | with_reducible refine WkD.w_andV ?_ | with_reducible refine WkD.w_orV ?_ | with_reducible refine WkD.w_notV ?_ | with_reducible refine WkD.w_test ?_ | with_reducible refine WkD.w_tB ?_ | with_reducible refine WkD.w_not ?_
  | with_reducible refine WkD.w_and ?_ | with_reducible refine WkD.w_or ?_ | with_reducible refine WkD.w_yes ?_ | with_reducible refine WkD.w_next ?_ | with_reducible refine WkD.w_seq ?_ | with_reducible refine WkD.w_ret ?_ | with_reducible refine WkD.w_retN ?_
  | with_reducible refine WkD.w_drop ?_ | with_reducible refine WkD.w_ifS ?_ | with_reducible refine WkD.w_asg ?_ | with_reducible refine WkD.w_sl ?_ | with_reducible refine WkD.w_po0 ?_ | with_reducible refine WkD.w_po1 ?_ | with_reducible refine WkD.e_si ?_ | with_reducible refine WkD.l_A ?_ | with_reducible refine WkD.l_L ?_ | with_reducible refine WkD.w_cont ?_ | with_reducible refine WkD.w_break ?_ | with_reducible refine WkD.w_gt2 ?_ | with_reducible refine WkD.w_gt3 ?_ | with_reducible refine WkD.w_gcons ?_ | with_reducible refine WkD.w_gnil ?_ | with_reducible refine WkD.w_name ?_ | with_reducible refine WkD.w_par ?_
  | with_reducible refine WkD.r_I0i ?_ | with_reducible refine WkD.r_I0b ?_ | with_reducible refine WkD.u_U ?_ | with_reducible refine WkD.r_eqI ?_ | with_reducible refine WkD.r_neI ?_ | with_reducible refine WkD.r_eqS ?_ | with_reducible refine WkD.r_eqB ?_
  | ((with_reducible refine' WkD.r_ix ?hi ?_); (case hi => exact rfl)) | ((with_reducible refine' WkD.r_ixl ?hi ?_); (case hi => exact rfl))
  | ((with_reducible refine' WkD.r_ixT ?hi ?_); (case hi => exact rfl)) | ((with_reducible refine' WkD.r_ixL ?hi ?_); (case hi => exact rfl))
  | with_reducible refine WkD.c_gcd ?_ | with_reducible refine WkD.c_abs ?_ | with_reducible refine WkD.c_int ?_ | with_reducible refine WkD.e_bool ?_ | with_reducible refine WkD.w_tup ?_ | with_reducible refine WkD.w_lst ?_ | with_reducible refine WkD.e_ab ?_ | with_reducible refine WkD.d0 ?_ | with_reducible refine WkD.d1 ?_ | with_reducible refine WkD.d2 ?_ | with_reducible refine WkD.d3 ?_ | with_reducible refine WkD.d4 ?_))

namespace K35
open PySem PySem.Spec PyProof.Rows L2 WkH WkE WkQ WkS WkF WkD
section
variable {P : Program} {w : World} {K : PySem.W.Frag} {mg : Str → Option Value} {base : Heap}
theorem pe_globI {X : Cx} {x : Str} {i : Int} {pos : Pos} (hg : Gl X x) (h : ∃ t, X.mg x = some (.int i t)) (hd : (x == ("__debug__" : Str)) = false := by decide) : PE X (.Name x pos) (tC (.int i)) :=
  let ⟨t, e⟩ := h
  pe_glob (v := .int i) hg e ⟨t, rfl⟩ hd
structure Bn (mg : Str → Option Value) : Prop where
  MOST_WORTHS : ∃ t, mg "MOST_WORTHS" = some (.int 32 t)
  MOST_DRAWS : ∃ t, mg "MOST_DRAWS" = some (.int 12 t)
def isWithin (d : PyData) (lo hi : Int) : Bool := match d with
  | .int i => decide (lo ≤ i) && decide (i ≤ hi)
  | _ => false
def oneII (q : PyData × Int × Int) : List PyData := [q.1, .int q.2.1, .int q.2.2]
abbrev spWithin : Sp := spF K oneII (fun _ => True) fun q => .bool (isWithin q.1 q.2.1 q.2.2)
theorem sc_is_within : FnScope ["value", "low", "high"] ["value", "low", "high"] d_is_within.sco := ⟨rfl, rfl, rfl, by decide +kernel, rfl, by decide +kernel, by decide +kernel⟩
theorem ok_is_within {fd : FuncData} (F : Stands K d_is_within fd) (Fi : Fn P w K mg base CX0 1 "is_integer" ["value"] (spInteger (K := K))) : FnOk P w K mg base CX0 2 d_is_within.adr fd ["value", "low", "high"] (spWithin (K := K)) := by
  refine FunD.ok F sc_is_within (fun vs H Q E h => len_F h fun _ => rfl) (fun cdv A outer s H vs Q E hr h => ⟨_, PSs.nox (pss_one (ps_ret (pe_and (pe_fn Fi hr rfl (pa_cons (pv 0) pa_nil)) (pe_one (pe_chain op_le op_le (pv 1) (pv 0) (pv 2)))))), ?_⟩)
  refine body_F h fun F n q hp => ?_
  obtain ⟨d, lo, hi⟩ := q
  try dsimp only [cxOf, Cx.nox, Cx.wish, oneII]
  walk_at "gd"
  refine c_fn (enc := one1) d trivial ?_
  walk_at "gd"
  refine ⟨fun h => ?_, fun h => ?_⟩
  · cases d <;> simp [isInt] at h
    walk_at "gd"
    refine ⟨fun h1 => ?_, fun h1 => ⟨rfl, by rw [isWithin, h1, Bool.false_and]⟩⟩
    walk_at "gd"
    exact ⟨rfl, by rw [isWithin, h1, Bool.true_and]⟩
  · refine ⟨rfl, ?_⟩
    cases d <;> first | rfl | simp [isInt] at h
def isFr : PyData → Bool
  | .tuple [.int a, .int b] => decide (b > 0) && decide (((Nat.gcd a.natAbs b.natAbs : Nat) : Int) = 1)
  | _ => false
theorem isFr_frD (r : Rat) : isFr (frD r) = true := by
  have h1 := r.den_pos
  have h2 : Nat.gcd r.num.natAbs r.den = 1 := r.reduced
  show (decide ((r.den : Int) > 0) && decide (((Nat.gcd r.num.natAbs (r.den : Int).natAbs : Nat) : Int) = 1)) = true
  rw [Int.natAbs_natCast, h2]
  simp
  omega
theorem isFr_ex : ∀ {d : PyData}, isFr d = true → ∃ r, d = frD r := by
  intro d h
  unfold isFr at h
  split at h
  · rename_i a b
    simp only [Bool.and_eq_true, decide_eq_true_eq] at h
    refine ⟨⟨a, b.toNat, by omega, ?_⟩, ?_⟩
    · have e : b.natAbs = b.toNat := by omega
      rw [← e]
      exact_mod_cast h.2
    · show PyData.tuple [.int a, .int b] = .tuple [.int a, .int ((b.toNat : Nat) : Int)]
      have e : ((b.toNat : Nat) : Int) = b := by omega
      rw [e]
  · cases h
abbrev spFraction : Sp := spF K one1 (fun _ => True) fun d => .bool (isFr d)
theorem tup_len {d : PyData} {k : Int} (h : isTup d k = true) : ∃ ds : List PyData, d = .tuple ds ∧ (ds.length : Int) = k := by
  cases d <;> first | exact ⟨_, rfl, by simpa [isTup] using h⟩ | simp [isTup] at h
theorem tup_two {d : PyData} (h : isTup d 2 = true) : ∃ x y, d = .tuple [x, y] := by
  obtain ⟨ds, rfl, hl⟩ := tup_len h
  match ds, hl with
  | [x, y], _ => exact ⟨x, y, rfl⟩
  | [], h => simp at h
  | [_], h => simp at h
  | _ :: _ :: _ :: _, h => simp at h; omega
theorem not_two {d : PyData} (h : isTup d 2 = false) : isFr d = false := by
  cases e : isFr d with
  | false => rfl
  | true =>
    obtain ⟨r, rfl⟩ := isFr_ex e
    simp [isTup, frD] at h
theorem sc_is_fraction : FnScope ["value", "item"] ["value"] d_is_fraction.sco := ⟨rfl, rfl, rfl, by decide +kernel, rfl, by decide +kernel, by decide +kernel⟩
theorem ok_is_fraction {fd : FuncData} (F : Stands K d_is_fraction fd) (T : Bg K mg) (Fi : Fn P w K mg base CX0 1 "is_integer" ["value"] (spInteger (K := K))) (Ft : Fn P w K mg base CX0 1 "is_tuple" ["value", "many"] (spTuple (K := K))) :
    FnOk P w K mg base CX0 2 d_is_fraction.adr fd ["value"] (spFraction (K := K)) := by
  refine FunD.ok F sc_is_fraction (fun vs H Q E h => len_F h fun _ => rfl) (fun cdv A outer s H vs Q E hr h => ⟨_, PSs.nox (pss_cons (ps_if (PW.pt (pw_or (pt_not (pt_val (pe_fn Ft hr rfl (pa_cons (pv 0) (pa_cons pe_int pa_nil))))) (pw_or1 (pt_not (pt_val (pe_callB (cr_all rfl) rfl T.all WkB.b_all (pa_cons (pe_lc (own := [("item", 1)]) (g := (gName 1)) rfl sc_is_fraction.nd (pi_tup (pv 0)) (blkOk_by (own := [("item", 1)]) (N := ["value", "item"]) (sc := d_is_fraction.sco) (by decide +kernel)) (fun _ _ _ _ _ => (pg_name (i := 1) sc_is_fraction.nd rfl (by first | exact Or.inl rfl | exact Or.inr rfl))) (fun _ _ _ _ _ => pts_nil) (fun _ _ _ _ _ => (pe_fn Fi hr rfl (pa_cons (pv 1) pa_nil)))) pa_nil))))))) (pss_one (ps_ret pe_bl)) pss_nil)
  (pss_one (ps_ret (pe_and (pe_cmpR op_gt (pe_ix ix_seq (pv 0) pe_int (fun _ _ => rfl)) pe_int (nomark _)) (pe_one (pe_cmpR op_eq (pe_callBfun cr_gcd rfl T.gcd (pa_cons (pe_ix ix_seq (pv 0) pe_int (fun _ _ => rfl)) (pa_cons (pe_ix ix_seq (pv 0) pe_int (fun _ _ => rfl)) pa_nil))) pe_int (nomark _))))))), ?_⟩)
  refine body_F h fun F n d hp => ?_
  try dsimp only [cxOf, Cx.nox, Cx.wish, one1]
  walk_at "gd"
  refine c_fn (enc := oneI) (d, 2) trivial ?_
  walk_at "gd"
  refine ⟨fun h => ?_, fun h => ?_⟩
  · refine ⟨fun _ => ?_, fun z => ?_⟩
    · walk_at "gd"
      exact ⟨rfl, by rw [not_two (by simpa using h)]⟩
    · cases z
  · have h' : isTup d 2 = true := by simpa using h
    obtain ⟨x, y, rfl⟩ := tup_two h'
    walk_at "gd"
    refine w_lcT ?_ (sets_name (by decide))
    walk_at "gd"
    refine ⟨[x, y], rfl, Nat.le_of_ble_eq_true rfl, made_map (xs := [x, y]) (enc := fun d => d) (out := fun d => .bool (isInt d)) (fun D ys i z hz => ?_) ?_⟩
    · walk_at "gd"
      refine c_fn (enc := one1) z trivial ?_
      exact ⟨rfl, rfl⟩
    walk_at "gd"
    refine c_all (bs := [isInt x, isInt y]) ?_
    walk_at "gd"
    refine ⟨fun h => ?_, fun h => ?_⟩
    · walk_at "gd"
      refine ⟨rfl, ?_⟩
      cases e : isFr (.tuple [x, y]) with
      | false => rfl
      | true =>
        obtain ⟨r, er⟩ := isFr_ex e
        injection er with er
        injection er with e1 er
        injection er with e2 _
        subst e1
        subst e2
        simp [isInt] at h
    · have hxy : isInt x = true ∧ isInt y = true := by simpa using h
      cases x <;> simp [isInt] at hxy
      cases y <;> simp [isInt] at hxy
      walk_at "gd"
      refine ⟨fun h1 => ?_, fun h1 => ⟨rfl, by rw [isFr, h1, Bool.false_and]⟩⟩
      walk_at "gd"
      exact ⟨rfl, by rw [isFr, h1, Bool.true_and]⟩
end
end K35
/-! Searches with a cost for each draw: the plain law, no program in sight. -/
namespace K35M
/-- the sum of p * f w over a box -/
def mean (f : Rat → Rat) : List (Rat × Rat) → Rat
  | [] => 0
  | q :: b => q.2 * f q.1 + mean f b
theorem mean_nil (f : Rat → Rat) : mean f [] = 0 := rfl
theorem mean_cons (f : Rat → Rat) (q : Rat × Rat) (b : List (Rat × Rat)) : mean f (q :: b) = q.2 * f q.1 + mean f b := rfl
def mx (a b : Rat) : Rat := if a < b then b else a
theorem mx_l {a b : Rat} : a ≤ mx a b := by unfold mx; split <;> grind
theorem mx_r {a b : Rat} : b ≤ mx a b := by unfold mx; split <;> grind
theorem mx_le {a b c : Rat} (h1 : a ≤ c) (h2 : b ≤ c) : mx a b ≤ c := by unfold mx; split <;> grind
theorem mx_comm (a b : Rat) : mx a b = mx b a := by unfold mx; grind
theorem mx_of_le {a b : Rat} (h : a ≤ b) : mx a b = b := by unfold mx; grind
theorem mx_of_ge {a b : Rat} (h : b ≤ a) : mx a b = a := by unfold mx; grind
theorem mul_le {p x y : Rat} (hp : 0 ≤ p) (h : x ≤ y) : p * x ≤ p * y := Rat.mul_le_mul_of_nonneg_left h hp
section
variable {b : List (Rat × Rat)} {f g : Rat → Rat} {c x y m : Rat}
theorem mean_mono (hp : ∀ q ∈ b, 0 < q.2) (h : ∀ q ∈ b, f q.1 ≤ g q.1) : mean f b ≤ mean g b := by
  induction b with
  | nil => exact Rat.le_refl
  | cons q b ih =>
    have h1 := ih (fun q hq => hp q (List.mem_cons_of_mem _ hq)) (fun q hq => h q (List.mem_cons_of_mem _ hq))
    have h2 := mul_le (Rat.le_of_lt (hp q (List.mem_cons_self ..))) (h q (List.mem_cons_self ..))
    unfold mean
    grind
theorem mean_congr (h : ∀ q ∈ b, f q.1 = g q.1) : mean f b = mean g b := by
  induction b with
  | nil => rfl
  | cons q b ih =>
    have h1 := ih (fun q hq => h q (List.mem_cons_of_mem _ hq))
    have h2 := h q (List.mem_cons_self ..)
    unfold mean
    rw [h1, h2]
theorem mean_lin (s t : Rat) : mean (fun w => s * f w + t * g w) b = s * mean f b + t * mean g b := by
  induction b with
  | nil => unfold mean; grind
  | cons q b ih =>
    unfold mean
    rw [ih]
    grind
theorem mean_sub (x : Rat) : mean (fun w => f w - x) b = mean f b - x * mean (fun _ => 1) b := by
  induction b with
  | nil => unfold mean; grind
  | cons q b ih =>
    unfold mean
    rw [ih]
    grind
theorem mean_append (b b' : List (Rat × Rat)) : mean f (b ++ b') = mean f b + mean f b' := by
  induction b with
  | nil => unfold mean; grind
  | cons q b ih =>
    rw [List.cons_append, mean_cons, mean_cons, ih]
    grind
theorem mean_pos (hp : ∀ q ∈ b, 0 < q.2) (h : ∀ q ∈ b, 0 ≤ f q.1) : 0 ≤ mean f b := by
  have := mean_mono (f := fun _ => 0) hp h
  have e : mean (fun _ => 0) b = 0 := by
    clear this hp h
    induction b with
    | nil => rfl
    | cons q b ih => unfold mean; rw [ih]; grind
  grind
/-- the chance of a box -/
abbrev chance (b : List (Rat × Rat)) : Rat := mean (fun _ => 1) b
theorem chance_pos (hp : ∀ q ∈ b, 0 < q.2) (h : b ≠ []) : 0 < chance b := by
  cases b with
  | nil => exact absurd rfl h
  | cons q b =>
    have h1 := hp q (List.mem_cons_self ..)
    have h2 : 0 ≤ mean (fun _ => (1 : Rat)) b := mean_pos (fun q hq => hp q (List.mem_cons_of_mem _ hq)) fun _ _ => by decide
    unfold chance mean
    grind
/-- what a draw beside x brings -/
abbrev beside (b : List (Rat × Rat)) (x : Rat) : Rat := mean (fun w => mx x w) b
/-- what it brings beyond x and its cost -/
def gain (b : List (Rat × Rat)) (c x : Rat) : Rat := beside b x - c - x
theorem gain_eq (h1 : chance b = 1) : gain b c x = mean (fun w => mx x w - x) b - c := by
  rw [mean_sub]
  unfold gain
  have : mean (fun _ => (1 : Rat)) b = 1 := h1
  rw [this]
  grind
theorem gain_anti (hp : ∀ q ∈ b, 0 < q.2) (h1 : chance b = 1) (h : x ≤ y) : gain b c y ≤ gain b c x := by
  rw [gain_eq h1, gain_eq h1]
  have := mean_mono (b := b) (f := fun w => mx y w - y) (g := fun w => mx x w - x) hp fun q _ => by unfold mx; grind
  grind
/-- the mean of what lies above is positive only where something lies above -/
theorem some_above (hp : ∀ q ∈ b, 0 < q.2) (h : 0 < mean (fun w => mx x w - x) b) : ∃ q ∈ b, x < q.1 := by
  refine Classical.byContradiction fun n => ?_
  have h2 : mean (fun w => mx x w - x) b ≤ mean (fun _ => 0) b := mean_mono hp fun q hq => by
    have : ¬ x < q.1 := fun z => n ⟨q, hq, z⟩
    unfold mx
    rw [if_neg this]
    grind
  have e : mean (fun _ => 0) b = 0 := by
    clear h h2 hp n
    induction b with
    | nil => rfl
    | cons q b ih => unfold mean; rw [ih]; grind
  grind
theorem gain_strict (hp : ∀ q ∈ b, 0 < q.2) (h1 : chance b = 1) (h : x < y) {q : Rat × Rat} (hq : q ∈ b) (hy : y < q.1) : gain b c y < gain b c x := by
  rw [gain_eq h1, gain_eq h1]
  obtain ⟨u, v, e⟩ := List.append_of_mem hq
  subst e
  have hu := mean_mono (b := u) (f := fun w => mx y w - y) (g := fun w => mx x w - x) (fun q hq => hp q (by simp [hq])) fun q _ => by unfold mx; grind
  have hv := mean_mono (b := v) (f := fun w => mx y w - y) (g := fun w => mx x w - x) (fun q hq => hp q (by simp [hq])) fun q _ => by unfold mx; grind
  have hq0 := hp q (by simp)
  have e1 : mx y q.1 - y = q.1 - y := by unfold mx; rw [if_pos hy]
  have e2 : mx x q.1 - x = q.1 - x := by unfold mx; rw [if_pos (by grind)]
  have e3 : mean (fun w => mx y w - y) (u ++ q :: v) = mean (fun w => mx y w - y) u + (q.2 * (q.1 - y) + mean (fun w => mx y w - y) v) := by
    rw [mean_append, ← e1]
    rfl
  have e4 : mean (fun w => mx x w - x) (u ++ q :: v) = mean (fun w => mx x w - x) u + (q.2 * (q.1 - x) + mean (fun w => mx x w - x) v) := by
    rw [mean_append, ← e2]
    rfl
  rw [e3, e4]
  have : q.2 * (q.1 - y) < q.2 * (q.1 - x) := Rat.mul_lt_mul_of_pos_left (by grind) hq0
  grind
/-- one bar at most -/
theorem bar_one (hp : ∀ q ∈ b, 0 < q.2) (h1 : chance b = 1) (hc : 0 < c) (hx : gain b c x = 0) (hy : gain b c y = 0) : x = y := by
  have key : ∀ {x y : Rat}, gain b c x = 0 → gain b c y = 0 → ¬ x < y := fun {x y} hx hy h => by
    have h2 := gain_eq (c := c) (x := y) h1
    obtain ⟨q, hq, hy'⟩ := some_above (x := y) hp (by grind)
    have := gain_strict (c := c) hp h1 h hq hy'
    grind
  have a := key hx hy
  have b := key hy hx
  grind
/-! ### best means draw by draw -/
def V (b : List (Rat × Rat)) (c : Rat) : Nat → Rat → Rat
  | 0, m => m
  | n + 1, m => mx m (mean (fun w => V b c n (mx m w)) b - c)
def N (b : List (Rat × Rat)) (c : Rat) (m : Rat) : Nat → Rat
  | 0 => m
  | n + 1 => mx m (mean (fun w => mx (N b c m n) w) b - c)
def B (b : List (Rat × Rat)) (c x : Rat) : Nat → Rat → Rat
  | 0, m => m
  | n + 1, m => if x < m then m else mean (fun w => B b c x n (mx m w)) b - c
variable (hp : ∀ q ∈ b, 0 < q.2) (h1 : chance b = 1) {n k : Nat}
include hp
theorem V_ge : m ≤ V b c n m := by
  cases n with
  | zero => exact Rat.le_refl
  | succ n => exact mx_l
theorem mx_mono {a b c d : Rat} (h1 : a ≤ c) (h2 : b ≤ d) : mx a b ≤ mx c d := mx_le (Rat.le_trans h1 mx_l) (Rat.le_trans h2 mx_r)
theorem V_mono (h : x ≤ y) : V b c n x ≤ V b c n y := by
  induction n generalizing x y with
  | zero => exact h
  | succ n ih =>
    refine mx_mono hp h ?_
    have := mean_mono (b := b) (f := fun w => V b c n (mx x w)) (g := fun w => V b c n (mx y w)) hp fun q _ => ih (mx_mono hp h Rat.le_refl)
    grind
theorem V_step : V b c n m ≤ V b c (n + 1) m := by
  induction n generalizing m with
  | zero => exact mx_l
  | succ n ih =>
    refine mx_mono hp Rat.le_refl ?_
    have := mean_mono (b := b) (f := fun w => V b c n (mx m w)) (g := fun w => V b c (n + 1) (mx m w)) hp fun q _ => ih
    grind
theorem V_le (h : n ≤ k) : V b c n m ≤ V b c k m := by
  induction h with
  | refl => exact Rat.le_refl
  | step _ ih => exact Rat.le_trans ih (V_step hp)
theorem N_le : N b c m n ≤ V b c n m := by
  induction n with
  | zero => exact Rat.le_refl
  | succ n ih =>
    refine mx_mono hp Rat.le_refl ?_
    have := mean_mono (b := b) (f := fun w => mx (N b c m n) w) (g := fun w => V b c n (mx m w)) hp fun q _ => mx_le (Rat.le_trans ih (V_mono hp mx_l)) (Rat.le_trans mx_r (V_ge hp))
    grind
include h1
theorem V_above (hx : gain b c x = 0) (h : x ≤ m) : V b c n m = m := by
  induction n generalizing m with
  | zero => rfl
  | succ n ih =>
    have e : mean (fun w => V b c n (mx m w)) b = mean (fun w => mx m w) b := mean_congr fun q _ => ih (Rat.le_trans h mx_l)
    have g := gain_anti (c := c) hp h1 h
    show mx m (mean (fun w => V b c n (mx m w)) b - c) = m
    rw [e]
    refine mx_of_ge ?_
    have : gain b c m = mean (fun w => mx m w) b - c - m := rfl
    grind
theorem V_below (hx : gain b c x = 0) (h : m ≤ x) : V b c (n + 1) m = mean (fun w => V b c n (mx m w)) b - c := by
  refine mx_of_le ?_
  have g := gain_anti (c := c) hp h1 h
  have e := mean_mono (b := b) (f := fun w => mx m w) (g := fun w => V b c n (mx m w)) hp fun q _ => V_ge hp
  have : gain b c m = mean (fun w => mx m w) b - c - m := rfl
  grind
theorem B_eq (hx : gain b c x = 0) : B b c x n m = V b c n m := by
  induction n generalizing m with
  | zero => rfl
  | succ n ih =>
    show (if x < m then m else mean (fun w => B b c x n (mx m w)) b - c) = _
    by_cases h : x < m
    · rw [if_pos h, V_above hp h1 hx (Rat.le_of_lt h)]
    · rw [if_neg h, V_below hp h1 hx (by grind)]
      rw [mean_congr (f := fun w => B b c x n (mx m w)) (g := fun w => V b c n (mx m w)) fun q _ => ih]
theorem V_top (hx : gain b c x = 0) : V b c n m ≤ mx m x := by
  by_cases h : x ≤ m
  · rw [V_above hp h1 hx h]
    exact mx_l
  · have := V_mono (c := c) (n := n) hp (show m ≤ x by grind)
    rw [V_above (m := x) hp h1 hx Rat.le_refl] at this
    exact Rat.le_trans this mx_r
end
/-! ### the bar, by the rows from the top -/
section
variable {b : List (Rat × Rat)} {c : Rat}
/-- the quotient of the rows from k on -/
def L (b : List (Rat × Rat)) (c : Rat) (k : Nat) : Rat := (mean (fun w => w) (b.drop k) - c) / chance (b.drop k)
/-- the worths ascend -/
def Up (b : List (Rat × Rat)) : Prop := ∀ i q r, b[i]? = some q → b[i + 1]? = some r → q.1 < r.1
theorem Up.lt (h : Up b) {i j : Nat} {q r : Rat × Rat} (hi : b[i]? = some q) (hj : b[j]? = some r) (hij : i < j) : q.1 < r.1 := by
  induction j generalizing r with
  | zero => omega
  | succ j ih =>
    have lj : j + 1 < b.length := (List.getElem?_eq_some_iff.mp hj).1
    have e : b[j]? = some b[j] := List.getElem?_eq_getElem (by omega)
    have s := h j _ _ e hj
    rcases Nat.lt_or_ge i j with z | z
    · have := ih e z
      grind
    · obtain rfl : i = j := by omega
      rw [hi] at e
      cases e
      exact s
theorem mul_L (hp : ∀ q ∈ b, 0 < q.2) {k : Nat} (hk : k < b.length) : L b c k * chance (b.drop k) = mean (fun w => w) (b.drop k) - c := by
  have : 0 < chance (b.drop k) := chance_pos (fun q hq => hp q (List.mem_of_mem_drop hq)) (by intro z; rw [List.drop_eq_nil_iff] at z; omega)
  unfold L
  have : chance (b.drop k) ≠ 0 := by grind
  rw [Rat.div_mul_cancel this]
theorem drop_at {k : Nat} {q : Rat × Rat} (h : b[k]? = some q) : b.drop k = q :: b.drop (k + 1) := by
  obtain ⟨h1, h2⟩ := List.getElem?_eq_some_iff.mp h
  rw [← h2, List.drop_eq_getElem_cons h1]
theorem chance_cons (q : Rat × Rat) (b : List (Rat × Rat)) : chance (q :: b) = q.2 + chance b := by
  unfold chance
  rw [mean]
  grind
theorem ratlt_of_mul {a b c : Rat} (hc : 0 < c) (h : a * c < b * c) : a < b := by
  refine Classical.byContradiction fun n => ?_
  have : b * c ≤ a * c := Rat.mul_le_mul_of_nonneg_right (by grind) (Rat.le_of_lt hc)
  grind
/-- the top quotient lies below the top worth -/
theorem L_top (hp : ∀ q ∈ b, 0 < q.2) (hc : 0 < c) {k : Nat} {q : Rat × Rat} (h : b[k]? = some q) (hk : k + 1 = b.length) : L b c k < q.1 := by
  have lk : k < b.length := by omega
  have e := mul_L (c := c) hp lk
  have hq : q ∈ b := List.mem_of_getElem? h
  have e2 : b.drop k = [q] := by rw [drop_at h, List.drop_eq_nil_of_le (by omega)]
  rw [e2] at e
  have e3 : chance [q] = q.2 := by rw [chance_cons]; unfold chance mean; grind
  have e4 : mean (fun w => w) [q] = q.2 * q.1 := by unfold mean mean; grind
  rw [e3, e4] at e
  refine ratlt_of_mul (hp q hq) ?_
  grind
/-- further down, where it did not end above -/
theorem L_next (hp : ∀ q ∈ b, 0 < q.2) {k : Nat} {q : Rat × Rat} (h : b[k]? = some q) (hk : k + 1 < b.length) (hl : L b c (k + 1) < q.1) : L b c k < q.1 := by
  have e := mul_L (c := c) hp (k := k) (by omega)
  have e' := mul_L (c := c) hp hk
  have hq : q ∈ b := List.mem_of_getElem? h
  have p1 : 0 < chance (b.drop (k + 1)) := chance_pos (fun q hq => hp q (List.mem_of_mem_drop hq)) (by intro z; rw [List.drop_eq_nil_iff] at z; omega)
  have p2 := hp q hq
  rw [drop_at h, chance_cons] at e
  rw [mean] at e
  have l2 : L b c (k + 1) * chance (b.drop (k + 1)) < q.1 * chance (b.drop (k + 1)) := Rat.mul_lt_mul_of_pos_right hl p1
  have p3 : 0 < q.2 + chance (b.drop (k + 1)) := by grind
  refine ratlt_of_mul p3 ?_
  grind
/-- where it ends it is the bar -/
theorem L_bar (hp : ∀ q ∈ b, 0 < q.2) (h1 : chance b = 1) (up : Up b) {k : Nat} {q : Rat × Rat} (h : b[k]? = some q) (hl : L b c k < q.1) (hs : ∀ r, 0 < k → b[k - 1]? = some r → r.1 ≤ L b c k) : gain b c (L b c k) = 0 := by
  have lk : k < b.length := (List.getElem?_eq_some_iff.mp h).1
  have e := mul_L (c := c) hp lk
  have eb : b = b.take k ++ b.drop k := (List.take_append_drop k b).symm
  have m1 : mean (fun w => mx (L b c k) w - L b c k) (b.take k) = 0 := by
    have : mean (fun w => mx (L b c k) w - L b c k) (b.take k) = mean (fun _ => 0) (b.take k) := mean_congr fun r hr => by
      obtain ⟨i, hi⟩ := List.getElem?_of_mem hr
      have li : i < k := by
        have := (List.getElem?_eq_some_iff.mp hi).1
        rw [List.length_take] at this
        omega
      have hi' : b[i]? = some r := by
        rw [List.getElem?_take] at hi
        rw [if_pos li] at hi
        exact hi
      have e2 : b[k - 1]? = some b[k - 1] := List.getElem?_eq_getElem (by omega)
      have l2 := hs _ (by omega) e2
      have l3 : r.1 ≤ b[k - 1].1 := by
        rcases Nat.lt_or_ge i (k - 1) with z | z
        · exact Rat.le_of_lt (up.lt hi' e2 z)
        · obtain rfl : i = k - 1 := by omega
          rw [hi'] at e2
          cases e2
          exact Rat.le_refl
      have : mx (L b c k) r.1 = L b c k := mx_of_ge (Rat.le_trans l3 l2)
      show mx (L b c k) r.1 - L b c k = 0
      rw [this]
      grind
    rw [this]
    clear this
    induction b.take k with
    | nil => rfl
    | cons q b ih => unfold mean; rw [ih]; grind
  have m2 : mean (fun w => mx (L b c k) w - L b c k) (b.drop k) = mean (fun w => w) (b.drop k) - L b c k * chance (b.drop k) := by
    rw [← mean_sub]
    refine mean_congr fun r hr => ?_
    obtain ⟨i, hi⟩ := List.getElem?_of_mem hr
    rw [List.getElem?_drop] at hi
    have l3 : q.1 ≤ r.1 := by
      rcases Nat.eq_zero_or_pos i with z | z
      · subst z
        rw [Nat.add_zero, h] at hi
        cases hi
        exact Rat.le_refl
      · exact Rat.le_of_lt (up.lt h hi (by omega))
    show mx (L b c k) r.1 - L b c k = r.1 - L b c k
    rw [mx_of_le (by grind)]
  rw [gain_eq h1]
  have : mean (fun w => mx (L b c k) w - L b c k) b = mean (fun w => mx (L b c k) w - L b c k) (b.take k) + mean (fun w => mx (L b c k) w - L b c k) (b.drop k) := by
    rw [← mean_append, ← eb]
  rw [this, m1, m2]
  grind
/-- the quotient at which the search from the top ends, from k on -/
def barAt (b : List (Rat × Rat)) (c : Rat) : Nat → Rat
  | 0 => L b c 0
  | k + 1 => if L b c (k + 1) < (b.getD k (0, 0)).1 then barAt b c k else L b c (k + 1)
def barR (b : List (Rat × Rat)) (c : Rat) : Rat := barAt b c (b.length - 1)
theorem get_at {b : List (Rat × Rat)} {i : Nat} (h : i < b.length) : b[i]? = some (b.getD i (0, 0)) := by
  rw [List.getD_eq_getElem?_getD, List.getElem?_eq_getElem h]
  rfl
theorem barAt_gain (hp : ∀ q ∈ b, 0 < q.2) (h1 : chance b = 1) (up : Up b) : ∀ {k : Nat} {q : Rat × Rat}, b[k]? = some q → L b c k < q.1 → gain b c (barAt b c k) = 0
  | 0, q, h, hl => L_bar hp h1 up h hl fun r z => absurd z (Nat.lt_irrefl 0)
  | k + 1, q, h, hl => by
    have lk := (List.getElem?_eq_some_iff.mp h).1
    unfold barAt
    split
    · rename_i z
      exact barAt_gain hp h1 up (get_at (by omega)) (L_next hp (get_at (by omega)) lk z)
    · rename_i z
      refine L_bar hp h1 up h hl fun r _ e => ?_
      have e2 : b[k]? = some (b.getD k (0, 0)) := get_at (by omega)
      have e3 : b[k]? = some r := e
      rw [e2] at e3
      cases e3
      grind
theorem barR_gain (hp : ∀ q ∈ b, 0 < q.2) (h1 : chance b = 1) (up : Up b) (hc : 0 < c) (hl : 1 ≤ b.length) : gain b c (barR b c) = 0 :=
  barAt_gain hp h1 up (get_at (by omega)) (L_top hp hc (get_at (by omega)) (by omega))
end
end K35M
/-! the steps over data that need no thought -/
local macro_rules | `(tactic| walk_at "gd") => `(tactic| repeat (first
  | ((with_reducible refine' WkD.w_var ?hv ?hn ?_); (case hv => exact rfl); (case hn => exact (fun z => nomatch z)))
  | with_reducible refine WkD.w_int ?_ | with_reducible refine WkD.w_str ?_ | with_reducible refine WkD.w_non ?_ | with_reducible refine WkD.w_bl ?_
  | with_reducible refine WkD.w_chain ?_ | with_reducible refine WkD.w_tyc ?_ | ((with_reducible refine' WkD.c_isi ?hu ?_); (case hu => decide))
  | with_reducible refine WkD.w_op ?_ | with_reducible refine WkD.w_un ?_ | with_reducible refine WkD.w_nil ?_ | with_reducible refine WkD.w_cons ?_ | ((with_reducible refine' WkD.w_isi2 ?ha ?hb ?_); (case ha => decide); (case hb => decide)) | with_reducible refine WkD.w_CB ?_ | with_reducible refine WkD.w_call ?_
  | with_reducible refine WkD.w_if ?_ | with_reducible refine WkD.w_andV ?_ | with_reducible refine WkD.w_orV ?_ | with_reducible refine WkD.w_notV ?_ | with_reducible refine WkD.w_test ?_ | with_reducible refine WkD.w_tB ?_ | with_reducible refine WkD.w_not ?_
  | with_reducible refine WkD.w_and ?_ | with_reducible refine WkD.w_or ?_ | with_reducible refine WkD.w_yes ?_ | with_reducible refine WkD.w_next ?_ | with_reducible refine WkD.w_seq ?_ | with_reducible refine WkD.w_ret ?_ | with_reducible refine WkD.w_retN ?_
  | with_reducible refine WkD.w_drop ?_ | with_reducible refine WkD.w_ifS ?_ | with_reducible refine WkD.w_asg ?_ | with_reducible refine WkD.w_sl ?_ | with_reducible refine WkD.w_po0 ?_ | with_reducible refine WkD.w_po1 ?_ | with_reducible refine WkD.e_si ?_ | with_reducible refine WkD.l_A ?_ | with_reducible refine WkD.l_L ?_ | with_reducible refine WkD.w_cont ?_ | with_reducible refine WkD.w_break ?_ | with_reducible refine WkD.w_gt2 ?_ | with_reducible refine WkD.w_gt3 ?_ | with_reducible refine WkD.w_gcons ?_ | with_reducible refine WkD.w_gnil ?_ | with_reducible refine WkD.w_name ?_ | with_reducible refine WkD.w_par ?_
  | with_reducible refine WkD.r_I0i ?_ | with_reducible refine WkD.r_I0b ?_ | with_reducible refine WkD.u_U ?_ | with_reducible refine WkD.r_eqI ?_ | with_reducible refine WkD.r_neI ?_ | with_reducible refine WkD.r_eqS ?_ | with_reducible refine WkD.r_eqB ?_
  | ((with_reducible refine' WkD.r_ix ?hi ?_); (case hi => exact rfl)) | ((with_reducible refine' WkD.r_ixl ?hi ?_); (case hi => exact rfl))
  | ((with_reducible refine' WkD.r_ixT ?hi ?_); (case hi => exact rfl)) | ((with_reducible refine' WkD.r_ixL ?hi ?_); (case hi => exact rfl))
  | with_reducible refine WkD.c_gcd ?_ | with_reducible refine WkD.c_abs ?_ | with_reducible refine WkD.c_int ?_ | with_reducible refine WkD.e_bool ?_ | with_reducible refine WkD.w_tup ?_ | with_reducible refine WkD.w_lst ?_ | with_reducible refine WkD.e_ab ?_ | with_reducible refine WkD.d0 ?_ | with_reducible refine WkD.d1 ?_ | with_reducible refine WkD.d2 ?_ | with_reducible refine WkD.d3 ?_ | with_reducible refine WkD.d4 ?_))

namespace K35
open PySem PySem.Spec PyProof.Rows L2 WkH WkE WkQ WkS WkF WkD
section
variable {P : Program} {w : World} {K : PySem.W.Frag} {mg : Str → Option Value} {base : Heap}
abbrev rowD (q : Rat × Rat) : PyData := .tuple [frD q.1, frD q.2]
abbrev boxD (b : List (Rat × Rat)) : PyData := .tuple (b.map rowD)
def posD : PyData → Bool
  | .tuple [.int a, _] => decide (0 < a)
  | _ => false
def isRow : PyData → Bool
  | .tuple [x, y] => isFr x && isFr y && posD y
  | _ => false
theorem pos_num (r : Rat) : 0 < r ↔ 0 < r.num := by
  rw [lt_cross]
  show (0 : Int) * (r.den : Int) < r.num * 1 ↔ _
  omega
abbrev z4 : Bits 4000 0 := ⟨by decide +kernel, by decide +kernel⟩
theorem posD_fr (r : Rat) : posD (frD r) = decide (0 < r) := by
  show decide (0 < r.num) = decide (0 < r)
  exact decide_eq_decide.mpr (pos_num r).symm
theorem isRow_ex {d : PyData} (h : isRow d = true) : ∃ q, d = rowD q ∧ 0 < q.2 := by
  unfold isRow at h
  split at h
  · rename_i x y
    simp only [Bool.and_eq_true] at h
    obtain ⟨⟨h1, h2⟩, h3⟩ := h
    obtain ⟨r, rfl⟩ := isFr_ex h1
    obtain ⟨s, rfl⟩ := isFr_ex h2
    rw [posD_fr] at h3
    exact ⟨(r, s), rfl, of_decide_eq_true h3⟩
  · cases h
theorem isRow_of {q : Rat × Rat} (h : 0 < q.2) : isRow (rowD q) = true := by
  show (isFr (frD q.1) && isFr (frD q.2) && posD (frD q.2)) = true
  rw [isFr_frD, isFr_frD, posD_fr, decide_eq_true h]
  rfl
abbrev spBoxRow : Sp := spF K one1 (fun d => small d = true) fun d => .bool (isRow d)
theorem sc_is_box_row : FnScope ["value"] ["value"] d_is_box_row.sco := ⟨rfl, rfl, rfl, by decide +kernel, rfl, by decide +kernel, by decide +kernel⟩
theorem ok_is_box_row {fd : FuncData} (F : Stands K d_is_box_row fd) (T : Bg K mg) (Ft : Fn P w K mg base CX0 1 "is_tuple" ["value", "many"] (spTuple (K := K))) (Ff : Fn P w K mg base CX0 2 "is_fraction" ["value"] (spFraction (K := K)))
    (Fb : Fn P w K mg base CX0 1 "is_below" ["one", "other"] (spBelow (K := K))) : FnOk P w K mg base CX0 3 d_is_box_row.adr fd ["value"] (spBoxRow (K := K)) := by
  refine FunD.ok F sc_is_box_row (fun vs H Q E h => len_F h fun _ => rfl) (fun cdv A outer s H vs Q E hr h => ⟨_, PSs.nox (pss_cons (ps_if (PW.pt (pw_or (pt_not (pt_val (pe_fn Ft hr rfl (pa_cons (pv 0) (pa_cons pe_int pa_nil))))) (pw_or (pt_not (pt_val (pe_fn Ff hr rfl (pa_cons (pe_ix ix_seq (pv 0) pe_int (fun _ _ => rfl)) pa_nil)))) (pw_or1 (pt_not (pt_val (pe_fn Ff hr rfl (pa_cons (pe_ix ix_seq (pv 0) pe_int (fun _ _ => rfl)) pa_nil)))))))) (pss_one (ps_ret pe_bl)) pss_nil)
  (pss_one (ps_ret (pe_fn Fb hr rfl (pa_cons (pe_glob (v := .ref 153) rfl T.ZERO rfl) (pa_cons (pe_ix ix_seq (pv 0) pe_int (fun _ _ => rfl)) pa_nil)))))), ?_⟩)
  refine body_F h fun F n d hp => ?_
  have hp : small d = true := hp
  try dsimp only [cxOf, Cx.nox, Cx.wish, one1]
  walk_at "gd"
  refine c_fn (enc := oneI) (d, 2) trivial ?_
  walk_at "gd"
  refine ⟨fun h => ?_, fun h => ?_⟩
  · refine ⟨fun _ => ?_, fun z => nomatch z⟩
    walk_at "gd"
    refine ⟨rfl, ?_⟩
    have h' : isTup d 2 = false := by simpa using h
    cases e : isRow d with
    | false => rfl
    | true =>
      obtain ⟨q, rfl, _⟩ := isRow_ex e
      simp [isTup] at h'
  · have h' : isTup d 2 = true := by simpa using h
    obtain ⟨x, y, rfl⟩ := tup_two h'
    walk_at "gd"
    refine c_fn (enc := one1) x trivial ?_
    walk_at "gd"
    refine ⟨fun h1 => ⟨fun _ => ?_, fun z => nomatch z⟩, fun h1 => ?_⟩
    · walk_at "gd"
      have h1 : isFr x = false := by simpa using h1
      exact ⟨rfl, by rw [isRow, h1]; rfl⟩
    have h1 : isFr x = true := by simpa using h1
    walk_at "gd"
    refine c_fn (enc := one1) y trivial ?_
    walk_at "gd"
    refine ⟨fun h2 => ?_, fun h2 => ?_⟩
    · walk_at "gd"
      have h2 : isFr y = false := by simpa using h2
      exact ⟨rfl, by rw [isRow, h2, Bool.and_false]; rfl⟩
    have h2 : isFr y = true := by simpa using h2
    obtain ⟨r, rfl⟩ := isFr_ex h2
    walk_at "gd"
    refine w_con T.zero ?_
    walk_at "gd"
    have hs : Bits 100 r := by
      have : small x = true ∧ small (frD r) = true := by simpa [small, smalls] using hp
      exact small_fr this.2
    refine c_fn (enc := twoR) (0, r) ⟨z4, hs.mono (by decide)⟩ ?_
    refine ⟨rfl, ?_⟩
    rw [isRow, h1, h2, posD_fr]
    rfl
/-- a box: one to 32 rows, their chances above 0 and 1 together, their worths ascending -/
structure IsBox (b : List (Rat × Rat)) : Prop where
  l1 : 1 ≤ b.length
  l2 : b.length ≤ 32
  pos : ∀ q ∈ b, 0 < q.2
  up : K35M.Up b
  one : K35M.chance b = 1
open Classical in
noncomputable def isBox (d : PyData) : Bool := decide (∃ b, d = boxD b ∧ IsBox b)
open Classical in
theorem isBox_of {b : List (Rat × Rat)} (h : IsBox b) : isBox (boxD b) = true := by
  unfold isBox
  exact decide_eq_true ⟨b, rfl, h⟩
theorem rowD_inj {p q : Rat × Rat} (h : rowD p = rowD q) : p = q := by
  injection h with h
  injection h with h1 h
  injection h with h2 _
  exact Prod.ext (frD_inj h1) (frD_inj h2)
theorem boxD_inj {b c : List (Rat × Rat)} (h : boxD b = boxD c) : b = c := by
  injection h with h
  exact (List.map_inj_right fun _ _ e => rowD_inj e).mp h
open Classical in
theorem isBox_no {d : PyData} (h : ∀ b, d = boxD b → IsBox b → False) : isBox d = false := by
  unfold isBox
  exact decide_eq_false fun ⟨b, e, z⟩ => h b e z
open Classical in
theorem isBox_ex {d : PyData} (h : isBox d = true) : ∃ b, d = boxD b ∧ IsBox b := by
  unfold isBox at h
  exact of_decide_eq_true h
theorem rows_ex : ∀ {ds : List PyData}, (ds.map isRow).all id = true → ∃ b : List (Rat × Rat), ds = b.map rowD ∧ ∀ q ∈ b, 0 < q.2
  | [], _ => ⟨[], rfl, fun _ h => nomatch h⟩
  | d :: ds, h => by
    have h' : isRow d = true ∧ (ds.map isRow).all id = true := by simpa using h
    obtain ⟨q, rfl, hq⟩ := isRow_ex h'.1
    obtain ⟨b, rfl, hb⟩ := rows_ex h'.2
    refine ⟨q :: b, rfl, fun r hr => ?_⟩
    rcases List.mem_cons.mp hr with rfl | hr
    · exact hq
    · exact hb r hr
/-- sums from the left are means -/
theorem foldl_mean {α : Type} (f : Rat × Rat → Rat) (g : Rat → Rat) (h : ∀ q, f q = q.2 * g q.1) : ∀ (b : List (Rat × Rat)) (x : Rat), (b.map f).foldl (· + ·) x = x + K35M.mean g b
  | [], x => by
    rw [K35M.mean_nil]
    show x = x + 0
    grind
  | q :: b, x => by
    rw [List.map_cons, List.foldl_cons, foldl_mean (α := α) f g h b, K35M.mean_cons, h]
    grind
theorem sum_mean (f : Rat × Rat → Rat) (g : Rat → Rat) (h : ∀ q, f q = q.2 * g q.1) (b : List (Rat × Rat)) : sumR (b.map f) = K35M.mean g b := by
  unfold sumR
  rw [foldl_mean (α := Unit) f g h b 0]
  grind
theorem sum_chance (b : List (Rat × Rat)) : sumR (b.map (·.2)) = K35M.chance b := sum_mean (·.2) (fun _ => 1) (fun q => by grind) b
theorem sum_pre {rs : List Rat} {c : Nat} (h : ∀ r ∈ rs, Bits c r) (hl : rs.length * (c + 1) + 1 ≤ 4000) (hc : c ≤ 4000) : (∀ r ∈ rs, Bits 4000 r) ∧ ∀ k, Bits 4000 (sumR (rs.take k)) := by
  refine ⟨fun r hr => (h r hr).mono hc, fun k => ?_⟩
  have b0 : Bits 1 0 := ⟨by decide +kernel, by decide +kernel⟩
  have := Bits.fold (rs := rs.take k) b0 fun r hr => h r (List.mem_of_mem_take hr)
  refine this.mono ?_
  have l : (rs.take k).length ≤ rs.length := by rw [List.length_take]; omega
  have : (rs.take k).length * (c + 1) ≤ rs.length * (c + 1) := Nat.mul_le_mul_right _ l
  omega
theorem eqv_fr (r s : Rat) : PyData.eqv (frD r) (frD s) = decide (r = s) := by
  cases e : PyData.eqv (frD r) (frD s) with
  | true =>
    refine (decide_eq_true ?_).symm
    have h : r.num = s.num ∧ (r.den : Int) = (s.den : Int) := by simpa [PyData.eqv, PyData.eqvAll, frD] using e
    exact Rat.ext h.1 (by omega)
  | false =>
    refine (decide_eq_false fun z => ?_).symm
    subst z
    simp [PyData.eqv, PyData.eqvAll, frD] at e
end
end K35
/-! the steps over data that need no thought -/
local macro_rules | `(tactic| walk_at "gd") => `(tactic| repeat (first
  | ((with_reducible refine' WkD.w_var ?hv ?hn ?_); (case hv => exact rfl); (case hn => exact (fun z => nomatch z)))
  | with_reducible refine WkD.w_int ?_ | with_reducible refine WkD.w_str ?_ | with_reducible refine WkD.w_non ?_ | with_reducible refine WkD.w_bl ?_
  | with_reducible refine WkD.w_chain ?_ | with_reducible refine WkD.w_tyc ?_ | ((with_reducible refine' WkD.c_isi ?hu ?_); (case hu => decide))
  | with_reducible refine WkD.w_op ?_ | with_reducible refine WkD.w_un ?_ | with_reducible refine WkD.w_nil ?_ | with_reducible refine WkD.w_cons ?_ | ((with_reducible refine' WkD.w_isi2 ?ha ?hb ?_); (case ha => decide); (case hb => decide)) | with_reducible refine WkD.w_CB ?_ | with_reducible refine WkD.w_call ?_
  | with_reducible refine WkD.w_if ?_ | with_reducible refine WkD.w_andV ?_ | with_reducible refine WkD.w_orV ?_ | with_reducible refine WkD.w_notV ?_ | with_reducible refine WkD.w_test ?_ | with_reducible refine WkD.w_tB ?_ | with_reducible refine WkD.w_not ?_
  | with_reducible refine WkD.w_and ?_ | with_reducible refine WkD.w_or ?_ | with_reducible refine WkD.w_yes ?_ | with_reducible refine WkD.w_next ?_ | with_reducible refine WkD.w_seq ?_ | with_reducible refine WkD.w_ret ?_ | with_reducible refine WkD.w_retN ?_
  | with_reducible refine WkD.w_drop ?_ | with_reducible refine WkD.w_ifS ?_ | with_reducible refine WkD.w_asg ?_ | with_reducible refine WkD.w_sl ?_ | with_reducible refine WkD.w_po0 ?_ | with_reducible refine WkD.w_po1 ?_ | with_reducible refine WkD.e_si ?_ | with_reducible refine WkD.l_A ?_ | with_reducible refine WkD.l_L ?_ | with_reducible refine WkD.w_cont ?_ | with_reducible refine WkD.w_break ?_ | with_reducible refine WkD.w_gt2 ?_ | with_reducible refine WkD.w_gt3 ?_ | with_reducible refine WkD.w_gcons ?_ | with_reducible refine WkD.w_gnil ?_ | with_reducible refine WkD.w_name ?_ | with_reducible refine WkD.w_par ?_
  | with_reducible refine WkD.r_I0i ?_ | with_reducible refine WkD.r_I0b ?_ | with_reducible refine WkD.u_U ?_ | with_reducible refine WkD.r_eqI ?_ | with_reducible refine WkD.r_neI ?_ | with_reducible refine WkD.r_eqS ?_ | with_reducible refine WkD.r_eqB ?_
  | ((with_reducible refine' WkD.r_ix ?hi ?_); (case hi => exact rfl)) | ((with_reducible refine' WkD.r_ixl ?hi ?_); (case hi => exact rfl))
  | ((with_reducible refine' WkD.r_ixT ?hi ?_); (case hi => exact rfl)) | ((with_reducible refine' WkD.r_ixL ?hi ?_); (case hi => exact rfl))
  | with_reducible refine WkD.c_gcd ?_ | with_reducible refine WkD.c_abs ?_ | with_reducible refine WkD.c_int ?_ | with_reducible refine WkD.e_bool ?_ | with_reducible refine WkD.w_tup ?_ | with_reducible refine WkD.w_lst ?_ | with_reducible refine WkD.e_ab ?_ | with_reducible refine WkD.d0 ?_ | with_reducible refine WkD.d1 ?_ | with_reducible refine WkD.d2 ?_ | with_reducible refine WkD.d3 ?_ | with_reducible refine WkD.d4 ?_))

namespace K35
open PySem PySem.Spec PyProof.Rows L2 WkH WkE WkQ WkS WkF WkD
section
variable {P : Program} {w : World} {K : PySem.W.Frag} {mg : Str → Option Value} {base : Heap}
theorem made_id {S : Type} {F : Eff S} {ρ : List Sl} {n : S} {Φ : Sl → S → Prop} {te : TE} {ds : List PyData} {out : PyData → PyData} {g : TG} {vs : List Nat}
    (h : ∀ (D : Addr) (ys : List V) (i : Nat) (x : PyData), ds[i]? = some x → wG (F.hide D ys) K g (.dat x) (wipeR ρ vs) n fun ρ2 k => wE (F.hide D ys) K te ρ2 k fun r k3 => r = .dat (out x) ∧ k3 = n)
    (q : Φ (.dat (.list (ds.map out))) n) : Made F K ds g tYes te vs ρ n Φ := by
  have := made_map (xs := ds) (enc := fun d => d) h q
  rwa [List.map_id'] at this
def ltAt (b : List (Rat × Rat)) (i : Nat) : Bool := decide ((b.getD i (0, 0)).1 < (b.getD (i + 1) (0, 0)).1)
theorem get_at {b : List (Rat × Rat)} {i : Nat} (h : i < b.length) : b[i]? = some (b.getD i (0, 0)) := by
  rw [List.getD_eq_getElem?_getD, List.getElem?_eq_getElem h]
  rfl
theorem up_iff (b : List (Rat × Rat)) : (((List.range (b.length - 1)).map (ltAt b)).all id = true) ↔ K35M.Up b := by
  rw [List.all_map, List.all_eq_true]
  constructor
  · intro h i q r hi hj
    have lj := (List.getElem?_eq_some_iff.mp hj).1
    have z := h i (List.mem_range.mpr (by omega))
    have e1 := get_at (b := b) (i := i) (by omega)
    have e2 := get_at (b := b) (i := i + 1) lj
    rw [hi] at e1
    rw [hj] at e2
    have z' : (b.getD i (0, 0)).1 < (b.getD (i + 1) (0, 0)).1 := of_decide_eq_true z
    rw [← Option.some.inj e1, ← Option.some.inj e2] at z'
    exact z'
  · intro h i hi
    have li := List.mem_range.mp hi
    exact decide_eq_true (h i _ _ (get_at (by omega)) (get_at (by omega)))
theorem small_rows {b : List (Rat × Rat)} (h : small (boxD b) = true) : ∀ q ∈ b, Bits 100 q.1 ∧ Bits 100 q.2 := fun q hq => by
  have h1 : smalls (b.map rowD) = true := by simpa [small] using h
  have h2 : small (rowD q) = true := smalls_mem h1 (List.mem_map_of_mem hq)
  have h3 : small (frD q.1) = true ∧ small (frD q.2) = true := by
    have : smalls [frD q.1, frD q.2] = true := by
      rw [small] at h2
      exact h2
    exact ⟨smalls_mem this (by simp), smalls_mem this (by simp)⟩
  exact ⟨small_fr h3.1, small_fr h3.2⟩
abbrev spBox : Sp := spF K one1 (fun d => small d = true) fun d => .bool (isBox d)
theorem sc_is_box : FnScope ["value", "row", "at", "worth", "chance"] ["value"] d_is_box.sco := ⟨rfl, rfl, rfl, by decide +kernel, rfl, by decide +kernel, by decide +kernel⟩
theorem ok_is_box {fd : FuncData} (F : Stands K d_is_box fd) (T : Bg K mg) (T2 : Bn mg) (Fw : Fn P w K mg base CX0 3 "is_box_row" ["value"] (spBoxRow (K := K))) (Fs : Fn P w K mg base CX0 3 "sum_of" ["fractions"] (spSum (K := K)))
    (Fb : Fn P w K mg base CX0 1 "is_below" ["one", "other"] (spBelow (K := K))) : FnOk P w K mg base CX0 4 d_is_box.adr fd ["value"] (spBox (K := K)) := by
  refine FunD.ok F sc_is_box (fun vs H Q E h => len_F h fun _ => rfl) (fun cdv A outer s H vs Q E hr h => ⟨_, PSs.nox (pss_cons (ps_if (PW.pt (pw_or (pt_not (pt_val (pe_callB call_isi rfl T.isinstance WkB.b_isinstance (pa_cons (pv 0) (pa_cons (pe_bltn (v := .ty "tuple") rfl T.tuple WkB.b_tuple rfl) pa_nil))))) (pw_or1 (pt_not (pt_chain op_le op_le pe_int (pe_callB call_len_seq rfl T.len WkB.b_len (pa_cons (pv 0) pa_nil)) (pe_globI rfl T2.MOST_WORTHS)))))) (pss_one (ps_ret pe_bl)) pss_nil)
  (pss_cons (ps_if (pt_not (pt_val (pe_callB (cr_all rfl) rfl T.all WkB.b_all (pa_cons (pe_lc (own := [("row", 1)]) (g := (gName 1)) rfl sc_is_box.nd (pi_tup (pv 0)) (blkOk_by (own := [("row", 1)]) (N := ["value", "row", "at", "worth", "chance"]) (sc := d_is_box.sco) (by decide +kernel)) (fun _ _ _ _ _ => (pg_name (i := 1) sc_is_box.nd rfl (by first | exact Or.inl rfl | exact Or.inr rfl))) (fun _ _ _ _ _ => pts_nil) (fun _ _ _ _ _ => (pe_fn Fw hr rfl (pa_cons (pv 1) pa_nil)))) pa_nil)))) (pss_one (ps_ret pe_bl)) pss_nil)
  (pss_cons (ps_if (pt_not (pt_val (pe_callB (cr_all rfl) rfl T.all WkB.b_all (pa_cons (pe_lc (own := [("at", 2)]) (g := (gName 2)) rfl sc_is_box.nd (pi_range1 rfl T.range (pa_cons (pe_op op_sub (pe_callB call_len_seq rfl T.len WkB.b_len (pa_cons (pv 0) pa_nil)) pe_int) pa_nil)) (blkOk_by (own := [("at", 2)]) (N := ["value", "row", "at", "worth", "chance"]) (sc := d_is_box.sco) (by decide +kernel)) (fun _ _ _ _ _ => (pg_name (i := 2) sc_is_box.nd rfl (by first | exact Or.inl rfl | exact Or.inr rfl))) (fun _ _ _ _ _ => pts_nil) (fun _ _ _ _ _ => (pe_fn Fb hr rfl (pa_cons (pe_ix (show IxR _ (rIx K) from ix_seq) (pe_ix (show IxR _ (rIx K) from ix_seq) (pv 0) (pv 2) (fun _ _ => rfl)) pe_int (fun _ _ => rfl)) (pa_cons (pe_ix (show IxR _ (rIx K) from ix_seq) (pe_ix (show IxR _ (rIx K) from ix_seq) (pv 0) (pe_op op_add (pv 2) pe_int) (fun _ _ => rfl)) pe_int (fun _ _ => rfl)) pa_nil))))) pa_nil)))) (pss_one (ps_ret pe_bl)) pss_nil)
  (pss_one (ps_ret (pe_cmpR (op_eqD (by have := hr.un; dsimp only [cxOf, Cx.nox]; omega)) (pe_fn Fs hr rfl (pa_cons (pe_lc (own := [("worth", 3), ("chance", 4)]) (g := (gTup K 2 (gCons (gName 3) (gCons (gName 4) gNil)))) rfl sc_is_box.nd (pi_tup (pv 0)) (blkOk_by (own := [("worth", 3), ("chance", 4)]) (N := ["value", "row", "at", "worth", "chance"]) (sc := d_is_box.sco) (by decide +kernel)) (fun _ _ _ _ _ => (pg_tup rfl (pgs_cons (pg_name (i := 3) sc_is_box.nd rfl (by first | exact Or.inl rfl | exact Or.inr rfl)) (pgs_cons (pg_name (i := 4) sc_is_box.nd rfl (by first | exact Or.inl rfl | exact Or.inr rfl)) pgs_nil)))) (fun _ _ _ _ _ => pts_nil) (fun _ _ _ _ _ => (pv 4))) pa_nil)) (pe_glob (v := .ref 154) rfl T.ONE rfl) (nomark _))))))), ?_⟩)
  refine body_F h fun F n d hp => ?_
  have hp : small d = true := hp
  try dsimp only [cxOf, Cx.nox, Cx.wish, one1]
  walk_at "gd"
  refine ⟨fun h => ⟨fun _ => ?_, fun z => nomatch z⟩, fun h => ?_⟩
  · walk_at "gd"
    refine ⟨rfl, ?_⟩
    rw [isBox_no fun b e _ => ?_]
    subst e
    simp [isA, tyName] at h
  have hT : ∃ ds, d = .tuple ds := by
    cases d <;> first | exact ⟨_, rfl⟩ | simp [isA, tyName] at h
  obtain ⟨ds, rfl⟩ := hT
  walk_at "gd"
  refine c_len (.inr rfl) ?_
  walk_at "gd"
  refine ⟨fun h1 => ?_, fun h1 => ?_⟩
  rotate_left
  · walk_at "gd"
    refine ⟨fun _ => ?_, fun z => nomatch z⟩
    walk_at "gd"
    refine ⟨rfl, ?_⟩
    rw [isBox_no fun b e z => ?_]
    injection e with e
    subst e
    have := z.l1
    have := of_decide_eq_false h1
    rw [List.length_map] at this
    omega
  walk_at "gd"
  refine ⟨fun h2 => ?_, fun h2 => ?_⟩
  · walk_at "gd"
    refine ⟨rfl, ?_⟩
    rw [isBox_no fun b e z => ?_]
    injection e with e
    subst e
    have := z.l2
    have : ¬ ((b.map rowD).length : Int) ≤ 32 := by simpa using h2
    rw [List.length_map] at this
    omega
  have l1 : 1 ≤ ds.length := by
    have := of_decide_eq_true h1
    omega
  have l2 : ds.length ≤ 32 := by
    have : (ds.length : Int) ≤ 32 := by simpa using h2
    omega
  have hsm : smalls ds = true := by simpa [small] using hp
  walk_at "gd"
  refine w_lcT ?_ (sets_name (by decide))
  walk_at "gd"
  refine ⟨ds, rfl, by omega, made_id (out := fun d => .bool (isRow d)) (fun D ys i z hz => ?_) ?_⟩
  · walk_at "gd"
    refine c_fn (enc := one1) z (smalls_mem hsm (List.mem_of_getElem? hz)) ?_
    exact ⟨rfl, rfl⟩
  walk_at "gd"
  refine c_allE (bs := ds.map isRow) (by rw [List.map_map]; rfl) ?_
  walk_at "gd"
  refine ⟨fun h3 => ?_, fun h3 => ?_⟩
  · walk_at "gd"
    refine ⟨rfl, ?_⟩
    rw [isBox_no fun b e z => ?_]
    injection e with e
    subst e
    have h3' : ((b.map rowD).map isRow).all id = false := by simpa using h3
    have : ((b.map rowD).map isRow).all id = true := by
      rw [List.map_map, List.all_map, List.all_eq_true]
      intro q hq
      exact isRow_of (z.pos q hq)
    rw [this] at h3'
    cases h3'
  have h3' : (ds.map isRow).all id = true := by simpa using h3
  obtain ⟨b, rfl, hpos⟩ := rows_ex h3'
  rw [List.length_map] at l1 l2
  have hb := small_rows hp
  walk_at "gd"
  refine w_lcR1 ?_ (sets_name (by decide))
  walk_at "gd"
  refine c_len (.inr rfl) ?_
  walk_at "gd"
  have ek : (((b.map rowD).length : Int) - 1).toNat = b.length - 1 := by
    rw [List.length_map]
    omega
  have lk : ((b.map rowD).length : Int) = (b.length : Int) := by rw [List.length_map]
  refine ⟨_, rfl, by omega, by omega, by omega, ?_⟩
  rw [ek]
  refine made_range (out := fun i => .bool (ltAt b i)) (fun D ys i hi => ?_) ?_
  · rw [Int.zero_add]
    have e1 := get_at (b := b) (i := i) (by omega)
    have e2 := get_at (b := b) (i := i + 1) (by omega)
    walk_at "gd"
    refine r_ix (d := rowD (b.getD i (0, 0))) (atI_map e1) ?_
    walk_at "gd"
    refine r_ix (d := rowD (b.getD (i + 1) (0, 0))) (atI_map (i := i + 1) e2) ?_
    walk_at "gd"
    refine c_fn (enc := twoR) ((b.getD i (0, 0)).1, (b.getD (i + 1) (0, 0)).1) ⟨(hb _ (List.mem_of_getElem? e1)).1.mono (by decide), (hb _ (List.mem_of_getElem? e2)).1.mono (by decide)⟩ ?_
    exact ⟨rfl, rfl⟩
  walk_at "gd"
  refine c_allE (bs := (List.range (b.length - 1)).map (ltAt b)) (by rw [List.map_map]; rfl) ?_
  walk_at "gd"
  refine ⟨fun h4 => ?_, fun h4 => ?_⟩
  · walk_at "gd"
    refine ⟨rfl, ?_⟩
    rw [isBox_no fun c e z => ?_]
    cases boxD_inj e
    have h4' : ¬ (((List.range (b.length - 1)).map (ltAt b)).all id = true) := by simpa using h4
    exact h4' ((up_iff b).mpr z.up)
  have h4' : (((List.range (b.length - 1)).map (ltAt b)).all id = true) := by simpa using h4
  walk_at "gd"
  refine w_lcT ?_ (sets_two (by decide) (by decide))
  walk_at "gd"
  refine ⟨_, rfl, by rw [List.length_map]; omega, made_map (xs := b) (enc := rowD) (out := fun q => frD q.2) (fun D ys i q hq => ?_) ?_⟩
  · walk_at "gd"
    exact ⟨rfl, rfl⟩
  walk_at "gd"
  refine c_fnE (enc := listR) (b.map (·.2)) (by rw [listR, List.map_map]; rfl) (sum_pre (c := 100) (fun r hr => ?_) ?_ (by decide)) ?_
  · obtain ⟨q, hq, rfl⟩ := List.mem_map.mp hr
    exact (hb q hq).2
  · rw [List.length_map]
    omega
  walk_at "gd"
  refine w_con T.one ?_
  refine r_eqD rfl rfl rfl rfl ?_
  refine ⟨rfl, ?_⟩
  have e : PyData.eqv (frD (sumR (b.map (·.2)))) (.tuple [.int 1, .int 1]) = decide (K35M.chance b = 1) := by
    rw [← sum_chance]
    exact eqv_fr _ 1
  rw [e]
  cases h5 : decide (K35M.chance b = 1) with
  | true => rw [isBox_of ⟨l1, l2, hpos, (up_iff b).mp h4', of_decide_eq_true h5⟩]
  | false =>
    rw [isBox_no fun c e z => ?_]
    cases boxD_inj e
    exact of_decide_eq_false h5 z.one
end
end K35
namespace WkD
open PySem PySem.Spec PyProof.Rows L2 WkH WkQ WkS WkF
/-- a def that comes to the data out a, or raises C with the k-th argument, the very one -/
def spX (K : PySem.W.Frag) {α : Type} (enc : α → List PyData) (pre : α → Prop) (out : α → PyData) (bad : α → Option (Addr × Nat)) : Sp := fun vs H Q E => ∃ (S : Type) (F : Eff S) (n : S) (a : α), F.J n H ∧ DqAll K (F.st H) vs (enc a) ∧ pre a ∧
  (bad a = none → ∀ v H', F.J n H' → Same (F.st H) (F.st H') → Dq K (F.st H') v (out a) → Q v H') ∧
  ∀ C k, bad a = some (C, k) → ∀ d v H', F.J n H' → Same (F.st H) (F.st H') → vs[k]? = some v → F.st H' d = some (.xd [("given", v)]) → E (.ref C) (some d) H'
theorem len_X {K : PySem.W.Frag} {α : Type} {enc : α → List PyData} {pre : α → Prop} {out : α → PyData} {bad : α → Option (Addr × Nat)} {vs : List V} {H : Hp} {Q : VK} {E : XK} {k : Nat} (h : spX K enc pre out bad vs H Q E) (hk : ∀ a, (enc a).length = k) : vs.length = k := by
  obtain ⟨_, F, n, a, _, dq, _, _⟩ := h
  rw [dq.length, hk]
section
variable {S : Type} {F : Eff S} {K : PySem.W.Frag} {ρ : List Sl} {n : S} {σ : L2.St} {H : Hp}
theorem use_T {c : TT} {Q : Bool → Hp → Prop} {Θ : Bool → S → Prop} (j : F.J n H) (rp : RepS K (F.st H) σ ρ) (h : wT F K c ρ n Θ) (k : ∀ b H' m, Θ b m → F.J m H' → Same (F.st H) (F.st H') → Q b H') : c σ H Q := h σ H Q j rp k
theorem use_E {t : TE} {Q : VK} {Φ : Sl → S → Prop} (j : F.J n H) (rp : RepS K (F.st H) σ ρ) (h : wE F K t ρ n Φ) (k : ∀ v H' r m, Φ r m → F.J m H' → Same (F.st H) (F.st H') → RepV K (F.st H') v r → Q v H') : t σ H Q := h σ H Q j rp k
theorem use_S {t : TS} {D : Ends} {P : Po S} (j : F.J n H) (rp : RepS K (F.st H) σ ρ) (h : wS F K t ρ n P) (M : Meets F K (F.st H) D P) : t D σ H := h σ H D j rp M
theorem dq1 {G : Hp} {vs : List V} {d : PyData} (h : DqAll K G vs [d]) : ∃ v, vs = [v] ∧ Dq K G v d := by
  cases h with
  | cons h1 h2 =>
    cases h2
    exact ⟨_, rfl, h1⟩
theorem dq2 {G : Hp} {vs : List V} {d e : PyData} (h : DqAll K G vs [d, e]) : ∃ v u, vs = [v, u] ∧ Dq K G v d ∧ Dq K G u e := by
  cases h with
  | cons h1 h2 =>
    obtain ⟨u, rfl, q⟩ := dq1 h2
    exact ⟨_, u, rfl, h1, q⟩
theorem dq3 {G : Hp} {vs : List V} {d e f : PyData} (h : DqAll K G vs [d, e, f]) : ∃ v u x, vs = [v, u, x] ∧ Dq K G v d ∧ Dq K G u e ∧ Dq K G x f := by
  cases h with
  | cons h1 h2 =>
    obtain ⟨u, x, rfl, q⟩ := dq2 h2
    exact ⟨_, u, x, rfl, h1, q⟩
theorem dq4 {G : Hp} {vs : List V} {d e f g : PyData} (h : DqAll K G vs [d, e, f, g]) : ∃ v u x y, vs = [v, u, x, y] ∧ Dq K G v d ∧ Dq K G u e ∧ Dq K G x f ∧ Dq K G y g := by
  cases h with
  | cons h1 h2 =>
    obtain ⟨u, x, y, rfl, q⟩ := dq3 h2
    exact ⟨_, u, x, y, rfl, h1, q⟩
/-- what is made in the air is in sight -/
theorem air {d : Addr} {H' : Hp} {u : HO} (j : F.J n H) (h : H d = none) (s : ∀ b o, H b = some o → H' b = some o) (e : H' d = some u) : F.J n H' ∧ Same (F.st H) (F.st H') ∧ F.st H' d = some u :=
  ⟨Eff.keep s j, Eff.mono s, by rw [Eff.st_ne (Eff.fresh j h)]; exact e⟩
end
theorem e_R1 {C : Addr} {f : Str} {t : TA} {σ : L2.St} {H : Hp} {Q : XK} (q : t σ H fun vs H1 => ∃ v, vs = [v] ∧ ∀ d H2, H1 d = none → (∀ b o, H1 b = some o → H2 b = some o) → H2 d = some (.xd [(f, v)]) → Q (.ref C) (some d) H2) : WkE.tR1 C f t σ H Q := q
end WkD
/-! the steps over data that need no thought -/
local macro_rules | `(tactic| walk_at "gd") => `(tactic| repeat (first
  | ((with_reducible refine' WkD.w_var ?hv ?hn ?_); (case hv => exact rfl); (case hn => exact (fun z => nomatch z)))
  | with_reducible refine WkD.w_int ?_ | with_reducible refine WkD.w_str ?_ | with_reducible refine WkD.w_non ?_ | with_reducible refine WkD.w_bl ?_
  | with_reducible refine WkD.w_chain ?_ | with_reducible refine WkD.w_tyc ?_ | ((with_reducible refine' WkD.c_isi ?hu ?_); (case hu => decide))
  | with_reducible refine WkD.w_op ?_ | with_reducible refine WkD.w_un ?_ | with_reducible refine WkD.w_nil ?_ | with_reducible refine WkD.w_cons ?_ | ((with_reducible refine' WkD.w_isi2 ?ha ?hb ?_); (case ha => decide); (case hb => decide)) | with_reducible refine WkD.w_CB ?_ | with_reducible refine WkD.w_call ?_
  | with_reducible refine WkD.w_if ?_ | with_reducible refine WkD.w_andV ?_ | with_reducible refine WkD.w_orV ?_ | with_reducible refine WkD.w_notV ?_ | with_reducible refine WkD.w_test ?_ | with_reducible refine WkD.w_tB ?_ | with_reducible refine WkD.w_not ?_
  | with_reducible refine WkD.w_and ?_ | with_reducible refine WkD.w_or ?_ | with_reducible refine WkD.w_yes ?_ | with_reducible refine WkD.w_next ?_ | with_reducible refine WkD.w_seq ?_ | with_reducible refine WkD.w_ret ?_ | with_reducible refine WkD.w_retN ?_
  | with_reducible refine WkD.w_drop ?_ | with_reducible refine WkD.w_ifS ?_ | with_reducible refine WkD.w_asg ?_ | with_reducible refine WkD.w_sl ?_ | with_reducible refine WkD.w_po0 ?_ | with_reducible refine WkD.w_po1 ?_ | with_reducible refine WkD.e_si ?_ | with_reducible refine WkD.l_A ?_ | with_reducible refine WkD.l_L ?_ | with_reducible refine WkD.w_cont ?_ | with_reducible refine WkD.w_break ?_ | with_reducible refine WkD.w_gt2 ?_ | with_reducible refine WkD.w_gt3 ?_ | with_reducible refine WkD.w_gcons ?_ | with_reducible refine WkD.w_gnil ?_ | with_reducible refine WkD.w_name ?_ | with_reducible refine WkD.w_par ?_
  | with_reducible refine WkD.r_I0i ?_ | with_reducible refine WkD.r_I0b ?_ | with_reducible refine WkD.u_U ?_ | with_reducible refine WkD.r_eqI ?_ | with_reducible refine WkD.r_neI ?_ | with_reducible refine WkD.r_eqS ?_ | with_reducible refine WkD.r_eqB ?_
  | ((with_reducible refine' WkD.r_ix ?hi ?_); (case hi => exact rfl)) | ((with_reducible refine' WkD.r_ixl ?hi ?_); (case hi => exact rfl))
  | ((with_reducible refine' WkD.r_ixT ?hi ?_); (case hi => exact rfl)) | ((with_reducible refine' WkD.r_ixL ?hi ?_); (case hi => exact rfl))
  | with_reducible refine WkD.c_gcd ?_ | with_reducible refine WkD.c_abs ?_ | with_reducible refine WkD.c_int ?_ | with_reducible refine WkD.e_bool ?_ | with_reducible refine WkD.w_tup ?_ | with_reducible refine WkD.w_lst ?_ | with_reducible refine WkD.e_ab ?_ | with_reducible refine WkD.d0 ?_ | with_reducible refine WkD.d1 ?_ | with_reducible refine WkD.d2 ?_ | with_reducible refine WkD.d3 ?_ | with_reducible refine WkD.d4 ?_))

/-! the steps that need no thought -/
local macro_rules | `(tactic| walk_at "go") => `(tactic| repeat (first
  | ((with_reducible refine' WkS.e_var ?hv ?_); (case hv => exact rfl)) | with_reducible refine WkS.e_c ?_ | with_reducible refine WkS.e_op ?_ | with_reducible refine WkS.e_un ?_ | with_reducible refine WkS.e_I0 ?_ | with_reducible refine WkS.e_U ?_
  | ((with_reducible refine WkS.e_eq ?hs ?_); (case hs => exact rfl)) | ((with_reducible refine WkS.e_ne ?hs ?_); (case hs => exact rfl))
  | with_reducible refine WkS.e_test ?_ | with_reducible refine WkS.e_tB ?_ | with_reducible refine WkS.e_bl ?_ | with_reducible refine WkS.e_and ?_ | with_reducible refine WkS.e_or ?_ | with_reducible refine WkS.e_not ?_ | with_reducible refine WkS.e_if ?_
  | with_reducible refine WkS.e_andV ?_ | with_reducible refine WkS.e_orV ?_ | with_reducible refine WkS.e_notV ?_ | with_reducible refine WkS.e_nil ?_ | with_reducible refine WkS.e_cons ?_ | with_reducible refine WkS.e_CB ?_ | with_reducible refine WkS.e_tup ?_
  | with_reducible refine WkS.e_lst ?_ | with_reducible refine WkS.e_call ?_ | with_reducible refine WkS.e_seq ?_ | with_reducible refine WkS.e_next ?_ | with_reducible refine WkS.e_ret ?_ | with_reducible refine WkS.e_asg ?_ | with_reducible refine WkS.e_gName ?_
  | with_reducible refine WkS.e_gSub ?_ | with_reducible refine WkS.e_ifS ?_ | with_reducible refine WkS.e_drop ?_ | with_reducible refine WkS.e_par ?_ | with_reducible refine WkS.e_two ?_ | with_reducible refine WkS.e_int1 ?_ | with_reducible refine WkS.e_one ?_ | with_reducible refine WkS.e_sl ?_ | with_reducible refine WkS.e_noPart ?_ | with_reducible refine WkS.e_part ?_ | with_reducible refine WkS.e_vint ?_ | with_reducible refine WkS.e_vbl ?_ | with_reducible refine WkS.e_BM ?_ | with_reducible refine WkS.e_BM0 ?_
  | ((with_reducible refine' WkS.e_ixl ?ha ?hb ?_); (case ha => first | assumption | exact L2.upd_same); (case hb => exact rfl)) | ((with_reducible refine' WkS.e_ixt ?ha ?hb ?_); (case ha => first | assumption | exact L2.upd_same); (case hb => exact rfl))
  | ((with_reducible refine' WkS.e_setL ?ha ?hb ?_); (case ha => first | assumption | exact L2.upd_same); (case hb => exact rfl))))

namespace K35
open PySem PySem.Spec PyProof.Rows L2 WkH WkE WkQ WkS WkF WkD
structure Er (P : Program) (w : World) (K : PySem.W.Frag) (mg : Str → Option Value) (base : Heap) : Prop where
  sure : ErrC P w K mg base "InvalidSure" 72 "given"
  box : ErrC P w K mg base "InvalidBox" 91 "given"
  count : ErrC P w K mg base "InvalidCount" 110 "given"
  cost : ErrC P w K mg base "InvalidCost" 129 "given"
section
variable {P : Program} {w : World} {K : PySem.W.Frag} {mg : Str → Option Value} {base : Heap}
noncomputable def badBox (d : PyData) : Option (Addr × Nat) := if isBox d = true then none else some (91, 0)
abbrev spCheckBox : Sp := spX K one1 (fun d => small d = true) (fun _ => .none) badBox
theorem sc_check_box : FnScope ["box"] ["box"] d_check_box.sco := ⟨rfl, rfl, rfl, by decide +kernel, rfl, by decide +kernel, by decide +kernel⟩
theorem ok_check_box {fd : FuncData} (F : Stands K d_check_box fd) (R : Er P w K mg base) (Fx : Fn P w K mg base CX0 4 "is_box" ["value"] (spBox (K := K))) : FnOk P w K mg base (L2.CX P w) 5 d_check_box.adr fd ["box"] (spCheckBox (K := K)) := by
  refine FunD.ok F sc_check_box (fun vs H Q E h => len_X h fun _ => rfl) (fun cdv A outer s H vs Q E hr h => ⟨_, (pss_one (ps_if (pt_not (pt_val (pe_fn Fx hr rfl (pa_cons (pv 0) pa_nil)))) (pss_one (ps_raise rfl (takes_of rfl rfl rfl rfl) (pmk_R1 R.box (hr.mono (by decide)) rfl (pa_cons (pv 0) pa_nil)))) pss_nil)), ?_⟩)
  obtain ⟨S, F, n, d, jn, dq, hp, hok, hbad⟩ := h
  obtain ⟨v, rfl, q1⟩ := dq1 dq
  try dsimp only [cxOf]
  with_reducible refine e_ifS ?_
  refine use_T (F := F) (n := n) (ρ := [.dat d]) (Θ := fun b m => m = n ∧ b = !isBox d) jn (.cons ⟨v, rfl, q1⟩ .nil) ?_ fun b H1 m ⟨em, eb⟩ j1 s1 => ?_
  · walk_at "gd"
    refine c_fn (enc := one1) d hp ?_
    walk_at "gd"
    exact ⟨rfl, rfl⟩
  subst em
  refine e_ite (fun h1 => ?_) (fun h1 => ?_)
  · refine e_R1 ?_
    walk_at "go"
    refine ⟨_, rfl, fun dd H2 nd s2 e2 => ?_⟩
    obtain ⟨j2, s2, e2⟩ := air j1 nd s2 e2
    exact hbad 91 0 (by rw [badBox, if_neg (by rw [eb] at h1; simpa using h1)]) dd v H2 j2 (s1.trans s2) rfl e2
  · exact hok (by rw [badBox, if_pos (by rw [eb] at h1; simpa using h1)]) .non H1 j1 s1 .non
def isCost (d : PyData) : Bool := isFr d && posD d
def enc2 (q : PyData × PyData) : List PyData := [q.1, q.2]
def enc3 (q : PyData × PyData × PyData) : List PyData := [q.1, q.2.1, q.2.2]
def enc4 (q : PyData × PyData × PyData × PyData) : List PyData := [q.1, q.2.1, q.2.2.1, q.2.2.2]
noncomputable def bad2 (q : PyData × PyData) : Option (Addr × Nat) := match badBox q.1 with
  | some z => some z
  | none => if isCost q.2 = true then none else some (129, 1)
noncomputable def bad3 (q : PyData × PyData × PyData) : Option (Addr × Nat) := match bad2 (q.1, q.2.1) with
  | some z => some z
  | none => if isFr q.2.2 = true then none else some (72, 2)
noncomputable def bad4 (q : PyData × PyData × PyData × PyData) : Option (Addr × Nat) := match bad3 (q.1, q.2.1, q.2.2.1) with
  | some z => some z
  | none => if isWithin q.2.2.2 0 12 = true then none else some (110, 3)
def sm2 (q : PyData × PyData) : Prop := small q.1 = true ∧ small q.2 = true
def sm3 (q : PyData × PyData × PyData) : Prop := small q.1 = true ∧ small q.2.1 = true ∧ small q.2.2 = true
def sm4 (q : PyData × PyData × PyData × PyData) : Prop := small q.1 = true ∧ small q.2.1 = true ∧ small q.2.2.1 = true ∧ small q.2.2.2 = true
abbrev spCheck_check_search : Sp := spX K enc2 sm2 (fun _ => .none) bad2
abbrev spCheck_check_search_worth : Sp := spX K enc3 sm3 (fun _ => .none) bad3
abbrev spCheck_check_draws : Sp := spX K enc4 sm4 (fun _ => .none) bad4

theorem sc_check_search : FnScope ["box", "cost"] ["box", "cost"] d_check_search.sco := ⟨rfl, rfl, rfl, by decide +kernel, rfl, by decide +kernel, by decide +kernel⟩
theorem ok_check_search {fd : FuncData} (F : Stands K d_check_search fd) (T : Bg K mg) (R : Er P w K mg base) (Fc : Fn P w K mg base (L2.CX P w) 5 "check_box" ["box"] (spCheckBox (K := K))) (Ff : Fn P w K mg base CX0 2 "is_fraction" ["value"] (spFraction (K := K))) (Fb : Fn P w K mg base CX0 1 "is_below" ["one", "other"] (spBelow (K := K))) : FnOk P w K mg base (L2.CX P w) 6 d_check_search.adr fd ["box", "cost"] (spCheck_check_search (K := K)) := by
  refine FunD.ok F sc_check_search (fun vs H Q E h => len_X h fun _ => rfl) (fun cdv A outer s H vs Q E hr h => ⟨_, (pss_cons (ps_expr (pe_fnX Fc (passes_call (takes_of rfl rfl rfl rfl) (fun _ _ _ _ h => h)) hr rfl (pa_cons (pv 0) pa_nil)))
  (pss_one (ps_if (PW.pt (pw_or (pt_not (pt_val (pe_fn Ff hr rfl (pa_cons (pv 1) pa_nil)))) (pw_or1 (pt_not (pt_val (pe_fn Fb hr rfl (pa_cons (pe_glob (v := .ref 153) rfl T.ZERO rfl) (pa_cons (pv 1) pa_nil)))))))) (pss_one (ps_raise rfl (takes_of rfl rfl rfl rfl) (pmk_R1 R.cost (hr.mono (by decide)) rfl (pa_cons (pv 1) pa_nil)))) pss_nil))), ?_⟩)
  obtain ⟨S, F, n, ⟨d0, d1⟩, jn, dq, hp, hok, hbad⟩ := h
  obtain ⟨v0, v1, rfl, q0, q1⟩ := dq2 dq
  obtain ⟨hp0, hp1⟩ := hp
  try dsimp only [cxOf]
  with_reducible refine e_seq ?_
  with_reducible refine e_drop ?_
  with_reducible refine e_call ?_
  walk_at "go"
  refine ⟨S, F, n, d0, jn, .cons q0 (.nil), hp0, fun hb _ H1 j1 s1 _ => ?_, fun C k hb dd v H1 j1 s1 e1 e2 => ?_⟩
  rotate_left
  · refine hbad C k (by simp only [bad2, hb]) dd v H1 j1 s1 ?_ e2
    match k, e1 with
    | 0, e1 => exact e1
    | j + 1, e1 => cases e1
  with_reducible refine e_ifS ?_
  refine use_T (F := F) (n := n) (ρ := [.dat d0, .dat d1]) (Θ := fun b m => m = n ∧ b = !(isCost d1)) j1 (.cons ⟨v0, rfl, q0.mono s1⟩ (.cons ⟨v1, rfl, q1.mono s1⟩ (.nil))) ?_ fun b H2 m ⟨em, eb⟩ j2 s2 => ?_
  · walk_at "gd"
    refine c_fn (enc := one1) d1 trivial ?_
    walk_at "gd"
    refine ⟨fun z => ⟨rfl, ?_⟩, fun z => ?_⟩
    · have z : isFr d1 = false := by simpa using z
      rw [isCost, z]
      rfl
    have z : isFr d1 = true := by simpa using z
    obtain ⟨r, rfl⟩ := isFr_ex z
    walk_at "gd"
    refine w_con T.zero ?_
    walk_at "gd"
    refine c_fn (enc := twoR) (0, r) ⟨z4, (small_fr hp1).mono (by decide)⟩ ?_
    walk_at "gd"
    exact ⟨rfl, by rw [isCost, isFr_frD, posD_fr]; rfl⟩
  subst em
  refine e_ite (fun h1 => ?_) (fun h1 => ?_)
  · refine e_R1 ?_
    walk_at "go"
    refine ⟨_, rfl, fun dd H3 nd s3 e3 => ?_⟩
    obtain ⟨j3, s3, e3⟩ := air j2 nd s3 e3
    exact hbad 129 1 (by simp only [bad2, hb]; rw [if_neg (by rw [eb] at h1; simpa using h1)]) dd _ H3 j3 (s1.trans (s2.trans s3)) rfl e3
  · exact hok (by simp only [bad2, hb]; rw [if_pos (by rw [eb] at h1; simpa using h1)]) .non H2 j2 (s1.trans s2) .non

theorem sc_check_search_worth : FnScope ["box", "cost", "worth"] ["box", "cost", "worth"] d_check_search_worth.sco := ⟨rfl, rfl, rfl, by decide +kernel, rfl, by decide +kernel, by decide +kernel⟩
theorem ok_check_search_worth {fd : FuncData} (F : Stands K d_check_search_worth fd) (R : Er P w K mg base) (Fc : Fn P w K mg base (L2.CX P w) 6 "check_search" ["box", "cost"] (spCheck_check_search (K := K))) (Ff : Fn P w K mg base CX0 2 "is_fraction" ["value"] (spFraction (K := K))) : FnOk P w K mg base (L2.CX P w) 7 d_check_search_worth.adr fd ["box", "cost", "worth"] (spCheck_check_search_worth (K := K)) := by
  refine FunD.ok F sc_check_search_worth (fun vs H Q E h => len_X h fun _ => rfl) (fun cdv A outer s H vs Q E hr h => ⟨_, (pss_cons (ps_expr (pe_fnX Fc (passes_call (takes_of rfl rfl rfl rfl) (fun _ _ _ _ h => h)) hr rfl (pa_cons (pv 0) (pa_cons (pv 1) pa_nil))))
  (pss_one (ps_if (pt_not (pt_val (pe_fn Ff hr rfl (pa_cons (pv 2) pa_nil)))) (pss_one (ps_raise rfl (takes_of rfl rfl rfl rfl) (pmk_R1 R.sure (hr.mono (by decide)) rfl (pa_cons (pv 2) pa_nil)))) pss_nil))), ?_⟩)
  obtain ⟨S, F, n, ⟨d0, d1, d2⟩, jn, dq, hp, hok, hbad⟩ := h
  obtain ⟨v0, v1, v2, rfl, q0, q1, q2⟩ := dq3 dq
  obtain ⟨hp0, hp1, hp2⟩ := hp
  try dsimp only [cxOf]
  with_reducible refine e_seq ?_
  with_reducible refine e_drop ?_
  with_reducible refine e_call ?_
  walk_at "go"
  refine ⟨S, F, n, (d0, d1), jn, .cons q0 (.cons q1 (.nil)), ⟨hp0, hp1⟩, fun hb _ H1 j1 s1 _ => ?_, fun C k hb dd v H1 j1 s1 e1 e2 => ?_⟩
  rotate_left
  · refine hbad C k (by simp only [bad3, hb]) dd v H1 j1 s1 ?_ e2
    match k, e1 with
    | 0, e1 => exact e1
    | 1, e1 => exact e1
    | j + 2, e1 => cases e1
  with_reducible refine e_ifS ?_
  refine use_T (F := F) (n := n) (ρ := [.dat d0, .dat d1, .dat d2]) (Θ := fun b m => m = n ∧ b = !(isFr d2)) j1 (.cons ⟨v0, rfl, q0.mono s1⟩ (.cons ⟨v1, rfl, q1.mono s1⟩ (.cons ⟨v2, rfl, q2.mono s1⟩ (.nil)))) ?_ fun b H2 m ⟨em, eb⟩ j2 s2 => ?_
  · walk_at "gd"
    refine c_fn (enc := one1) d2 trivial ?_
    walk_at "gd"
    exact ⟨rfl, rfl⟩
  subst em
  refine e_ite (fun h1 => ?_) (fun h1 => ?_)
  · refine e_R1 ?_
    walk_at "go"
    refine ⟨_, rfl, fun dd H3 nd s3 e3 => ?_⟩
    obtain ⟨j3, s3, e3⟩ := air j2 nd s3 e3
    exact hbad 72 2 (by simp only [bad3, hb]; rw [if_neg (by rw [eb] at h1; simpa using h1)]) dd _ H3 j3 (s1.trans (s2.trans s3)) rfl e3
  · exact hok (by simp only [bad3, hb]; rw [if_pos (by rw [eb] at h1; simpa using h1)]) .non H2 j2 (s1.trans s2) .non

theorem sc_check_draws : FnScope ["box", "cost", "worth", "count"] ["box", "cost", "worth", "count"] d_check_draws.sco := ⟨rfl, rfl, rfl, by decide +kernel, rfl, by decide +kernel, by decide +kernel⟩
theorem ok_check_draws {fd : FuncData} (F : Stands K d_check_draws fd) (T2 : Bn mg) (R : Er P w K mg base) (Fc : Fn P w K mg base (L2.CX P w) 7 "check_search_worth" ["box", "cost", "worth"] (spCheck_check_search_worth (K := K))) (Fi : Fn P w K mg base CX0 2 "is_within" ["value", "low", "high"] (spWithin (K := K))) : FnOk P w K mg base (L2.CX P w) 8 d_check_draws.adr fd ["box", "cost", "worth", "count"] (spCheck_check_draws (K := K)) := by
  refine FunD.ok F sc_check_draws (fun vs H Q E h => len_X h fun _ => rfl) (fun cdv A outer s H vs Q E hr h => ⟨_, (pss_cons (ps_expr (pe_fnX Fc (passes_call (takes_of rfl rfl rfl rfl) (fun _ _ _ _ h => h)) hr rfl (pa_cons (pv 0) (pa_cons (pv 1) (pa_cons (pv 2) pa_nil)))))
  (pss_one (ps_if (pt_not (pt_val (pe_fn Fi hr rfl (pa_cons (pv 3) (pa_cons pe_int (pa_cons (pe_globI rfl T2.MOST_DRAWS) pa_nil)))))) (pss_one (ps_raise rfl (takes_of rfl rfl rfl rfl) (pmk_R1 R.count (hr.mono (by decide)) rfl (pa_cons (pv 3) pa_nil)))) pss_nil))), ?_⟩)
  obtain ⟨S, F, n, ⟨d0, d1, d2, d3⟩, jn, dq, hp, hok, hbad⟩ := h
  obtain ⟨v0, v1, v2, v3, rfl, q0, q1, q2, q3⟩ := dq4 dq
  obtain ⟨hp0, hp1, hp2, hp3⟩ := hp
  try dsimp only [cxOf]
  with_reducible refine e_seq ?_
  with_reducible refine e_drop ?_
  with_reducible refine e_call ?_
  walk_at "go"
  refine ⟨S, F, n, (d0, d1, d2), jn, .cons q0 (.cons q1 (.cons q2 (.nil))), ⟨hp0, hp1, hp2⟩, fun hb _ H1 j1 s1 _ => ?_, fun C k hb dd v H1 j1 s1 e1 e2 => ?_⟩
  rotate_left
  · refine hbad C k (by simp only [bad4, hb]) dd v H1 j1 s1 ?_ e2
    match k, e1 with
    | 0, e1 => exact e1
    | 1, e1 => exact e1
    | 2, e1 => exact e1
    | j + 3, e1 => cases e1
  with_reducible refine e_ifS ?_
  refine use_T (F := F) (n := n) (ρ := [.dat d0, .dat d1, .dat d2, .dat d3]) (Θ := fun b m => m = n ∧ b = !(isWithin d3 0 12)) j1 (.cons ⟨v0, rfl, q0.mono s1⟩ (.cons ⟨v1, rfl, q1.mono s1⟩ (.cons ⟨v2, rfl, q2.mono s1⟩ (.cons ⟨v3, rfl, q3.mono s1⟩ (.nil))))) ?_ fun b H2 m ⟨em, eb⟩ j2 s2 => ?_
  · walk_at "gd"
    refine c_fn (enc := oneII) (d3, 0, 12) trivial ?_
    walk_at "gd"
    exact ⟨rfl, rfl⟩
  subst em
  refine e_ite (fun h1 => ?_) (fun h1 => ?_)
  · refine e_R1 ?_
    walk_at "go"
    refine ⟨_, rfl, fun dd H3 nd s3 e3 => ?_⟩
    obtain ⟨j3, s3, e3⟩ := air j2 nd s3 e3
    exact hbad 110 3 (by simp only [bad4, hb]; rw [if_neg (by rw [eb] at h1; simpa using h1)]) dd _ H3 j3 (s1.trans (s2.trans s3)) rfl e3
  · exact hok (by simp only [bad4, hb]; rw [if_pos (by rw [eb] at h1; simpa using h1)]) .non H2 j2 (s1.trans s2) .non
end
end K35
/-! the steps over data that need no thought -/
local macro_rules | `(tactic| walk_at "gd") => `(tactic| repeat (first
  | ((with_reducible refine' WkD.w_var ?hv ?hn ?_); (case hv => exact rfl); (case hn => exact (fun z => nomatch z)))
  | with_reducible refine WkD.w_int ?_ | with_reducible refine WkD.w_str ?_ | with_reducible refine WkD.w_non ?_ | with_reducible refine WkD.w_bl ?_
  | with_reducible refine WkD.w_chain ?_ | with_reducible refine WkD.w_tyc ?_ | ((with_reducible refine' WkD.c_isi ?hu ?_); (case hu => decide))
  | with_reducible refine WkD.w_op ?_ | with_reducible refine WkD.w_un ?_ | with_reducible refine WkD.w_nil ?_ | with_reducible refine WkD.w_cons ?_ | ((with_reducible refine' WkD.w_isi2 ?ha ?hb ?_); (case ha => decide); (case hb => decide)) | with_reducible refine WkD.w_CB ?_ | with_reducible refine WkD.w_call ?_
  | with_reducible refine WkD.w_if ?_ | with_reducible refine WkD.w_andV ?_ | with_reducible refine WkD.w_orV ?_ | with_reducible refine WkD.w_notV ?_ | with_reducible refine WkD.w_test ?_ | with_reducible refine WkD.w_tB ?_ | with_reducible refine WkD.w_not ?_
  | with_reducible refine WkD.w_and ?_ | with_reducible refine WkD.w_or ?_ | with_reducible refine WkD.w_yes ?_ | with_reducible refine WkD.w_next ?_ | with_reducible refine WkD.w_seq ?_ | with_reducible refine WkD.w_ret ?_ | with_reducible refine WkD.w_retN ?_
  | with_reducible refine WkD.w_drop ?_ | with_reducible refine WkD.w_ifS ?_ | with_reducible refine WkD.w_asg ?_ | with_reducible refine WkD.w_sl ?_ | with_reducible refine WkD.w_po0 ?_ | with_reducible refine WkD.w_po1 ?_ | with_reducible refine WkD.e_si ?_ | with_reducible refine WkD.l_A ?_ | with_reducible refine WkD.l_L ?_ | with_reducible refine WkD.w_cont ?_ | with_reducible refine WkD.w_break ?_ | with_reducible refine WkD.w_gt2 ?_ | with_reducible refine WkD.w_gt3 ?_ | with_reducible refine WkD.w_gcons ?_ | with_reducible refine WkD.w_gnil ?_ | with_reducible refine WkD.w_name ?_ | with_reducible refine WkD.w_par ?_
  | with_reducible refine WkD.r_I0i ?_ | with_reducible refine WkD.r_I0b ?_ | with_reducible refine WkD.u_U ?_ | with_reducible refine WkD.r_eqI ?_ | with_reducible refine WkD.r_neI ?_ | with_reducible refine WkD.r_eqS ?_ | with_reducible refine WkD.r_eqB ?_
  | ((with_reducible refine' WkD.r_ix ?hi ?_); (case hi => exact rfl)) | ((with_reducible refine' WkD.r_ixl ?hi ?_); (case hi => exact rfl))
  | ((with_reducible refine' WkD.r_ixT ?hi ?_); (case hi => exact rfl)) | ((with_reducible refine' WkD.r_ixL ?hi ?_); (case hi => exact rfl))
  | with_reducible refine WkD.c_gcd ?_ | with_reducible refine WkD.c_abs ?_ | with_reducible refine WkD.c_int ?_ | with_reducible refine WkD.e_bool ?_ | with_reducible refine WkD.w_tup ?_ | with_reducible refine WkD.w_lst ?_ | with_reducible refine WkD.e_ab ?_ | with_reducible refine WkD.d0 ?_ | with_reducible refine WkD.d1 ?_ | with_reducible refine WkD.d2 ?_ | with_reducible refine WkD.d3 ?_ | with_reducible refine WkD.d4 ?_))

namespace K35
open PySem PySem.Spec PyProof.Rows L2 WkH WkE WkQ WkS WkF WkD
section
variable {P : Program} {w : World} {K : PySem.W.Frag} {mg : Str → Option Value} {base : Heap}
abbrev spSubtract : Sp := spF K twoR (fun q => Bits 4000 q.1 ∧ Bits 4000 q.2) fun q => frD (q.1 - q.2)
abbrev spMultiply : Sp := spF K twoR (fun q => Bits 4000 q.1 ∧ Bits 4000 q.2) fun q => frD (q.1 * q.2)
abbrev spDivide : Sp := spF K twoR (fun q => Bits 4000 q.1 ∧ Bits 4000 q.2 ∧ 0 < q.2.num) fun q => frD (q.1 / q.2)
/-- a box over the bases A (worths), S (chances) -/
structure SzB (A S : Nat) (b : List (Rat × Rat)) : Prop where
  hA : A < 2 ^ 200
  hS : S < 2 ^ 40
  pA : 0 < A
  pS : 0 < S
  l : b.length ≤ 32
  w : ∀ q ∈ b, In A (2 ^ 200) q.1
  c : ∀ q ∈ b, In S 1 q.2
theorem SzB.w4 {A S : Nat} {b : List (Rat × Rat)} (z : SzB A S b) {q : Rat × Rat} (h : q ∈ b) : Bits 400 q.1 :=
  (z.w q h).bits (Nat.lt_trans z.hA (by decide)) (by
    have := z.hA
    have e : 2 ^ 200 * A < 2 ^ 200 * 2 ^ 200 := Nat.mul_lt_mul_of_pos_left this (by decide)
    exact Nat.lt_of_lt_of_le e (by decide))
theorem SzB.c4 {A S : Nat} {b : List (Rat × Rat)} (z : SzB A S b) {q : Rat × Rat} (h : q ∈ b) : Bits 40 q.2 := (z.c q h).bits z.hS (by rw [Nat.one_mul]; exact z.hS)
theorem SzB.sub {A S : Nat} {b c : List (Rat × Rat)} (z : SzB A S b) (h : ∀ q ∈ c, q ∈ b) (hl : c.length ≤ b.length) : SzB A S c := ⟨z.hA, z.hS, z.pA, z.pS, Nat.le_trans hl z.l, fun q hq => z.w q (h q hq), fun q hq => z.c q (h q hq)⟩
/-- what sum_of asks, of fractions over one base -/
theorem in_pre {rs : List Rat} {N M : Nat} (hN0 : 0 < N) (h : ∀ r ∈ rs, In N M r) (hl : rs.length ≤ 40) (hN : N < 2 ^ 2000) (hM : M ≤ 2 ^ 1500) : ((∀ r ∈ rs, Bits 4000 r) ∧ ∀ k, Bits 4000 (sumR (rs.take k))) ∧ In N (rs.length * M) (sumR rs) := by
  have z : In N 0 (0 : Rat) := ⟨hN0, Nat.one_dvd N, by decide +kernel, by decide +kernel⟩
  have big : ∀ {x : Nat} {r : Rat}, x ≤ 40 * 2 ^ 1500 → In N x r → Bits 4000 r := fun {x r} hx hr => by
    refine hr.bits (Nat.lt_trans hN (by decide +kernel)) ?_
    have e1 : x * N ≤ (40 * 2 ^ 1500) * 2 ^ 2000 := Nat.mul_le_mul hx (Nat.le_of_lt hN)
    exact Nat.lt_of_le_of_lt e1 (by decide +kernel)
  have all : ∀ k, In N ((rs.take k).length * M) (sumR (rs.take k)) := fun k => by
    have := In.fold (rs := rs.take k) z fun r hr => h r (List.mem_of_mem_take hr)
    rwa [Nat.zero_add] at this
  refine ⟨⟨fun r hr => big (Nat.le_trans hM (by decide +kernel)) (h r hr), fun k => big ?_ (all k)⟩, ?_⟩
  · refine Nat.mul_le_mul ?_ hM
    rw [List.length_take]
    omega
  · have := all rs.length
    rwa [List.take_length] at this
theorem SzB.sums {A S : Nat} {b : List (Rat × Rat)} (z : SzB A S b) : ((∀ r ∈ b.map (·.2), Bits 4000 r) ∧ ∀ k, Bits 4000 (sumR ((b.map (·.2)).take k))) ∧ Bits 50 (K35M.chance b) := by
  have h := in_pre (rs := b.map (·.2)) (N := S) (M := 1) z.pS (fun r hr => by
    obtain ⟨q, hq, rfl⟩ := List.mem_map.mp hr
    exact z.c q hq) (by rw [List.length_map]; have := z.l; omega) (Nat.lt_trans z.hS (by decide +kernel)) (by decide +kernel)
  refine ⟨h.1, ?_⟩
  have e := h.2
  rw [sum_chance, List.length_map] at e
  refine e.bits (Nat.lt_trans z.hS (by decide)) ?_
  have hS := z.hS
  have hl := z.l
  have : b.length * 1 * S ≤ 32 * S := Nat.mul_le_mul_right _ (by omega)
  omega
theorem SzB.means {A S : Nat} {b : List (Rat × Rat)} (z : SzB A S b) {g : Rat → Rat} {N M : Nat} (hN : N < 2 ^ 1900) (hM : M ≤ 2 ^ 1500) (hN0 : 0 < N) (hg : ∀ q ∈ b, In N M (g q.1)) :
    ((∀ r ∈ b.map (fun q => q.2 * g q.1), Bits 4000 r) ∧ ∀ k, Bits 4000 (sumR ((b.map fun q => q.2 * g q.1).take k))) ∧ In (S * N) (b.length * M) (K35M.mean g b) := by
  have hSN : S * N < 2 ^ 2000 := by
    have e1 : S * N ≤ 2 ^ 40 * 2 ^ 1900 := Nat.mul_le_mul (Nat.le_of_lt z.hS) (Nat.le_of_lt hN)
    exact Nat.lt_of_le_of_lt e1 (by decide +kernel)
  have h := in_pre (rs := b.map fun q => q.2 * g q.1) (N := S * N) (M := M) (Nat.mul_pos z.pS hN0) (fun r hr => by
    obtain ⟨q, hq, rfl⟩ := List.mem_map.mp hr
    have := (z.c q hq).mul (hg q hq)
    rwa [Nat.one_mul] at this) (by rw [List.length_map]; have := z.l; omega) hSN hM
  refine ⟨h.1, ?_⟩
  have e := h.2
  rwa [sum_mean _ g (fun _ => rfl), List.length_map] at e
theorem chance_num {b : List (Rat × Rat)} (hp : ∀ q ∈ b, 0 < q.2) (h : b ≠ []) : 0 < (K35M.chance b).num := (pos_num _).mp (K35M.chance_pos hp h)
/-- the quotient's size -/
theorem L_bits {A S : Nat} {b : List (Rat × Rat)} {c : Rat} (z : SzB A S b) (hc : Bits 400 c) (hp : ∀ q ∈ b, 0 < q.2) {k : Nat} (hk : k < b.length) :
    Bits 700 (K35M.mean (fun w => w) (b.drop k)) ∧ Bits 1200 (K35M.mean (fun w => w) (b.drop k) - c) ∧ Bits 1300 (K35M.L b c k) := by
  have z' : SzB A S (b.drop k) := z.sub (fun q hq => List.mem_of_mem_drop hq) (by rw [List.length_drop]; omega)
  have h1 := (z'.means (g := fun w => w) (Nat.lt_trans z.hA (by decide +kernel)) (M := 2 ^ 200) (by decide +kernel) z.pA fun q hq => z'.w q hq).2
  have b1 : Bits 700 (K35M.mean (fun w => w) (b.drop k)) := by
    have hSA : S * A < 2 ^ 40 * 2 ^ 200 := Nat.lt_of_le_of_lt (Nat.mul_le_mul_right A (Nat.le_of_lt z.hS)) (Nat.mul_lt_mul_of_pos_left z.hA (by decide))
    refine h1.bits (Nat.lt_of_lt_of_le hSA (by decide)) ?_
    have e1 : (b.drop k).length * 2 ^ 200 ≤ 32 * 2 ^ 200 := Nat.mul_le_mul_right _ z'.l
    exact Nat.lt_of_le_of_lt (Nat.mul_le_mul e1 (Nat.le_of_lt hSA)) (by decide +kernel)
  have b2 : Bits 1200 (K35M.mean (fun w => w) (b.drop k) - c) := (b1.minus hc).mono (by decide)
  exact ⟨b1, b2, (b2.over z'.sums.2 (chance_num (fun q hq => hp q (List.mem_of_mem_drop hq)) (by intro y; rw [List.drop_eq_nil_iff] at y; omega))).mono (by decide)⟩
theorem barAt_bits {A S : Nat} {b : List (Rat × Rat)} {c : Rat} (z : SzB A S b) (hc : Bits 400 c) (hp : ∀ q ∈ b, 0 < q.2) : ∀ {k : Nat}, k < b.length → Bits 1300 (K35M.barAt b c k)
  | 0, hk => (L_bits z hc hp hk).2.2
  | k + 1, hk => by
    unfold K35M.barAt
    split
    · exact barAt_bits z hc hp (by omega)
    · exact (L_bits z hc hp hk).2.2
theorem greatest2 (x y : Rat) : greatestR [x, y] = K35M.mx x y := by
  show maxR (maxR x x) y = K35M.mx x y
  have : maxR x x = x := by unfold maxR; split <;> rfl
  rw [this]
  rfl
/-- the mean of the greater one -/
def boxR (q : List (Rat × Rat) × Rat) : List PyData := [boxD q.1, frD q.2]
abbrev spDrawn : Sp := spF K boxR (fun q => ∃ A S, SzB A S q.1 ∧ ∃ N M, 0 < N ∧ N < 2 ^ 1900 ∧ M ≤ 2 ^ 1500 ∧ (∀ r ∈ q.1, In N M r.1) ∧ In N M q.2) fun q => frD (K35M.mean (fun w => K35M.mx q.2 w) q.1)
theorem in4 {N M : Nat} {r : Rat} (h : In N M r) (h1 : N < 2 ^ 2000) (h2 : M ≤ 2 ^ 1500) : Bits 4000 r :=
  h.bits (Nat.lt_trans h1 (by decide +kernel)) (Nat.lt_of_le_of_lt (Nat.mul_le_mul h2 (Nat.le_of_lt h1)) (by decide +kernel))
theorem in_mx {N M : Nat} {r s : Rat} (h : In N M r) (h' : In N M s) : In N M (K35M.mx r s) := by
  unfold K35M.mx
  split <;> assumption
theorem sc_drawn_by : FnScope ["box", "worth", "some", "chance"] ["box", "worth"] d_drawn_by.sco := ⟨rfl, rfl, rfl, by decide +kernel, rfl, by decide +kernel, by decide +kernel⟩
theorem ok_drawn_by {fd : FuncData} (F : Stands K d_drawn_by fd) (Fs : Fn P w K mg base CX0 3 "sum_of" ["fractions"] (spSum (K := K))) (Fm : Fn P w K mg base CX0 2 "multiply" ["one", "other"] (spMultiply (K := K))) (Fg : Fn P w K mg base CX0 3 "greatest" ["fractions"] (spGreatest (K := K))) :
    FnOk P w K mg base CX0 4 d_drawn_by.adr fd ["box", "worth"] (spDrawn (K := K)) := by
  refine FunD.ok F sc_drawn_by (fun vs H Q E h => len_F h fun _ => rfl) (fun cdv A outer s H vs Q E hr h => ⟨_, PSs.nox (pss_one (ps_ret (pe_fn Fs hr rfl (pa_cons (pe_lc (own := [("some", 2), ("chance", 3)]) (g := (gTup K 2 (gCons (gName 2) (gCons (gName 3) gNil)))) rfl sc_drawn_by.nd (pi_tup (pv 0)) (blkOk_by (own := [("some", 2), ("chance", 3)]) (N := ["box", "worth", "some", "chance"]) (sc := d_drawn_by.sco) (by decide +kernel)) (fun _ _ _ _ _ => (pg_tup rfl (pgs_cons (pg_name (i := 2) sc_drawn_by.nd rfl (by first | exact Or.inl rfl | exact Or.inr rfl)) (pgs_cons (pg_name (i := 3) sc_drawn_by.nd rfl (by first | exact Or.inl rfl | exact Or.inr rfl)) pgs_nil)))) (fun _ _ _ _ _ => pts_nil) (fun _ _ _ _ _ => (pe_fn Fm hr rfl (pa_cons (pv 3) (pa_cons (pe_fn Fg hr rfl (pa_cons (pe_lst (pa_cons (pv 1) (pa_cons (pv 2) pa_nil))) pa_nil)) pa_nil))))) pa_nil)))), ?_⟩)
  refine body_F h fun F n q hp => ?_
  obtain ⟨b, x⟩ := q
  obtain ⟨A, S, z, N, M, hN0, hN, hM, hw, hx⟩ := hp
  have hx : In N M x := hx
  have hw : ∀ r ∈ b, In N M r.1 := hw
  have hl : b.length ≤ 32 := z.l
  have hN2 : N < 2 ^ 2000 := Nat.lt_trans hN (by decide +kernel)
  try dsimp only [cxOf, Cx.nox, Cx.wish, boxR]
  walk_at "gd"
  refine w_lcT ?_ (sets_two (by decide) (by decide))
  walk_at "gd"
  refine ⟨_, rfl, by rw [List.length_map]; omega, made_map (xs := b) (enc := rowD) (out := fun q => frD (q.2 * K35M.mx x q.1)) (fun D ys i q hq => ?_) ?_⟩
  · have hq' := List.mem_of_getElem? hq
    walk_at "gd"
    refine c_fn (enc := listR) [x, q.1] ⟨by simp, fun r hr => ?_⟩ ?_
    · rcases List.mem_cons.mp hr with rfl | hr
      · exact in4 hx hN2 hM
      · rcases List.mem_cons.mp hr with rfl | hr
        · exact in4 (hw q hq') hN2 hM
        · cases hr
    rw [greatest2]
    walk_at "gd"
    refine c_fn (enc := twoR) (q.2, K35M.mx x q.1) ⟨(z.c4 hq').mono (by decide), in4 (in_mx hx (hw q hq')) hN2 hM⟩ ?_
    exact ⟨rfl, rfl⟩
  walk_at "gd"
  have hs := z.means (g := fun w => K35M.mx x w) hN hM hN0 fun q hq => in_mx hx (hw q hq)
  refine c_fnE (enc := listR) (b.map fun q => q.2 * K35M.mx x q.1) (by rw [listR, List.map_map]; rfl) hs.1 ?_
  exact ⟨rfl, by rw [sum_mean _ (fun w => K35M.mx x w) fun _ => rfl]⟩
/-- the bar -/
abbrev spBarOf : Sp := spF K boxR (fun q => IsBox q.1 ∧ (∃ A S, SzB A S q.1) ∧ Bits 400 q.2) fun q => frD (K35M.barR q.1 q.2)
theorem sc_bar_of : FnScope ["box", "cost", "number", "at", "chance", "worth", "part"] ["box", "cost"] d_bar_of.sco := ⟨rfl, rfl, rfl, by decide +kernel, rfl, by decide +kernel, by decide +kernel⟩
theorem ok_bar_of {fd : FuncData} (F : Stands K d_bar_of fd) (T : Bg K mg) (Fs : Fn P w K mg base CX0 3 "sum_of" ["fractions"] (spSum (K := K))) (Fm : Fn P w K mg base CX0 2 "multiply" ["one", "other"] (spMultiply (K := K))) (Fd : Fn P w K mg base CX0 2 "divide" ["one", "other"] (spDivide (K := K)))
    (Fu : Fn P w K mg base CX0 2 "subtract" ["one", "other"] (spSubtract (K := K))) (Fb : Fn P w K mg base CX0 1 "is_below" ["one", "other"] (spBelow (K := K))) : FnOk P w K mg base CX0 4 d_bar_of.adr fd ["box", "cost"] (spBarOf (K := K)) := by
  refine FunD.ok F sc_bar_of (fun vs H Q E h => len_F h fun _ => rfl) (fun cdv A outer s H vs Q E hr h => ⟨_, PSs.nox (pss_cons (ps_set (i := 2) sc_bar_of.nd rfl (by first | exact Or.inl rfl | exact Or.inr rfl) (pe_glob (v := .ref 153) rfl T.ZERO rfl))
  (pss_cons (ps_for PassesOwn.never rfl (pi_range3 rfl T.range (pa_cons (pe_op op_sub (pe_callB call_len_seq rfl T.len WkB.b_len (pa_cons (pv 0) pa_nil)) pe_int) (pa_cons (pe_un un_neg pe_int) (pa_cons (pe_un un_neg pe_int) pa_nil)))) (pg_name (i := 3) sc_bar_of.nd rfl (by first | exact Or.inl rfl | exact Or.inr rfl)) (pss_cons (ps_set (i := 4) sc_bar_of.nd rfl (by first | exact Or.inl rfl | exact Or.inr rfl) (pe_fn Fs hr rfl (pa_cons (pe_lc (own := [("worth", 5), ("part", 6)]) (g := (gTup K 2 (gCons (gName 5) (gCons (gName 6) gNil)))) rfl sc_bar_of.nd (pi_tup (pe_slice sl_tupA (pv 0) (po_some (pv 3)) po_none)) (blkOk_by (own := [("worth", 5), ("part", 6)]) (N := ["box", "cost", "number", "at", "chance", "worth", "part"]) (sc := d_bar_of.sco) (by decide +kernel)) (fun _ _ _ _ _ => (pg_tup rfl (pgs_cons (pg_name (i := 5) sc_bar_of.nd rfl (by first | exact Or.inl rfl | exact Or.inr rfl)) (pgs_cons (pg_name (i := 6) sc_bar_of.nd rfl (by first | exact Or.inl rfl | exact Or.inr rfl)) pgs_nil)))) (fun _ _ _ _ _ => pts_nil) (fun _ _ _ _ _ => (pv 6))) pa_nil)))
  (pss_cons (ps_set (i := 2) sc_bar_of.nd rfl (by first | exact Or.inl rfl | exact Or.inr rfl) (pe_fn Fd hr rfl (pa_cons (pe_fn Fu hr rfl (pa_cons (pe_fn Fs hr rfl (pa_cons (pe_lc (own := [("worth", 5), ("part", 6)]) (g := (gTup K 2 (gCons (gName 5) (gCons (gName 6) gNil)))) rfl sc_bar_of.nd (pi_tup (pe_slice sl_tupA (pv 0) (po_some (pv 3)) po_none)) (blkOk_by (own := [("worth", 5), ("part", 6)]) (N := ["box", "cost", "number", "at", "chance", "worth", "part"]) (sc := d_bar_of.sco) (by decide +kernel)) (fun _ _ _ _ _ => (pg_tup rfl (pgs_cons (pg_name (i := 5) sc_bar_of.nd rfl (by first | exact Or.inl rfl | exact Or.inr rfl)) (pgs_cons (pg_name (i := 6) sc_bar_of.nd rfl (by first | exact Or.inl rfl | exact Or.inr rfl)) pgs_nil)))) (fun _ _ _ _ _ => pts_nil) (fun _ _ _ _ _ => (pe_fn Fm hr rfl (pa_cons (pv 6) (pa_cons (pv 5) pa_nil))))) pa_nil)) (pa_cons (pv 1) pa_nil))) (pa_cons (pv 4) pa_nil))))
  (pss_one (ps_if (PW.pt (pw_or (pt_cmpR op_eq (pv 3) pe_int (nomark _)) (pw_or1 (pt_not (pt_val (pe_fn Fb hr rfl (pa_cons (pv 2) (pa_cons (pe_ix (show IxR _ (rIx K) from ix_seq) (pe_ix (show IxR _ (rIx K) from ix_seq) (pv 0) (pe_op op_sub (pv 3) pe_int) (fun _ _ => rfl)) pe_int (fun _ _ => rfl)) pa_nil)))))))) (pss_one (ps_ret (pv 2))) pss_nil)))))
  (pss_one (ps_ret (pv 2))))), ?_⟩)
  refine body_F h fun F n q hp => ?_
  obtain ⟨b, c⟩ := q
  obtain ⟨hb, ⟨A, S, z⟩, hc⟩ := hp
  have hb : IsBox b := hb
  have z : SzB A S b := z
  have hc : Bits 400 c := hc
  have l1 := hb.l1
  have l2 := hb.l2
  try dsimp only [cxOf, Cx.nox, Cx.wish, boxR]
  walk_at "gd"
  refine w_con T.zero ?_
  walk_at "gd"
  refine w_forDn ?_
  walk_at "gd"
  refine c_len (.inr rfl) ?_
  walk_at "gd"
  have ek : (((b.map rowD).length : Int) - 1 - -1).toNat = b.length := by
    rw [List.length_map]
    omega
  have lk : ((b.map rowD).length : Int) = (b.length : Int) := by rw [List.length_map]
  refine ⟨_, _, rfl, ⟨by omega, by omega, by decide, by decide⟩, ?_⟩
  rw [ek]
  refine ⟨fun i ρ m => m = n ∧ i < b.length ∧ K35M.barR b c = K35M.barAt b c (b.length - 1 - i) ∧ ∃ e f g h k, ρ = [.dat (boxD b), .dat (frD c), .dat e, f, g, h, k], ⟨rfl, by omega, rfl, _, _, _, _, _, rfl⟩, fun i d ρ m hi hI => ?_, fun ρ m hI => ?_⟩
  · obtain ⟨rfl, li, eb, e, f, g, h, k, rfl⟩ := hI
    obtain ⟨at_, ha⟩ : ∃ k, k = b.length - 1 - i := ⟨_, rfl⟩
    rw [downD_get li] at hi
    cases hi
    have ev : ((b.map rowD).length : Int) - 1 + (i : Int) * (-1) = (at_ : Int) := by
      rw [List.length_map]
      omega
    rw [ev]
    have lat : at_ < b.length := by omega
    have z' : SzB A S (b.drop at_) := z.sub (fun q hq => List.mem_of_mem_drop hq) (by rw [List.length_drop]; omega)
    have hne : b.drop at_ ≠ [] := by
      intro y
      rw [List.drop_eq_nil_iff] at y
      omega
    have hpd : ∀ q ∈ b.drop at_, 0 < q.2 := fun q hq => hb.pos q (List.mem_of_mem_drop hq)
    obtain ⟨m1, m2, m3⟩ := L_bits z hc hb.pos lat
    walk_at "gd"
    refine w_lcT ?_ (sets_two (by decide) (by decide))
    walk_at "gd"
    rw [cutD_from, ← List.map_drop]
    refine ⟨_, rfl, by rw [List.length_map, List.length_drop]; omega, made_map (xs := b.drop at_) (enc := rowD) (out := fun q => frD q.2) (fun D ys i q hq => ?_) ?_⟩
    · walk_at "gd"
      exact ⟨rfl, rfl⟩
    walk_at "gd"
    refine c_fnE (enc := listR) ((b.drop at_).map (·.2)) (by rw [listR, List.map_map]; rfl) z'.sums.1 ?_
    rw [sum_chance]
    walk_at "gd"
    refine w_lcT ?_ (sets_two (by decide) (by decide))
    walk_at "gd"
    rw [cutD_from, ← List.map_drop]
    refine ⟨_, rfl, by rw [List.length_map, List.length_drop]; omega, made_map (xs := b.drop at_) (enc := rowD) (out := fun q => frD (q.2 * q.1)) (fun D ys i q hq => ?_) ?_⟩
    · have hq' := List.mem_of_getElem? hq
      walk_at "gd"
      refine c_fn (enc := twoR) (q.2, q.1) ⟨(z'.c4 hq').mono (by decide), (z'.w4 hq').mono (by decide)⟩ ?_
      exact ⟨rfl, rfl⟩
    walk_at "gd"
    have hs := z'.means (g := fun w => w) (M := 2 ^ 200) (Nat.lt_trans z.hA (by decide +kernel)) (by decide +kernel) z.pA fun q hq => z'.w q hq
    refine c_fnE (enc := listR) ((b.drop at_).map fun q => q.2 * q.1) (by rw [listR, List.map_map]; rfl) hs.1 ?_
    rw [sum_mean _ (fun w => w) fun _ => rfl]
    walk_at "gd"
    refine c_fn (enc := twoR) (_, c) ⟨m1.mono (by decide), hc.mono (by decide)⟩ ?_
    walk_at "gd"
    refine c_fn (enc := twoR) (_, _) ⟨m2.mono (by decide), z'.sums.2.mono (by decide), chance_num hpd hne⟩ ?_
    walk_at "gd"
    have eL : (K35M.mean (fun w => w) (b.drop at_) - c) / K35M.chance (b.drop at_) = K35M.L b c at_ := rfl
    rw [eL]
    refine ⟨fun h0 => ?_, fun h0 => ?_⟩
    · walk_at "gd"
      have h0 : at_ = 0 := by
        have := of_decide_eq_true h0
        omega
      refine ⟨fun _ => ?_, fun y => nomatch y⟩
      walk_at "gd"
      refine ⟨rfl, ?_⟩
      rw [eb, ← ha, h0]
      rfl
    · have h0 : at_ ≠ 0 := by
        have := of_decide_eq_false h0
        omega
      obtain ⟨j, rfl⟩ : ∃ j, at_ = j + 1 := ⟨at_ - 1, by omega⟩
      walk_at "gd"
      have ej : ((j + 1 : Nat) : Int) - 1 = (j : Int) := by omega
      rw [ej]
      have gj := K35M.get_at (b := b) (i := j) (by omega)
      refine r_ix (d := rowD (b.getD j (0, 0))) (atI_map gj) ?_
      walk_at "gd"
      refine c_fn (enc := twoR) (K35M.L b c (j + 1), (b.getD j (0, 0)).1) ⟨m3.mono (by decide), (z.w4 (List.mem_of_getElem? gj)).mono (by decide)⟩ ?_
      walk_at "gd"
      have hj : ¬ ((b.length - 1 - i) = 0) := by omega
      have eN : K35M.barAt b c (j + 1) = if K35M.L b c (j + 1) < (b.getD j (0, 0)).1 then K35M.barAt b c j else K35M.L b c (j + 1) := rfl
      refine ⟨fun h1 => ?_, fun h1 => ?_⟩
      · have h1 : ¬ K35M.L b c (j + 1) < (b.getD j (0, 0)).1 := by simpa using h1
        walk_at "gd"
        refine ⟨rfl, ?_⟩
        rw [eb, ← ha, eN, if_neg h1]
      · have h1 : K35M.L b c (j + 1) < (b.getD j (0, 0)).1 := by simpa using h1
        walk_at "gd"
        refine ⟨rfl, by omega, ?_, _, _, _, _, _, rfl⟩
        rw [eb, ← ha, eN, if_pos h1]
        have : b.length - 1 - (i + 1) = j := by omega
        rw [this]
  · rw [downD_length] at hI
    exact absurd hI.2.1 (Nat.lt_irrefl _)
end
end K35
/-! the steps over data that need no thought -/
local macro_rules | `(tactic| walk_at "gd") => `(tactic| repeat (first
  | ((with_reducible refine' WkD.w_var ?hv ?hn ?_); (case hv => exact rfl); (case hn => exact (fun z => nomatch z)))
  | with_reducible refine WkD.w_int ?_ | with_reducible refine WkD.w_str ?_ | with_reducible refine WkD.w_non ?_ | with_reducible refine WkD.w_bl ?_
  | with_reducible refine WkD.w_chain ?_ | with_reducible refine WkD.w_tyc ?_ | ((with_reducible refine' WkD.c_isi ?hu ?_); (case hu => decide))
  | with_reducible refine WkD.w_op ?_ | with_reducible refine WkD.w_un ?_ | with_reducible refine WkD.w_nil ?_ | with_reducible refine WkD.w_cons ?_ | ((with_reducible refine' WkD.w_isi2 ?ha ?hb ?_); (case ha => decide); (case hb => decide)) | with_reducible refine WkD.w_CB ?_ | with_reducible refine WkD.w_call ?_
  | with_reducible refine WkD.w_if ?_ | with_reducible refine WkD.w_andV ?_ | with_reducible refine WkD.w_orV ?_ | with_reducible refine WkD.w_notV ?_ | with_reducible refine WkD.w_test ?_ | with_reducible refine WkD.w_tB ?_ | with_reducible refine WkD.w_not ?_
  | with_reducible refine WkD.w_and ?_ | with_reducible refine WkD.w_or ?_ | with_reducible refine WkD.w_yes ?_ | with_reducible refine WkD.w_next ?_ | with_reducible refine WkD.w_seq ?_ | with_reducible refine WkD.w_ret ?_ | with_reducible refine WkD.w_retN ?_
  | with_reducible refine WkD.w_drop ?_ | with_reducible refine WkD.w_ifS ?_ | with_reducible refine WkD.w_asg ?_ | with_reducible refine WkD.w_sl ?_ | with_reducible refine WkD.w_po0 ?_ | with_reducible refine WkD.w_po1 ?_ | with_reducible refine WkD.e_si ?_ | with_reducible refine WkD.l_A ?_ | with_reducible refine WkD.l_L ?_ | with_reducible refine WkD.w_cont ?_ | with_reducible refine WkD.w_break ?_ | with_reducible refine WkD.w_gt2 ?_ | with_reducible refine WkD.w_gt3 ?_ | with_reducible refine WkD.w_gcons ?_ | with_reducible refine WkD.w_gnil ?_ | with_reducible refine WkD.w_name ?_ | with_reducible refine WkD.w_par ?_
  | with_reducible refine WkD.r_I0i ?_ | with_reducible refine WkD.r_I0b ?_ | with_reducible refine WkD.u_U ?_ | with_reducible refine WkD.r_eqI ?_ | with_reducible refine WkD.r_neI ?_ | with_reducible refine WkD.r_eqS ?_ | with_reducible refine WkD.r_eqB ?_
  | ((with_reducible refine' WkD.r_ix ?hi ?_); (case hi => exact rfl)) | ((with_reducible refine' WkD.r_ixl ?hi ?_); (case hi => exact rfl))
  | ((with_reducible refine' WkD.r_ixT ?hi ?_); (case hi => exact rfl)) | ((with_reducible refine' WkD.r_ixL ?hi ?_); (case hi => exact rfl))
  | with_reducible refine WkD.c_gcd ?_ | with_reducible refine WkD.c_abs ?_ | with_reducible refine WkD.c_int ?_ | with_reducible refine WkD.e_bool ?_ | with_reducible refine WkD.w_tup ?_ | with_reducible refine WkD.w_lst ?_ | with_reducible refine WkD.e_ab ?_ | with_reducible refine WkD.d0 ?_ | with_reducible refine WkD.d1 ?_ | with_reducible refine WkD.d2 ?_ | with_reducible refine WkD.d3 ?_ | with_reducible refine WkD.d4 ?_))



namespace K35
open PySem PySem.Spec PyProof.Rows L2 WkH WkE WkQ WkS WkF WkD
theorem rest_X {S : Type} {F : Eff S} {K : PySem.W.Frag} {n : S} {t : TS} {N : List Str} {vs : List V} {ds : List PyData} {out : PyData} {H1 : Hp} {Q : VK} (j1 : F.J n H1) (dq : DqAll K (F.st H1) vs ds)
    (hw : wS F K t (ds.map .dat ++ List.replicate (N.length - ds.length) .no) n { nx := fun _ m => m = n ∧ out = .none, rt := fun r m => m = n ∧ r = .dat out })
    (q : ∀ v H', F.J n H' → Same (F.st H1) (F.st H') → Dq K (F.st H') v out → Q v H') : t { nx := fun _ H' => Q .non H', rt := Q } (L2.start N vs) H1 := by
  refine hw (L2.start N vs) H1 _ j1 (RepS.start dq) ⟨fun σ' H' ρ' m p j s _ => ?_, fun v H' r m p j s rv => ?_, fun _ _ _ _ z => z.elim, fun _ _ _ _ z => z.elim⟩
  · obtain ⟨rfl, e⟩ := p
    exact q .non H' j s (by rw [e]; exact .non)
  · obtain ⟨rfl, rfl⟩ := p
    exact q v H' j s rv
section
variable {P : Program} {w : World} {K : PySem.W.Frag} {mg : Str → Option Value} {base : Heap}
open Classical in
noncomputable def boxOf (d : PyData) : List (Rat × Rat) := if h : ∃ b, d = boxD b then h.choose else []
open Classical in
noncomputable def frOf (d : PyData) : Rat := if h : ∃ r, d = frD r then h.choose else 0
theorem boxOf_eq (b : List (Rat × Rat)) : boxOf (boxD b) = b := by
  have h : ∃ c, boxD b = boxD c := ⟨b, rfl⟩
  unfold boxOf
  rw [dif_pos h]
  exact (boxD_inj h.choose_spec).symm
theorem frOf_eq (r : Rat) : frOf (frD r) = r := by
  have h : ∃ s, frD r = frD s := ⟨r, rfl⟩
  unfold frOf
  rw [dif_pos h]
  exact (frD_inj h.choose_spec).symm
/-- a box that is one is over some bases -/
def Szd (d : PyData) : Prop := ∀ b, d = boxD b → IsBox b → ∃ A S, SzB A S b
theorem none2 {d0 d1 : PyData} (h : bad2 (d0, d1) = none) : ∃ b c, d0 = boxD b ∧ d1 = frD c ∧ IsBox b ∧ 0 < c := by
  unfold bad2 badBox at h
  by_cases h0 : isBox d0 = true
  · rw [if_pos h0] at h
    obtain ⟨b, e, hb⟩ := isBox_ex h0
    by_cases h1 : isCost d1 = true
    · have h1' : isFr d1 = true ∧ posD d1 = true := by simpa [isCost] using h1
      obtain ⟨c, rfl⟩ := isFr_ex h1'.1
      rw [posD_fr] at h1'
      exact ⟨b, c, e, rfl, hb, of_decide_eq_true h1'.2⟩
    · simp [h1] at h
  · rw [if_neg h0] at h
    cases h
theorem none3 {d0 d1 d2 : PyData} (h : bad3 (d0, d1, d2) = none) : ∃ b c x, d0 = boxD b ∧ d1 = frD c ∧ d2 = frD x ∧ IsBox b ∧ 0 < c := by
  unfold bad3 at h
  cases e : bad2 (d0, d1) with
  | some z =>
    simp only [e] at h
    cases h
  | none =>
    simp only [e] at h
    by_cases h2 : isFr d2 = true
    · obtain ⟨x, rfl⟩ := isFr_ex h2
      obtain ⟨b, c, e0, e1, hb, hc⟩ := none2 e
      exact ⟨b, c, x, e0, e1, rfl, hb, hc⟩
    · simp [h2] at h
theorem none4 {d0 d1 d2 d3 : PyData} (h : bad4 (d0, d1, d2, d3) = none) : ∃ b c x, ∃ k : Nat, d0 = boxD b ∧ d1 = frD c ∧ d2 = frD x ∧ d3 = .int k ∧ IsBox b ∧ 0 < c ∧ k ≤ 12 := by
  unfold bad4 at h
  cases e : bad3 (d0, d1, d2) with
  | some z =>
    simp only [e] at h
    cases h
  | none =>
    simp only [e] at h
    by_cases h2 : isWithin d3 0 12 = true
    · obtain ⟨b, c, x, e0, e1, e2, hb, hc⟩ := none3 e
      cases d3 <;> simp [isWithin] at h2
      rename_i i
      refine ⟨b, c, x, i.toNat, e0, e1, e2, ?_, hb, hc, by omega⟩
      have : ((i.toNat : Nat) : Int) = i := by omega
      rw [this]
    · simp [h2] at h
/-- some worth is at least the bar -/
theorem bar_reached {b : List (Rat × Rat)} {c : Rat} (hb : IsBox b) (hc : 0 < c) : ∃ q ∈ b, ¬ q.1 < K35M.barR b c := by
  have g := K35M.barR_gain hb.pos hb.one hb.up hc hb.l1
  rw [K35M.gain_eq hb.one] at g
  obtain ⟨q, hq, h⟩ := K35M.some_above (x := K35M.barR b c) hb.pos (by grind)
  exact ⟨q, hq, by grind⟩
abbrev o4 : Bits 4000 1 := ⟨by decide +kernel, by decide +kernel⟩
noncomputable def out_bar (q : PyData × PyData) : PyData := frD (K35M.barR (boxOf q.1) (frOf q.2))
noncomputable def out_search_worth (q : PyData × PyData × PyData) : PyData := frD (K35M.mx (frOf q.2.2) (K35M.barR (boxOf q.1) (frOf q.2.1)))
noncomputable def meanR (b : List (Rat × Rat)) (c : Rat) : Rat := 1 / K35M.chance (b.filter fun q => !decide (q.1 < K35M.barR b c))
noncomputable def out_mean_draws (q : PyData × PyData) : PyData := frD (meanR (boxOf q.1) (frOf q.2))
abbrev sp_bar : Sp := spX K enc2 (fun q => sm2 q ∧ Szd q.1) out_bar bad2
abbrev sp_search_worth : Sp := spX K enc3 (fun q => sm3 q ∧ Szd q.1) out_search_worth bad3
abbrev sp_mean_draws : Sp := spX K enc2 (fun q => sm2 q ∧ Szd q.1) out_mean_draws bad2
/-- one base X for the worths, the sure worth, the cost; S for the chances -/
structure Base (A S : Nat) (b : List (Rat × Rat)) (c x : Rat) (X : Nat) : Prop where
  z : SzB A S b
  hX : X < 2 ^ 400
  pX : 0 < X
  dA : A ∣ X
  dx : x.den ∣ X
  dc : c.den ∣ X
  ix : In X (2 ^ 100) x
  ic : In X (2 ^ 100) c
theorem in_of_bits {k : Nat} {r : Rat} (h : Bits k r) : In r.den (2 ^ k) r := by
  have hd := r.den_pos
  have e := mul_den r
  have dp : (0 : Rat) < (r.den : Rat) := Rat.natCast_pos.mpr hd
  have hn := h.n
  have key : ∀ {s M : Rat}, s * (r.den : Rat) ≤ M → 0 ≤ M → s ≤ M := fun {s M} h1 h2 => by
    refine Classical.byContradiction fun n => ?_
    have l1 : M < s := by grind
    have l2 : M * (r.den : Rat) < s * (r.den : Rat) := Rat.mul_lt_mul_of_pos_right l1 dp
    have l3 : (1 : Rat) ≤ (r.den : Rat) := by
      have : ((1 : Nat) : Rat) ≤ (r.den : Rat) := Rat.natCast_le_natCast.mpr hd
      exact this
    have l4 : M * 1 ≤ M * (r.den : Rat) := Rat.mul_le_mul_of_nonneg_left l3 h2
    grind
  have M0 : (0 : Rat) ≤ ((2 ^ k : Nat) : Rat) := Rat.natCast_nonneg
  refine ⟨hd, Nat.dvd_refl _, ?_, ?_⟩
  · have : -r ≤ ((2 ^ k : Nat) : Rat) := key (s := -r) (M := ((2 ^ k : Nat) : Rat)) (by
      have e1 : -r * (r.den : Rat) = ((-r.num : Int) : Rat) := by
        rw [Rat.intCast_neg, ← e]
        grind
      rw [e1]
      exact nat_le.mpr (by omega)) M0
    grind
  · exact key (by rw [e]; exact nat_le.mpr (by omega)) M0
theorem base_ex {A S : Nat} {b : List (Rat × Rat)} {c x : Rat} (z : SzB A S b) (hx : Bits 100 x) (hc : Bits 100 c) : ∃ X, Base A S b c x X := by
  have d1 := x.den_pos
  have d2 := c.den_pos
  have h1 := hx.d
  have h2 := hc.d
  have h3 := z.hA
  have pX : 0 < A * (x.den * c.den) := Nat.mul_pos z.pA (Nat.mul_pos d1 d2)
  have dx : x.den ∣ A * (x.den * c.den) := Nat.dvd_trans (Nat.dvd_mul_right _ _) (Nat.dvd_mul_left _ _)
  have dc : c.den ∣ A * (x.den * c.den) := Nat.dvd_trans (Nat.dvd_mul_left _ _) (Nat.dvd_mul_left _ _)
  refine ⟨A * (x.den * c.den), z, ?_, pX, Nat.dvd_mul_right _ _, dx, dc, (in_of_bits hx).mono pX dx (Nat.le_refl _), (in_of_bits hc).mono pX dc (Nat.le_refl _)⟩
  have e1 : x.den * c.den ≤ 2 ^ 100 * 2 ^ 100 := Nat.mul_le_mul (Nat.le_of_lt h1) (Nat.le_of_lt h2)
  have e2 : A * (x.den * c.den) ≤ A * (2 ^ 100 * 2 ^ 100) := Nat.mul_le_mul_left _ e1
  have e3 : A * (2 ^ 100 * 2 ^ 100) < 2 ^ 200 * (2 ^ 100 * 2 ^ 100) := Nat.mul_lt_mul_of_pos_right h3 (by decide)
  exact Nat.lt_of_le_of_lt e2 (Nat.lt_of_lt_of_le e3 (by decide))
section
variable {A S : Nat} {b : List (Rat × Rat)} {c x : Rat} {X i : Nat} (B : Base A S b c x X)
include B
theorem Base.pos (i : Nat) : 0 < X * S ^ i := Nat.mul_pos B.pX (Nat.pow_pos B.z.pS)
theorem Base.small (h : i ≤ 13) : X * S ^ i < 2 ^ 1900 := by
  have e1 : S ^ i ≤ (2 ^ 40) ^ i := Nat.pow_le_pow_left (Nat.le_of_lt B.z.hS) i
  have e2 : (2 ^ 40) ^ i ≤ (2 ^ 40) ^ 13 := Nat.pow_le_pow_right (by decide) h
  have e3 : X * S ^ i ≤ 2 ^ 400 * (2 ^ 40) ^ 13 := Nat.mul_le_mul (Nat.le_of_lt B.hX) (Nat.le_trans e1 e2)
  exact Nat.lt_of_le_of_lt e3 (by decide +kernel)
theorem Base.up {M : Nat} {r : Rat} (h : In X M r) (hM : M ≤ 2 ^ 200) : In (X * S ^ i) (2 ^ (200 + 6 * i)) r :=
  h.mono (B.pos i) (Nat.dvd_mul_right _ _) (Nat.le_trans hM (Nat.pow_le_pow_right (by decide) (by omega)))
theorem Base.worth0 {q : Rat × Rat} (h : q ∈ b) : In X (2 ^ 200) q.1 := (B.z.w q h).mono B.pX B.dA (Nat.le_refl _)
theorem Base.worth {q : Rat × Rat} (h : q ∈ b) : In (X * S ^ i) (2 ^ (200 + 6 * i)) q.1 := B.up (B.worth0 h) (Nat.le_refl _)
theorem Base.step {f : Rat → Rat} (h : ∀ q ∈ b, In (X * S ^ i) (2 ^ (200 + 6 * i)) (f q.1)) (hi : i ≤ 12) :
    In (S * (X * S ^ i)) (32 * 2 ^ (200 + 6 * i)) (K35M.mean f b) ∧ In (X * S ^ (i + 1)) (2 ^ (200 + 6 * (i + 1))) (K35M.mean f b - c) := by
  have m := (B.z.means (g := f) (B.small (by omega)) (Nat.pow_le_pow_right (by decide) (by omega)) (B.pos i) h).2
  have e0 : S * (X * S ^ i) = X * S ^ (i + 1) := by rw [Nat.pow_succ, Nat.mul_comm S, Nat.mul_assoc]
  have m' : In (S * (X * S ^ i)) (32 * 2 ^ (200 + 6 * i)) (K35M.mean f b) := m.mono (Nat.mul_pos B.z.pS (B.pos i)) (Nat.dvd_refl _) (Nat.mul_le_mul_right _ B.z.l)
  refine ⟨m', ?_⟩
  rw [e0] at m'
  have ic : In (X * S ^ (i + 1)) (2 ^ (200 + 6 * i)) c := B.ic.mono (B.pos _) (Nat.dvd_mul_right _ _) (Nat.pow_le_pow_right (by decide) (by omega))
  refine (m'.sub ic).mono (B.pos _) (Nat.dvd_refl _) ?_
  have e1 : 2 ^ (200 + 6 * (i + 1)) = 64 * 2 ^ (200 + 6 * i) := by
    have : 200 + 6 * (i + 1) = (200 + 6 * i) + 6 := by omega
    rw [this, Nat.pow_add, Nat.mul_comm]
  rw [e1]
  generalize 2 ^ (200 + 6 * i) = y
  omega
theorem Base.N (hi : i ≤ 13 := by omega) : In (X * S ^ i) (2 ^ (200 + 6 * i)) (K35M.N b c x i) := by
  induction i with
  | zero => exact B.up (i := 0) B.ix (by decide)
  | succ i ih =>
    exact in_mx (B.up B.ix (by decide)) (B.step (f := fun w => K35M.mx (K35M.N b c x i) w) (fun q hq => in_mx (ih (by omega)) (B.worth hq)) (by omega)).2
theorem Base.meanN (hi : i ≤ 12 := by omega) : In (S * (X * S ^ i)) (32 * 2 ^ (200 + 6 * i)) (K35M.mean (fun w => K35M.mx (K35M.N b c x i) w) b) := (B.step (f := fun w => K35M.mx (K35M.N b c x i) w) (fun q hq => in_mx (B.N (by omega)) (B.worth hq)) hi).1
theorem Base.gainN (hi : i ≤ 12 := by omega) : In (X * S ^ (i + 1)) (2 ^ (200 + 6 * (i + 1))) (K35M.mean (fun w => K35M.mx (K35M.N b c x i) w) b - c) := (B.step (f := fun w => K35M.mx (K35M.N b c x i) w) (fun q hq => in_mx (B.N (by omega)) (B.worth hq)) hi).2
theorem Base.V (hi : i ≤ 13 := by omega) : ∀ {m : Rat}, In X (2 ^ 200) m → In (X * S ^ i) (2 ^ (200 + 6 * i)) (K35M.V b c i m) := by
  induction i with
  | zero => exact fun h => B.up (i := 0) h (by decide)
  | succ i ih =>
    intro m h
    exact in_mx (B.up h (by decide)) (B.step (f := fun w => K35M.V b c i (K35M.mx m w)) (fun q hq => ih (by omega) (in_mx h (B.worth0 hq))) (by omega)).2
end
open Classical in
noncomputable def natOf (d : PyData) : Nat := match d with
  | .int i => i.toNat
  | _ => 0
theorem natOf_eq (k : Nat) : natOf (.int (k : Int)) = k := Int.toNat_natCast k
noncomputable def out_few_without (q : PyData × PyData × PyData × PyData) : PyData := frD (K35M.N (boxOf q.1) (frOf q.2.1) (frOf q.2.2.1) (natOf q.2.2.2))
abbrev sp_few_without : Sp := spX K enc4 (fun q => sm4 q ∧ Szd q.1) out_few_without bad4
 
 theorem sc_bar : FnScope ["box", "cost"] ["box", "cost"] d_bar.sco := ⟨rfl, rfl, rfl, by decide +kernel, rfl, by decide +kernel, by decide +kernel⟩
theorem ok_bar {fd : FuncData} (F : Stands K d_bar fd) (Fc : Fn P w K mg base (L2.CX P w) 6 "check_search" ["box", "cost"] (spCheck_check_search (K := K))) (Fa : Fn P w K mg base CX0 4 "bar_of" ["box", "cost"] (spBarOf (K := K))) : FnOk P w K mg base (L2.CX P w) 7 d_bar.adr fd ["box", "cost"] (sp_bar (K := K)) := by
  refine FunD.ok F sc_bar (fun vs H Q E h => len_X h fun _ => rfl) (fun cdv A outer s H vs Q E hr h => ⟨_, (pss_cons (ps_expr (pe_fnX Fc (passes_call (takes_of rfl rfl rfl rfl) (fun _ _ _ _ h => h)) hr rfl (pa_cons (pv 0) (pa_cons (pv 1) pa_nil))))
  (pss_one (ps_ret (pe_fn Fa hr rfl (pa_cons (pv 0) (pa_cons (pv 1) pa_nil)))))), ?_⟩)
  obtain ⟨S, F, n, ⟨d0, d1⟩, jn, dq, hp, hok, hbad⟩ := h
  obtain ⟨v0, v1, rfl, q0, q1⟩ := dq2 dq
  obtain ⟨hsm, hz⟩ := hp
  try dsimp only [cxOf]
  with_reducible refine e_seq ?_
  with_reducible refine e_drop ?_
  with_reducible refine e_call ?_
  walk_at "go"
  refine ⟨S, F, n, (d0, d1), jn, .cons (q0) (.cons (q1) (.nil)), hsm, fun hb _ H1 j1 s1 _ => ?_, hbad⟩
  dsimp only
  refine rest_X (F := F) (n := n) (out := out_bar (d0, d1)) j1 (.cons (q0.mono s1) (.cons (q1.mono s1) (.nil))) ?_ fun v H' j' s' rv => hok hb v H' j' (s1.trans s') rv
  obtain ⟨b, c, rfl, rfl, hb, hc⟩ := none2 hb
  obtain ⟨A, S, z⟩ := hz b rfl hb
  have hcb : Bits 400 c := (small_fr hsm.2).mono (by decide)
  rw [out_bar, boxOf_eq, frOf_eq]
  walk_at "gd"
  refine c_fn (enc := boxR) (b, c) ⟨hb, ⟨A, S, z⟩, hcb⟩ ?_
  exact ⟨rfl, rfl⟩
 
 theorem sc_search_worth : FnScope ["box", "cost", "worth"] ["box", "cost", "worth"] d_search_worth.sco := ⟨rfl, rfl, rfl, by decide +kernel, rfl, by decide +kernel, by decide +kernel⟩
theorem ok_search_worth {fd : FuncData} (F : Stands K d_search_worth fd) (Fc : Fn P w K mg base (L2.CX P w) 7 "check_search_worth" ["box", "cost", "worth"] (spCheck_check_search_worth (K := K))) (Fa : Fn P w K mg base CX0 4 "bar_of" ["box", "cost"] (spBarOf (K := K))) (Fg : Fn P w K mg base CX0 3 "greatest" ["fractions"] (spGreatest (K := K))) : FnOk P w K mg base (L2.CX P w) 8 d_search_worth.adr fd ["box", "cost", "worth"] (sp_search_worth (K := K)) := by
  refine FunD.ok F sc_search_worth (fun vs H Q E h => len_X h fun _ => rfl) (fun cdv A outer s H vs Q E hr h => ⟨_, (pss_cons (ps_expr (pe_fnX Fc (passes_call (takes_of rfl rfl rfl rfl) (fun _ _ _ _ h => h)) hr rfl (pa_cons (pv 0) (pa_cons (pv 1) (pa_cons (pv 2) pa_nil)))))
  (pss_one (ps_ret (pe_fn Fg hr rfl (pa_cons (pe_lst (pa_cons (pv 2) (pa_cons (pe_fn Fa hr rfl (pa_cons (pv 0) (pa_cons (pv 1) pa_nil))) pa_nil))) pa_nil))))), ?_⟩)
  obtain ⟨S, F, n, ⟨d0, d1, d2⟩, jn, dq, hp, hok, hbad⟩ := h
  obtain ⟨v0, v1, v2, rfl, q0, q1, q2⟩ := dq3 dq
  obtain ⟨hsm, hz⟩ := hp
  try dsimp only [cxOf]
  with_reducible refine e_seq ?_
  with_reducible refine e_drop ?_
  with_reducible refine e_call ?_
  walk_at "go"
  refine ⟨S, F, n, (d0, d1, d2), jn, .cons (q0) (.cons (q1) (.cons (q2) (.nil))), hsm, fun hb _ H1 j1 s1 _ => ?_, hbad⟩
  dsimp only
  refine rest_X (F := F) (n := n) (out := out_search_worth (d0, d1, d2)) j1 (.cons (q0.mono s1) (.cons (q1.mono s1) (.cons (q2.mono s1) (.nil)))) ?_ fun v H' j' s' rv => hok hb v H' j' (s1.trans s') rv
  obtain ⟨b, c, x, rfl, rfl, rfl, hb, hc⟩ := none3 hb
  obtain ⟨A, S, z⟩ := hz b rfl hb
  have hcb : Bits 400 c := (small_fr hsm.2.1).mono (by decide)
  rw [out_search_worth, boxOf_eq, frOf_eq, frOf_eq]
  walk_at "gd"
  refine c_fn (enc := boxR) (b, c) ⟨hb, ⟨A, S, z⟩, hcb⟩ ?_
  walk_at "gd"
  refine c_fn (enc := listR) [x, K35M.barR b c] ⟨by simp, fun r hr => ?_⟩ ?_
  · rcases List.mem_cons.mp hr with rfl | hr
    · exact (small_fr hsm.2.2).mono (by decide)
    · rcases List.mem_cons.mp hr with rfl | hr
      · exact (barAt_bits z hcb hb.pos (by have := hb.l1; omega)).mono (by decide)
      · cases hr
  exact ⟨rfl, by rw [greatest2]⟩
 
 theorem sc_mean_draws : FnScope ["box", "cost", "number", "worth", "chance"] ["box", "cost"] d_mean_draws.sco := ⟨rfl, rfl, rfl, by decide +kernel, rfl, by decide +kernel, by decide +kernel⟩
theorem ok_mean_draws {fd : FuncData} (F : Stands K d_mean_draws fd) (Fc : Fn P w K mg base (L2.CX P w) 6 "check_search" ["box", "cost"] (spCheck_check_search (K := K))) (T : Bg K mg) (Fa : Fn P w K mg base CX0 4 "bar_of" ["box", "cost"] (spBarOf (K := K))) (Fs : Fn P w K mg base CX0 3 "sum_of" ["fractions"] (spSum (K := K))) (Fd : Fn P w K mg base CX0 2 "divide" ["one", "other"] (spDivide (K := K))) (Fb : Fn P w K mg base CX0 1 "is_below" ["one", "other"] (spBelow (K := K))) : FnOk P w K mg base (L2.CX P w) 7 d_mean_draws.adr fd ["box", "cost"] (sp_mean_draws (K := K)) := by
  refine FunD.ok F sc_mean_draws (fun vs H Q E h => len_X h fun _ => rfl) (fun cdv A outer s H vs Q E hr h => ⟨_, (pss_cons (ps_expr (pe_fnX Fc (passes_call (takes_of rfl rfl rfl rfl) (fun _ _ _ _ h => h)) hr rfl (pa_cons (pv 0) (pa_cons (pv 1) pa_nil))))
  (pss_cons (ps_set (i := 2) sc_mean_draws.nd rfl (by first | exact Or.inl rfl | exact Or.inr rfl) (pe_fn Fa hr rfl (pa_cons (pv 0) (pa_cons (pv 1) pa_nil))))
  (pss_one (ps_ret (pe_fn Fd hr rfl (pa_cons (pe_glob (v := .ref 154) rfl T.ONE rfl) (pa_cons (pe_fn Fs hr rfl (pa_cons (pe_lc (own := [("worth", 3), ("chance", 4)]) (g := (gTup K 2 (gCons (gName 3) (gCons (gName 4) gNil)))) rfl sc_mean_draws.nd (pi_tup (pv 0)) (blkOk_by (own := [("worth", 3), ("chance", 4)]) (N := ["box", "cost", "number", "worth", "chance"]) (sc := d_mean_draws.sco) (by decide +kernel)) (fun _ _ _ _ _ => (pg_tup rfl (pgs_cons (pg_name (i := 3) sc_mean_draws.nd rfl (by first | exact Or.inl rfl | exact Or.inr rfl)) (pgs_cons (pg_name (i := 4) sc_mean_draws.nd rfl (by first | exact Or.inl rfl | exact Or.inr rfl)) pgs_nil)))) (fun _ _ _ _ _ => pts_one (pt_not (pt_val (pe_fn Fb hr rfl (pa_cons (pv 3) (pa_cons (pv 2) pa_nil)))))) (fun _ _ _ _ _ => (pv 4))) pa_nil)) pa_nil))))))), ?_⟩)
  obtain ⟨S, F, n, ⟨d0, d1⟩, jn, dq, hp, hok, hbad⟩ := h
  obtain ⟨v0, v1, rfl, q0, q1⟩ := dq2 dq
  obtain ⟨hsm, hz⟩ := hp
  try dsimp only [cxOf]
  with_reducible refine e_seq ?_
  with_reducible refine e_drop ?_
  with_reducible refine e_call ?_
  walk_at "go"
  refine ⟨S, F, n, (d0, d1), jn, .cons (q0) (.cons (q1) (.nil)), hsm, fun hb _ H1 j1 s1 _ => ?_, hbad⟩
  dsimp only
  refine rest_X (F := F) (n := n) (out := out_mean_draws (d0, d1)) j1 (.cons (q0.mono s1) (.cons (q1.mono s1) (.nil))) ?_ fun v H' j' s' rv => hok hb v H' j' (s1.trans s') rv
  obtain ⟨b, c, rfl, rfl, hb, hc⟩ := none2 hb
  obtain ⟨A, S, z⟩ := hz b rfl hb
  have hcb : Bits 400 c := (small_fr hsm.2).mono (by decide)
  rw [out_mean_draws, boxOf_eq, frOf_eq]
  have bB : Bits 4000 (K35M.barR b c) := (barAt_bits z hcb hb.pos (by have := hb.l1; omega)).mono (by decide)
  have l2 := hb.l2
  walk_at "gd"
  refine c_fn (enc := boxR) (b, c) ⟨hb, ⟨A, S, z⟩, hcb⟩ ?_
  walk_at "gd"
  refine w_con T.one ?_
  walk_at "gd"
  refine w_lcT ?_ (sets_two (by decide) (by decide))
  walk_at "gd"
  refine ⟨_, rfl, by rw [List.length_map]; omega, made_if (xs := b) (enc := rowD) (keep := fun q => !decide (q.1 < K35M.barR b c)) (out := fun q => frD q.2) (fun D ys i q hq => ?_) ?_⟩
  · have hq' := List.mem_of_getElem? hq
    walk_at "gd"
    refine c_fn (enc := twoR) (q.1, K35M.barR b c) ⟨(z.w4 hq').mono (by decide), bB⟩ ?_
    walk_at "gd"
    refine ⟨rfl, fun _ => ?_, fun _ => rfl⟩
    walk_at "gd"
    exact ⟨rfl, rfl⟩
  walk_at "gd"
  have z' : SzB A S (b.filter fun q => !decide (q.1 < K35M.barR b c)) := z.sub (fun q hq => (List.mem_filter.mp hq).1) (List.length_filter_le _ _)
  refine c_fnE (enc := listR) ((b.filter fun q => !decide (q.1 < K35M.barR b c)).map (·.2)) (by rw [listR, List.map_map]; rfl) z'.sums.1 ?_
  rw [sum_chance]
  walk_at "gd"
  refine c_fn (enc := twoR) (1, _) ⟨o4, z'.sums.2.mono (by decide), ?_⟩ ?_
  · obtain ⟨q, hq, hl⟩ := bar_reached hb hc
    exact chance_num (fun r hr => hb.pos r (List.mem_filter.mp hr).1) (List.ne_nil_of_mem (List.mem_filter.mpr ⟨hq, by simpa using hl⟩))
  exact ⟨rfl, rfl⟩
 
 theorem sc_few_without : FnScope ["box", "cost", "worth", "count", "number", "_"] ["box", "cost", "worth", "count"] d_few_without.sco := ⟨rfl, rfl, rfl, by decide +kernel, rfl, by decide +kernel, by decide +kernel⟩
theorem ok_few_without {fd : FuncData} (F : Stands K d_few_without fd) (Fc : Fn P w K mg base (L2.CX P w) 8 "check_draws" ["box", "cost", "worth", "count"] (spCheck_check_draws (K := K))) (T : Bg K mg) (Fy : Fn P w K mg base CX0 4 "drawn_by" ["box", "worth"] (spDrawn (K := K))) (Fu : Fn P w K mg base CX0 2 "subtract" ["one", "other"] (spSubtract (K := K))) (Fg : Fn P w K mg base CX0 3 "greatest" ["fractions"] (spGreatest (K := K))) : FnOk P w K mg base (L2.CX P w) 9 d_few_without.adr fd ["box", "cost", "worth", "count"] (sp_few_without (K := K)) := by
  refine FunD.ok F sc_few_without (fun vs H Q E h => len_X h fun _ => rfl) (fun cdv A outer s H vs Q E hr h => ⟨_, (pss_cons (ps_expr (pe_fnX Fc (passes_call (takes_of rfl rfl rfl rfl) (fun _ _ _ _ h => h)) hr rfl (pa_cons (pv 0) (pa_cons (pv 1) (pa_cons (pv 2) (pa_cons (pv 3) pa_nil))))))
  (pss_cons (ps_set (i := 4) sc_few_without.nd rfl (by first | exact Or.inl rfl | exact Or.inr rfl) (pv 2))
  (pss_cons (ps_for (passes_of rfl) rfl (pi_range1 rfl T.range (pa_cons (pv 3) pa_nil)) (pg_name (i := 5) sc_few_without.nd rfl (by first | exact Or.inl rfl | exact Or.inr rfl)) (pss_one (ps_set (i := 4) sc_few_without.nd rfl (by first | exact Or.inl rfl | exact Or.inr rfl) (pe_fn Fg hr rfl (pa_cons (pe_lst (pa_cons (pv 2) (pa_cons (pe_fn Fu hr rfl (pa_cons (pe_fn Fy hr rfl (pa_cons (pv 0) (pa_cons (pv 4) pa_nil))) (pa_cons (pv 1) pa_nil))) pa_nil))) pa_nil)))))
  (pss_one (ps_ret (pv 4)))))), ?_⟩)
  obtain ⟨S, F, n, ⟨d0, d1, d2, d3⟩, jn, dq, hp, hok, hbad⟩ := h
  obtain ⟨v0, v1, v2, v3, rfl, q0, q1, q2, q3⟩ := dq4 dq
  obtain ⟨hsm, hz⟩ := hp
  try dsimp only [cxOf]
  with_reducible refine e_seq ?_
  with_reducible refine e_drop ?_
  with_reducible refine e_call ?_
  walk_at "go"
  refine ⟨S, F, n, (d0, d1, d2, d3), jn, .cons (q0) (.cons (q1) (.cons (q2) (.cons (q3) (.nil)))), hsm, fun hb _ H1 j1 s1 _ => ?_, hbad⟩
  dsimp only
  refine rest_X (F := F) (n := n) (out := out_few_without (d0, d1, d2, d3)) j1 (.cons (q0.mono s1) (.cons (q1.mono s1) (.cons (q2.mono s1) (.cons (q3.mono s1) (.nil))))) ?_ fun v H' j' s' rv => hok hb v H' j' (s1.trans s') rv
  obtain ⟨b, c, x, k, rfl, rfl, rfl, rfl, hb, hc, hk⟩ := none4 hb
  obtain ⟨A, S, z⟩ := hz b rfl hb
  have hcb : Bits 400 c := (small_fr hsm.2.1).mono (by decide)
  rw [out_few_without, boxOf_eq, frOf_eq, frOf_eq, natOf_eq]
  have k12 : k ≤ 12 := hk
  have hx := small_fr hsm.2.2.1
  have hc1 := small_fr hsm.2.1
  obtain ⟨X, B⟩ := base_ex z hx hc1
  walk_at "gd"
  refine w_forR1 ?_
  walk_at "gd"
  refine ⟨_, rfl, by omega, by omega, ?_⟩
  rw [Int.toNat_natCast]
  refine ⟨fun i ρ m => m = n ∧ ∃ e, ρ = [.dat (boxD b), .dat (frD c), .dat (frD x), .dat (.int k), .dat (frD (K35M.N b c x i)), e], ⟨rfl, _, rfl⟩, fun i d ρ m hi hI => ?_, fun ρ m hI => ?_⟩
  · obtain ⟨rfl, e, rfl⟩ := hI
    have li : i < k := by
      have := (List.getElem?_eq_some_iff.mp hi).1
      rwa [intsD_length] at this
    have hN := B.N (i := i)
    have e1 : X * S ^ i < 2 ^ 1900 := B.small (by omega)
    have e2 : 2 ^ (200 + 6 * i) ≤ 2 ^ 1500 := Nat.pow_le_pow_right (by decide) (by omega)
    walk_at "gd"
    refine c_fn (enc := boxR) (b, K35M.N b c x i) ⟨A, S, z, _, _, B.pos i, e1, e2, fun r hr => B.worth hr, hN⟩ ?_
    have hm := B.meanN (i := i)
    have e3 : S * (X * S ^ i) < 2 ^ 2000 := Nat.lt_of_le_of_lt (Nat.mul_le_mul (Nat.le_of_lt z.hS) (Nat.le_of_lt e1)) (by decide +kernel)
    have e4 : 32 * 2 ^ (200 + 6 * i) ≤ 2 ^ 1500 := Nat.le_trans (Nat.mul_le_mul_left 32 (Nat.pow_le_pow_right (by decide) (show 200 + 6 * i ≤ 272 by omega))) (by decide +kernel)
    walk_at "gd"
    refine c_fn (enc := twoR) (_, c) ⟨in4 hm e3 e4, hcb.mono (by decide)⟩ ?_
    walk_at "gd"
    refine c_fn (enc := listR) [x, K35M.mean (fun w => K35M.mx (K35M.N b c x i) w) b - c] ⟨by simp, fun r hr => ?_⟩ ?_
    · rcases List.mem_cons.mp hr with rfl | hr
      · exact hx.mono (by decide)
      · rcases List.mem_cons.mp hr with rfl | hr
        · exact in4 (B.gainN (i := i)) (Nat.lt_trans (B.small (by omega)) (by decide +kernel)) (Nat.pow_le_pow_right (by decide) (by omega))
        · cases hr
    rw [greatest2]
    walk_at "gd"
    exact ⟨rfl, _, rfl⟩
  · obtain ⟨rfl, e, rfl⟩ := hI
    rw [intsD_length]
    walk_at "gd"
    exact ⟨rfl, rfl⟩

end
end K35
/-! Local lists that change: each stands in a cell out of sight, its data known. -/
namespace WkD
open PySem PySem.Spec PyProof.Rows L2 WkH WkQ WkS WkF
theorem steady_fr (r : Rat) : steady (frD r) = true := rfl
section
variable {S : Type} {F : Eff S} {K : PySem.W.Frag} {H H' : Hp} {D : Addr}
theorem st_keeps (e : Keeps H H') : Keeps (F.st H) (F.st H') := fun a u st h => by
  unfold Eff.st at h ⊢
  split at h
  · cases h
  · rename_i z
    rw [if_neg z]
    exact e a u st h
theorem st_upd {o : HO} (h : F.own D) : F.st (upd H D o) = F.st H := by
  funext a
  unfold Eff.st
  split
  · rfl
  · rename_i z
    exact upd_ne fun y => z (y ▸ h)
/-- F, and the list at D, which is the state's second part -/
def Eff.cell (F : Eff S) (K : PySem.W.Frag) (D : Addr) : Eff (S × List PyData) where
  own := fun a => F.own a ∨ a = D
  J := fun s H => F.J s.1 H ∧ ¬ F.own D ∧ steadys s.2 = true ∧ ∃ ws, H D = some (.lst ws) ∧ DqAll K (F.st H) ws s.2
  at_ := fun {n H a} j h => by
    rcases h with h | h
    · exact F.at_ j.1 h
    · obtain ⟨_, _, _, ws, e, _⟩ := j
      rw [h, e]
      exact fun z => nomatch z
  loc := fun {n H H'} e kp j => by
    obtain ⟨j1, nD, st, ws, hD, dq⟩ := j
    exact ⟨F.loc (fun a h => e a (.inl h)) kp j1, nD, st, ws, (e D (.inr rfl)).trans hD, DqAll.keep (st_keeps kp) dq st⟩
theorem cell_sub : Same ((F.cell K D).st H) (F.st H) := fun a u h => by
  unfold Eff.st at h ⊢
  split at h
  · cases h
  · rename_i z
    rw [if_neg fun y => z (.inl y)]
    exact h
theorem cell_ne {a : Addr} (h : a ≠ D) : (F.cell K D).st H a = F.st H a := by
  unfold Eff.st
  by_cases z : F.own a
  · rw [if_pos z, if_pos (show (F.cell K D).own a from .inl z)]
  · rw [if_neg z, if_neg (show ¬ (F.cell K D).own a from fun y => y.elim z h)]
theorem cell_keeps {ws : List V} (h : H D = some (.lst ws)) : Keeps (F.st H) ((F.cell K D).st H) := fun a u st e => by
  have : a ≠ D := fun z => by
    subst z
    have := Eff.sub _ _ e
    rw [h] at this
    cases this
    rcases st with ⟨xs, z⟩ | ⟨o, v, z⟩ <;> cases z
  rw [cell_ne this]
  exact e
theorem cell_new {o : HO} (h : H D = none) : Same (F.st H) ((F.cell K D).st (upd H D o)) := fun a u e => by
  have : a ≠ D := ne_of_none (Eff.sub _ _ e) h
  rw [cell_ne this]
  unfold Eff.st at e ⊢
  split at e
  · cases e
  · rename_i z
    rw [if_neg z, upd_ne this]
    exact e
/-- the list at D among what is out of sight: its data, other data in its place -/
structure Lens (G : Eff S) (K : PySem.W.Frag) (D : Addr) (get : S → List PyData) (put : S → List PyData → S) : Prop where
  own : G.own D
  at_ : ∀ {s H}, G.J s H → ∃ ws, H D = some (.lst ws) ∧ DqAll K (G.st H) ws (get s) ∧ steadys (get s) = true
  set : ∀ {s H ws ds}, G.J s H → DqAll K (G.st H) ws ds → steadys ds = true → G.J (put s ds) (upd H D (.lst ws))
theorem Lens.cell : Lens (F.cell K D) K D (·.2) (fun s ds => (s.1, ds)) where
  own := .inr rfl
  at_ := fun {s H} j => by
    obtain ⟨_, _, st, ws, hD, dq⟩ := j
    exact ⟨ws, hD, DqAll.keep (cell_keeps hD) dq st, st⟩
  set := fun {s H ws ds} j dq st => by
    obtain ⟨j1, nD, _, ws', hD, _⟩ := j
    have kp : Keeps H (upd H D (.lst ws)) := Keeps.upd hD (fun _ z => nomatch z) fun _ _ z => nomatch z
    exact ⟨F.loc (fun a ha => upd_ne fun z => nD (z ▸ ha)) kp j1, nD, st, ws, upd_same, DqAll.keep (st_keeps kp) (dq.mono cell_sub) st⟩
theorem Lens.lift {G : Eff S} {D2 : Addr} {get : S → List PyData} {put : S → List PyData → S} (L : Lens G K D get put) : Lens (G.cell K D2) K D (fun s => get s.1) (fun s ds => (put s.1 ds, s.2)) where
  own := .inl L.own
  at_ := fun {s H} j => by
    obtain ⟨j1, nD, _, ws2, hD2, _⟩ := j
    obtain ⟨ws, hD, dq, st⟩ := L.at_ j1
    exact ⟨ws, hD, DqAll.keep (cell_keeps hD2) dq st, st⟩
  set := fun {s H ws ds} j dq st => by
    obtain ⟨j1, nD, st2, ws2, hD2, dq2⟩ := j
    have ne : D2 ≠ D := fun z => nD (z ▸ L.own)
    refine ⟨L.set j1 (dq.mono cell_sub) st, nD, st2, ws2, (upd_ne ne).trans hD2, ?_⟩
    rw [st_upd L.own]
    exact dq2
end
/-! ### entering a cell -/
def Po.cell {S : Type} (P : Po S) (D : Addr) (i : Nat) : Po (S × List PyData) where
  nx := fun ρ m => P.nx ρ m.1 ∨ (ρ[i]? = some (.raw (.ref D)) ∧ P.nx (ρ.set i (.dat (.list m.2))) m.1)
  rt := fun r m => P.rt r m.1 ∨ (r = .raw (.ref D) ∧ P.rt (.dat (.list m.2)) m.1)
  bk := fun ρ m => P.bk ρ m.1 ∨ (ρ[i]? = some (.raw (.ref D)) ∧ P.bk (ρ.set i (.dat (.list m.2))) m.1)
  ct := fun ρ m => P.ct ρ m.1 ∨ (ρ[i]? = some (.raw (.ref D)) ∧ P.ct (ρ.set i (.dat (.list m.2))) m.1)
theorem RepS.reset {K : PySem.W.Frag} {G : Hp} {σ : L2.St} {ρ : List Sl} {i : Nat} {v : V} {s : Sl} (h : RepS K G σ ρ) (e : ρ[i]? = some (.raw v)) (r : RepV K G v s) : RepS K G σ (ρ.set i s) := by
  obtain ⟨u, eu, ru⟩ := h.get e (fun z => nomatch z)
  obtain rfl : u = v := ru
  have es : σ.set i (some u) = σ := by
    refine List.ext_getElem? fun k => ?_
    rw [List.getElem?_set]
    by_cases z : i = k
    · subst z
      rw [eu]
      simp [(List.getElem?_eq_some_iff.mp eu).1]
    · simp [z]
  have := h.set i r
  rwa [es] at this
section
variable {S : Type} {F : Eff S} {K : PySem.W.Frag} {ρ : List Sl} {n : S} {Φ : Sl → S → Prop} {P : Po S} {ta te : TE} {ar : TA} {g : TG} {tb t : TS} {tt : TT} {vs : List Nat} {i : Nat}
theorem cell_list {D : Addr} {H' : Hp} {m : S × List PyData} (j : (F.cell K D).J m H') : Dq K (F.st H') (.ref D) (.list m.2) := by
  obtain ⟨_, nD, _, ws, hD, dq⟩ := j
  exact .lst (by rw [Eff.st_ne nD]; exact hD) dq
theorem Meets.cell {G : Hp} {H1 : Hp} {D : Addr} {E : Ends} (M : Meets F K G E P) (s : Same G ((F.cell K D).st H1)) : Meets (F.cell K D) K ((F.cell K D).st H1) E (P.cell D i) where
  nx := fun σ' H' ρ' m p j s' r => by
    have st := s.trans (s'.trans cell_sub)
    have r' := r.mono cell_sub
    rcases p with p | ⟨e, p⟩
    · exact M.nx σ' H' ρ' _ p j.1 st r'
    · exact M.nx σ' H' _ _ p j.1 st (r'.reset e (s := .dat (.list m.2)) (cell_list j))
  rt := fun v H' r m p j s' rv => by
    have st := s.trans (s'.trans cell_sub)
    rcases p with p | ⟨rfl, p⟩
    · exact M.rt v H' r _ p j.1 st (RepV.mono cell_sub rv)
    · obtain rfl : v = .ref D := rv
      exact M.rt _ H' (.dat (.list m.2)) _ p j.1 st (cell_list j)
  bk := fun σ' H' ρ' m p j s' r => by
    have st := s.trans (s'.trans cell_sub)
    have r' := r.mono cell_sub
    rcases p with p | ⟨e, p⟩
    · exact M.bk σ' H' ρ' _ p j.1 st r'
    · exact M.bk σ' H' _ _ p j.1 st (r'.reset e (s := .dat (.list m.2)) (cell_list j))
  ct := fun σ' H' ρ' m p j s' r => by
    have st := s.trans (s'.trans cell_sub)
    have r' := r.mono cell_sub
    rcases p with p | ⟨e, p⟩
    · exact M.ct σ' H' ρ' _ p j.1 st r'
    · exact M.ct σ' H' _ _ p j.1 st (r'.reset e (s := .dat (.list m.2)) (cell_list j))
/-- x = [..]; t: x is a cell in t -/
theorem w_cell (ha : wA F K ar ρ n fun rs m => ∃ ds : List PyData, rs = ds.map .dat ∧ ds.length ≤ 100000 ∧ steadys ds = true ∧ ∀ D, wS (F.cell K D) K t (ρ.set i (.raw (.ref D))) (m, ds) (P.cell D i)) : wS F K (tSeq (tAsg (tLst ar) (gName i)) t) ρ n P := fun σ H E j rp M =>
  ha σ H _ j rp fun us H1 rs m ⟨ds, e, hl, st, h⟩ j1 s1 ra => by
    subst e
    have dq := ra.dats
    refine ⟨sz _ (by rw [dq.length]; exact hl), fun D nD => ?_⟩
    have s2 : Same (F.st H1) ((F.cell K D).st (upd H1 D (.lst us))) := cell_new nD
    refine h D _ _ E ⟨Eff.keep (same_upd nD) j1, Eff.fresh j1 nD, st, us, upd_same, dq.mono (Eff.mono (same_upd nD))⟩ (((rp.mono s1).mono s2).set i (s := .raw (.ref D)) rfl) (Meets.cell M (s1.trans s2))
/-! ### what is done with a cell's list -/
section
variable {D : Addr} {get : S → List PyData} {put : S → List PyData → S}
theorem lens_ty (L : Lens F K D get put) {H : Hp} (j : F.J n H) : tyV K "list" (.ref D) H := by
  obtain ⟨ws, hD, _⟩ := L.at_ j
  exact .inl ⟨rfl, ws, SqL.of hD⟩
theorem steadys_len {ds : List PyData} {k : Nat} (h : ds.length ≤ k) : ds.length ≤ k := h
/-- x.append(e) -/
theorem w_app (L : Lens F K D get put) (hi : ρ[i]? = some (.raw (.ref D))) (h : wE F K te ρ n fun r m => ∃ d, r = .dat d ∧ steady d = true ∧ (get m).length < 100000 ∧ Φ (.dat .none) (put m (get m ++ [d]))) :
    wE F K (tBM K "list" rAppend (tVar i) (tCons te tNil)) ρ n Φ := fun σ H Q j rp q => by
  obtain ⟨v, ev, rv⟩ := rp.get hi (fun z => nomatch z)
  obtain rfl : v = .ref D := rv
  refine ⟨_, ev, lens_ty L j, ?_⟩
  refine h σ H _ j rp fun x H1 r m ⟨d, er, sd, hl, p⟩ j1 s1 rx => ?_
  subst er
  obtain ⟨ws, hD, dq, st⟩ := L.at_ j1
  refine ⟨D, ws, x, rfl, rfl, hD, sz (ws.length + 1) (by rw [dq.length]; omega), ?_⟩
  have e : F.st (upd H1 D (.lst (ws ++ [x]))) = F.st H1 := st_upd L.own
  exact q _ _ _ _ p (L.set j1 (dq.append (.cons rx .nil)) (steadys_append st (by simp [steadys, sd]))) (by rw [e]; exact s1) .non
/-- x.insert(e, d) -/
abbrev rInsert : V → List V → Hp → VK → Prop := fun x vs H Q => ∃ (l : Addr) (xs : List V) (i : Int) (y : V), x = .ref l ∧ vs = [.int i, y] ∧ H l = some (.lst xs) ∧ xs.length < sizeLine ∧ 0 ≤ i ∧ i < 2 ^ 63 ∧ Q .non (upd H l (.lst (xs.take i.toNat ++ [y] ++ xs.drop i.toNat)))
theorem steadys_take {ds : List PyData} (h : steadys ds = true) (k : Nat) : steadys (ds.take k) = true := steadys_of fun d hd => steadys_mem h (List.mem_of_mem_take hd)
theorem steadys_drop {ds : List PyData} (h : steadys ds = true) (k : Nat) : steadys (ds.drop k) = true := steadys_of fun d hd => steadys_mem h (List.mem_of_mem_drop hd)
theorem w_ins (L : Lens F K D get put) (hi : ρ[i]? = some (.raw (.ref D))) (h : wA F K ar ρ n fun rs m => ∃ (k : Nat) (d : PyData), rs = [.dat (.int k), .dat d] ∧ k < 2 ^ 62 ∧ steady d = true ∧ (get m).length < 100000 ∧ Φ (.dat .none) (put m ((get m).take k ++ [d] ++ (get m).drop k))) :
    wE F K (tBM K "list" rInsert (tVar i) ar) ρ n Φ := fun σ H Q j rp q => by
  obtain ⟨v, ev, rv⟩ := rp.get hi (fun z => nomatch z)
  obtain rfl : v = .ref D := rv
  refine ⟨_, ev, lens_ty L j, ?_⟩
  refine h σ H _ j rp fun xs H1 rs m ⟨k, d, er, hk, sd, hl, p⟩ j1 s1 rx => ?_
  subst er
  cases rx with
  | cons r1 rx =>
    cases rx with
    | @cons y _ _ _ r2 rx =>
      cases rx
      cases r1
      obtain ⟨ws, hD, dq, st⟩ := L.at_ j1
      refine ⟨D, ws, k, y, rfl, rfl, hD, sz (ws.length + 1) (by rw [dq.length]; omega), by omega, by omega, ?_⟩
      rw [Int.toNat_natCast]
      have e : F.st (upd H1 D (.lst (ws.take k ++ [y] ++ ws.drop k))) = F.st H1 := st_upd L.own
      exact q _ _ _ _ p (L.set j1 (((dq.take k).append (.cons r2 .nil)).append (dq.drop k)) (steadys_append (steadys_append (steadys_take st k) (by simp [steadys, sd])) (steadys_drop st k))) (by rw [e]; exact s1) .non
theorem DqAll.erase {G : Hp} : ∀ (k : Nat) {us : List V} {ds : List PyData}, DqAll K G us ds → DqAll K G (us.eraseIdx k) (ds.eraseIdx k)
  | _, _, _, .nil => .nil
  | 0, _, _, .cons _ h => h
  | k + 1, _, _, .cons h1 h2 => .cons h1 (DqAll.erase k h2)
theorem steadys_erase {ds : List PyData} (h : steadys ds = true) (k : Nat) : steadys (ds.eraseIdx k) = true := steadys_of fun d hd => steadys_mem h (List.mem_of_mem_eraseIdx hd)
/-- x.pop(e) -/
theorem w_popAt (L : Lens F K D get put) (hi : ρ[i]? = some (.raw (.ref D))) (h : wE F K te ρ n fun r m => ∃ (k : Nat) (d : PyData), r = .dat (.int k) ∧ k < 2 ^ 62 ∧ (get m)[k]? = some d ∧ Φ (.dat d) (put m ((get m).eraseIdx k))) :
    wE F K (tBM K "list" rPopAt (tVar i) (tCons te tNil)) ρ n Φ := fun σ H Q j rp q => by
  obtain ⟨v, ev, rv⟩ := rp.get hi (fun z => nomatch z)
  obtain rfl : v = .ref D := rv
  refine ⟨_, ev, lens_ty L j, ?_⟩
  refine h σ H _ j rp fun x H1 r m ⟨k, d, er, hk, hd, p⟩ j1 s1 rx => ?_
  subst er
  cases rx
  obtain ⟨ws, hD, dq, st⟩ := L.at_ j1
  obtain ⟨y, hy, ry⟩ := dq.get hd
  have lk := (List.getElem?_eq_some_iff.mp hy).1
  have e : F.st (upd H1 D (.lst (ws.eraseIdx k))) = F.st H1 := st_upd L.own
  refine ⟨D, ws, k, k, y, rfl, rfl, hD, by omega, by omega, ?_, hy, ?_⟩
  · unfold seqIndex?
    simp
    omega
  · refine q y _ _ _ p (L.set j1 (DqAll.erase k dq) (steadys_erase st k)) (by rw [e]; exact s1) (by show Dq K (F.st _) y d; rw [e]; exact ry)
/-- len(x) -/
theorem c_lenC (L : Lens F K D get put) (q : Φ (.dat (.int (get n).length)) n) : wC F K (fun xs H Q => ∃ p ys, xs = [V.ref p] ∧ (SqL K H p ys ∨ SqT K H p ys) ∧ Q (V.int ys.length) H) [.raw (.ref D)] n Φ := fun us H Q jn ra k => by
  cases ra with
  | cons r1 ra =>
    cases ra
    obtain rfl : _ = V.ref D := r1
    obtain ⟨ws, hD, dq, st⟩ := L.at_ jn
    refine ⟨D, ws, rfl, .inl (SqL.of hD), ?_⟩
    rw [dq.length]
    exact k _ H _ n q jn (Same.refl _) (.int _)
/-- x[j] -/
theorem r_ixC (L : Lens F K D get put) {j : Int} {d : PyData} (h : atI (get n) j = some d) (q : Φ (.dat d) n) : wR F K (rIx K) (.raw (.ref D)) (.dat (.int j)) n Φ := fun x y H Q jn rx ry k => by
  cases ry
  obtain rfl : x = V.ref D := rx
  obtain ⟨ws, hD, dq, st⟩ := L.at_ jn
  obtain ⟨v, hv, rv⟩ := dq.at_ h
  exact .inl ⟨D, ws, j, v, rfl, rfl, SqL.of hD, hv, k v H _ n q jn (Same.refl _) rv⟩
/-- F where the list at D stays as it is -/
def Eff.fix (F : Eff S) (K : PySem.W.Frag) (D : Addr) (ws : List V) (ds : List PyData) : Eff S where
  own := F.own
  J := fun s H => F.J s H ∧ F.own D ∧ H D = some (.lst ws) ∧ DqAll K (F.st H) ws ds ∧ steadys ds = true
  at_ := fun j h => F.at_ j.1 h
  loc := fun e kp j => ⟨F.loc e kp j.1, j.2.1, (e D j.2.1).trans j.2.2.1, DqAll.keep (st_keeps kp) j.2.2.2.1 j.2.2.2.2, j.2.2.2.2⟩
theorem fixE (L : Lens F K D get put) (h : ∀ ws, wE (F.fix K D ws (get n)) K te ρ n Φ) : wE F K te ρ n Φ := fun σ H Q j rp q => by
  obtain ⟨ws, hD, dq, st⟩ := L.at_ j
  exact h ws σ H Q ⟨j, L.own, hD, dq, st⟩ rp fun v H' r m p j' s' rv => q v H' r m p j'.1 s' rv
theorem fixS (L : Lens F K D get put) (h : ∀ ws, wS (F.fix K D ws (get n)) K t ρ n P) : wS F K t ρ n P := fun σ H E j rp M => by
  obtain ⟨ws, hD, dq, st⟩ := L.at_ j
  exact h ws σ H E ⟨j, L.own, hD, dq, st⟩ rp ⟨fun σ' H' ρ' m p j' s r => M.nx σ' H' ρ' m p j'.1 s r, fun v H' r m p j' s rv => M.rt v H' r m p j'.1 s rv, fun σ' H' ρ' m p j' s r => M.bk σ' H' ρ' m p j'.1 s r, fun σ' H' ρ' m p j' s r => M.ct σ' H' ρ' m p j'.1 s r⟩
theorem fix_lens {D2 : Addr} {get2 : S → List PyData} {put2 : S → List PyData → S} {ws : List V} {ds : List PyData} (L : Lens F K D2 get2 put2) (ne : ∀ {s H}, F.J s H → D ≠ D2) : Lens (F.fix K D ws ds) K D2 get2 put2 where
  own := L.own
  at_ := fun j => L.at_ j.1
  set := fun {s H us es} j dq st => by
    obtain ⟨j1, oD, hD, dqD, stD⟩ := j
    have e : F.st (upd H D2 (.lst us)) = F.st H := st_upd L.own
    exact ⟨L.set j1 dq st, oD, (upd_ne (ne j1)).trans hD, by rw [e]; exact dqD, stD⟩
theorem w_forF {ws : List V} {ds : List PyData} (hi : ρ[i]? = some (.raw (.ref D))) (L : Loop (F.fix K D ws ds) K ds g tb ρ n P) : wS (F.fix K D ws ds) K (tFor (iList K (tVar i)) g tb) ρ n P := fun σ H E j rp M => by
  obtain ⟨v, ev, rv⟩ := rp.get hi (fun z => nomatch z)
  obtain rfl : v = .ref D := rv
  have hD := j.2.2.1
  have ha := j.2.2.2.1
  obtain ⟨I, h0, hs, hd⟩ := L
  refine ⟨_, ev, _, rfl, ⟨_, SqL.of hD⟩, ?_⟩
  refine for_list (xs := ws) (fun i σ' H' => ∃ ρ' k, I i ρ' k ∧ (F.fix K D ws ds).J k H' ∧ Same (F.st H) (F.st H') ∧ RepS K (F.st H') σ' ρ') ⟨ρ, n, h0, j, Same.refl _, rp⟩ (fun i σ' H' _ ⟨ρ', k, _, jk, _, _⟩ => SqL.of jk.2.2.1) (fun i x σ' H' hx ⟨ρ', k, p, jk, s, rk⟩ => ?_) fun σ' H' ⟨ρ', k, p, jk, s, rk⟩ => ?_
  · obtain ⟨d, hd', dq⟩ := ha.getV hx
    refine hs i d ρ' k hd' p x σ' H' _ jk (dq.mono s) rk fun σ2 H2 ρ2 k2 h2 j2 s2 r2 => ?_
    exact h2 σ2 H2 _ j2 r2 ⟨fun σ3 H3 ρ3 k3 p3 j3 s3 r3 => ⟨ρ3, k3, p3, j3, s.trans (s2.trans s3), r3⟩, fun v H3 r k3 p3 j3 s3 r3 => M.rt v H3 r k3 p3 j3 (s.trans (s2.trans s3)) r3,
      fun σ3 H3 ρ3 k3 p3 j3 s3 r3 => M.nx σ3 H3 ρ3 k3 p3 j3 (s.trans (s2.trans s3)) r3, fun σ3 H3 ρ3 k3 p3 j3 s3 r3 => ⟨ρ3, k3, p3, j3, s.trans (s2.trans s3), r3⟩⟩
  · rw [ha.length] at p
    exact M.nx σ' H' ρ' k (hd ρ' k p) jk s rk
theorem w_lcF {ws : List V} {ds : List PyData} (hi : ρ[i]? = some (.raw (.ref D))) (hz : ds.length ≤ 100000) (L : Made (F.fix K D ws ds) K ds g tt te vs ρ n Φ) (hset : Sets g vs) : wE (F.fix K D ws ds) K (tLc (iList K (tVar i)) g tt te vs) ρ n Φ := fun σ H Q j rp q => by
  obtain ⟨v, ev, rv⟩ := rp.get hi (fun z => nomatch z)
  obtain rfl : v = .ref D := rv
  have hD := j.2.2.1
  have ha := j.2.2.2.1
  obtain ⟨I, h0, hs, hd⟩ := L
  refine ⟨_, ev, _, rfl, ⟨_, SqL.of hD⟩, fun D2 nD => ?_⟩
  have nO := Eff.fresh j nD
  refine lc_list (xs := ws) (LcInv (F.fix K D ws ds) K H D2 I) (lc_start nD j h0) (fun i H' _ L => ?_) (fun i x H' hx L => ?_) fun H' L => ?_
  · obtain ⟨us, acc, k, _, _, _, _, jk, _⟩ := L
    exact SqL.of jk.2.2.1
  · obtain ⟨d, hd', dq⟩ := ha.getV hx
    have lt : i < 100000 := by
      have := (List.getElem?_eq_some_iff.mp hd').1
      omega
    refine lc_turn lt hset nO L rp ?_ fun ys acc k hl hI => hs D2 ys i d acc k nO hd' hl hI
    obtain ⟨us, acc, k, _, _, _, _, _, s⟩ := L
    exact dq.mono s
  · rw [ha.length] at L
    exact lc_end nO L (Same.refl _) hd q
end
end
end WkD
/-! the steps over data that need no thought -/
local macro_rules | `(tactic| walk_at "gd") => `(tactic| repeat (first
  | ((with_reducible refine' WkD.w_var ?hv ?hn ?_); (case hv => exact rfl); (case hn => exact (fun z => nomatch z)))
  | with_reducible refine WkD.w_int ?_ | with_reducible refine WkD.w_str ?_ | with_reducible refine WkD.w_non ?_ | with_reducible refine WkD.w_bl ?_
  | with_reducible refine WkD.w_chain ?_ | with_reducible refine WkD.w_tyc ?_ | ((with_reducible refine' WkD.c_isi ?hu ?_); (case hu => decide))
  | with_reducible refine WkD.w_op ?_ | with_reducible refine WkD.w_un ?_ | with_reducible refine WkD.w_nil ?_ | with_reducible refine WkD.w_cons ?_ | ((with_reducible refine' WkD.w_isi2 ?ha ?hb ?_); (case ha => decide); (case hb => decide)) | with_reducible refine WkD.w_CB ?_ | with_reducible refine WkD.w_call ?_
  | with_reducible refine WkD.w_if ?_ | with_reducible refine WkD.w_andV ?_ | with_reducible refine WkD.w_orV ?_ | with_reducible refine WkD.w_notV ?_ | with_reducible refine WkD.w_test ?_ | with_reducible refine WkD.w_tB ?_ | with_reducible refine WkD.w_not ?_
  | with_reducible refine WkD.w_and ?_ | with_reducible refine WkD.w_or ?_ | with_reducible refine WkD.w_yes ?_ | with_reducible refine WkD.w_next ?_ | with_reducible refine WkD.w_seq ?_ | with_reducible refine WkD.w_ret ?_ | with_reducible refine WkD.w_retN ?_
  | with_reducible refine WkD.w_drop ?_ | with_reducible refine WkD.w_ifS ?_ | with_reducible refine WkD.w_asg ?_ | with_reducible refine WkD.w_sl ?_ | with_reducible refine WkD.w_po0 ?_ | with_reducible refine WkD.w_po1 ?_ | with_reducible refine WkD.e_si ?_ | with_reducible refine WkD.l_A ?_ | with_reducible refine WkD.l_L ?_ | with_reducible refine WkD.w_cont ?_ | with_reducible refine WkD.w_break ?_ | with_reducible refine WkD.w_gt2 ?_ | with_reducible refine WkD.w_gt3 ?_ | with_reducible refine WkD.w_gcons ?_ | with_reducible refine WkD.w_gnil ?_ | with_reducible refine WkD.w_name ?_ | with_reducible refine WkD.w_par ?_
  | with_reducible refine WkD.r_I0i ?_ | with_reducible refine WkD.r_I0b ?_ | with_reducible refine WkD.u_U ?_ | with_reducible refine WkD.r_eqI ?_ | with_reducible refine WkD.r_neI ?_ | with_reducible refine WkD.r_eqS ?_ | with_reducible refine WkD.r_eqB ?_
  | ((with_reducible refine' WkD.r_ix ?hi ?_); (case hi => exact rfl)) | ((with_reducible refine' WkD.r_ixl ?hi ?_); (case hi => exact rfl))
  | ((with_reducible refine' WkD.r_ixT ?hi ?_); (case hi => exact rfl)) | ((with_reducible refine' WkD.r_ixL ?hi ?_); (case hi => exact rfl))
  | with_reducible refine WkD.c_gcd ?_ | with_reducible refine WkD.c_abs ?_ | with_reducible refine WkD.c_int ?_ | with_reducible refine WkD.e_bool ?_ | with_reducible refine WkD.w_tup ?_ | with_reducible refine WkD.w_lst ?_ | with_reducible refine WkD.e_ab ?_ | with_reducible refine WkD.d0 ?_ | with_reducible refine WkD.d1 ?_ | with_reducible refine WkD.d2 ?_ | with_reducible refine WkD.d3 ?_ | with_reducible refine WkD.d4 ?_))

namespace K35
open PySem PySem.Spec PyProof.Rows L2 WkH WkE WkQ WkS WkF WkD
section
variable {P : Program} {w : World} {K : PySem.W.Frag} {mg : Str → Option Value} {base : Heap}
/-- where r goes -/
def spot (found : List Rat) (r : Rat) : Nat := (found.filter fun o => !decide (r < o)).length
def insR (found : List Rat) (r : Rat) : List Rat := found.take (spot found r) ++ [r] ++ found.drop (spot found r)
def ascR (rs : List Rat) : List Rat := rs.foldl insR []
theorem insR_mem {found : List Rat} {r m : Rat} : m ∈ insR found r ↔ m = r ∨ m ∈ found := by
  unfold insR
  rw [List.append_assoc, List.mem_append, List.mem_append, List.mem_singleton]
  have : m ∈ found ↔ m ∈ found.take (spot found r) ∨ m ∈ found.drop (spot found r) := by
    rw [← List.mem_append, List.take_append_drop]
  rw [this]
  constructor
  · rintro (h | h | h)
    · exact .inr (.inl h)
    · exact .inl h
    · exact .inr (.inr h)
  · rintro (h | h | h)
    · exact .inr (.inl h)
    · exact .inl h
    · exact .inr (.inr h)
theorem foldl_ins_mem {m : Rat} : ∀ {rs found : List Rat}, m ∈ rs.foldl insR found ↔ m ∈ rs ∨ m ∈ found
  | [], found => by simp
  | r :: rs, found => by
    rw [List.foldl_cons, foldl_ins_mem, insR_mem, List.mem_cons]
    constructor
    · rintro (h | h | h)
      · exact .inl (.inr h)
      · exact .inl (.inl h)
      · exact .inr h
    · rintro ((h | h) | h)
      · exact .inr (.inl h)
      · exact .inl h
      · exact .inr (.inr h)
theorem ascR_mem {rs : List Rat} {m : Rat} : m ∈ ascR rs ↔ m ∈ rs := by
  unfold ascR
  rw [foldl_ins_mem]
  simp
theorem insR_len (found : List Rat) (r : Rat) : (insR found r).length = found.length + 1 := by
  unfold insR
  rw [List.length_append, List.length_append, List.length_singleton, List.length_take, List.length_drop]
  have : spot found r ≤ found.length := List.length_filter_le _ _
  omega
theorem asc_len : ∀ {rs found : List Rat}, (rs.foldl insR found).length = rs.length + found.length
  | [], found => by simp
  | r :: rs, found => by
    rw [List.foldl_cons, asc_len, insR_len, List.length_cons]
    omega
abbrev spAscending : Sp := spF K listR (fun rs => rs.length ≤ 64 ∧ ∀ r ∈ rs, Bits 4000 r) fun rs => .list ((ascR rs).map frD)
theorem steadys_fr (rs : List Rat) : steadys (rs.map frD) = true := steadys_of fun d hd => by
  obtain ⟨r, _, rfl⟩ := List.mem_map.mp hd
  rfl
theorem sc_ascending : FnScope ["fractions", "found", "fraction", "at", "other"] ["fractions"] d_ascending.sco := ⟨rfl, rfl, rfl, by decide +kernel, rfl, by decide +kernel, by decide +kernel⟩
theorem ok_ascending {fd : FuncData} (F : Stands K d_ascending fd) (T : Bg K mg) (Fb : Fn P w K mg base CX0 1 "is_below" ["one", "other"] (spBelow (K := K))) : FnOk P w K mg base CX0 2 d_ascending.adr fd ["fractions"] (spAscending (K := K)) := by
  refine FunD.ok F sc_ascending (fun vs H Q E h => len_F h fun _ => rfl) (fun cdv A outer s H vs Q E hr h => ⟨_, PSs.nox (pss_cons (ps_set (i := 1) sc_ascending.nd rfl (by first | exact Or.inl rfl | exact Or.inr rfl) (pe_lst pa_nil))
  (pss_cons (ps_for PassesOwn.never rfl (pi_list (pv 0)) (pg_name (i := 2) sc_ascending.nd rfl (by first | exact Or.inl rfl | exact Or.inr rfl)) (pss_cons (ps_set (i := 3) sc_ascending.nd rfl (by first | exact Or.inl rfl | exact Or.inr rfl) (pe_callB call_len_seq rfl T.len WkB.b_len (pa_cons (pe_lc (own := [("other", 4)]) (g := (gName 4)) rfl sc_ascending.nd (pi_list (pv 1)) (blkOk_by (own := [("other", 4)]) (N := ["fractions", "found", "fraction", "at", "other"]) (sc := d_ascending.sco) (by decide +kernel)) (fun _ _ _ _ _ => (pg_name (i := 4) sc_ascending.nd rfl (by first | exact Or.inl rfl | exact Or.inr rfl))) (fun _ _ _ _ _ => pts_one (pt_not (pt_val (pe_fn Fb hr rfl (pa_cons (pv 2) (pa_cons (pv 4) pa_nil)))))) (fun _ _ _ _ _ => (pv 4))) pa_nil)))
  (pss_one (ps_expr (pe_bm PySem.F.plainAttrs_list PySem.F.slot_list_insert PySem.F.type_list_insert mt_insert (pv 1) (pa_cons (pv 3) (pa_cons (pv 2) pa_nil)))))))
  (pss_one (ps_ret (pv 1))))), ?_⟩)
  refine body_F h fun F n rs hp => ?_
  obtain ⟨hl, hB⟩ := hp
  have hl : rs.length ≤ 64 := hl
  have hB : ∀ r ∈ rs, Bits 4000 r := hB
  try dsimp only [cxOf, Cx.nox, Cx.wish, listR]
  with_reducible refine w_cell ?_
  with_reducible refine w_nil ?_
  refine ⟨[], rfl, by decide, rfl, fun D => ?_⟩
  walk_at "gd"
  refine w_forL ?_
  walk_at "gd"
  refine ⟨_, rfl, fun i ρ m => (∃ x y z, ρ = [.dat (.list (rs.map frD)), .raw (.ref D), x, y, z]) ∧ m = (n, ((rs.take i).foldl insR []).map frD), ⟨⟨_, _, _, rfl⟩, rfl⟩, fun i d ρ m hi hI => ?_, fun ρ m hI => ?_⟩
  · obtain ⟨⟨x, y, z, rfl⟩, rfl⟩ := hI
    obtain ⟨r, hr', rfl⟩ := get_map hi
    have hrm := List.mem_of_getElem? hr'
    have hB' : ∀ s ∈ (rs.take i).foldl insR [], Bits 4000 s := fun s hs => hB s (List.mem_of_mem_take ((ascR_mem (rs := rs.take i)).mp hs))
    have hlen : ((rs.take i).foldl insR []).length ≤ 64 := by
      rw [asc_len, List.length_take]
      simp
      omega
    generalize hf : (rs.take i).foldl insR [] = found at hB' hlen
    walk_at "gd"
    refine fixE Lens.cell fun ws => ?_
    refine w_lcF rfl (by rw [List.length_map]; omega) ?_ (sets_name (by decide))
    refine made_if (xs := found) (enc := frD) (keep := fun o => !decide (r < o)) (out := frD) (fun D ys i s hs => ?_) ?_
    · walk_at "gd"
      refine c_fn (enc := twoR) (r, s) ⟨hB r hrm, hB' s (List.mem_of_getElem? hs)⟩ ?_
      walk_at "gd"
      refine ⟨rfl, fun _ => ?_, fun _ => rfl⟩
      walk_at "gd"
      exact ⟨rfl, rfl⟩
    walk_at "gd"
    refine c_len (.inl rfl) ?_
    walk_at "gd"
    refine w_ins Lens.cell rfl ?_
    walk_at "gd"
    have el : (((found.filter fun o => !decide (r < o)).map frD).length : Int) = ((spot found r : Nat) : Int) := by rw [List.length_map]; rfl
    rw [el]
    have sl : spot found r ≤ found.length := List.length_filter_le _ _
    refine ⟨spot found r, frD r, rfl, by omega, rfl, by show (found.map frD).length < _; rw [List.length_map]; omega, ?_⟩
    refine ⟨⟨_, _, _, rfl⟩, ?_⟩
    have e : (rs.take (i + 1)).foldl insR [] = insR found r := by
      rw [List.take_add_one, hr', List.foldl_append, hf]
      rfl
    rw [e]
    simp [insR, List.map_take, List.map_drop]
  · obtain ⟨⟨x, y, z, rfl⟩, rfl⟩ := hI
    rw [List.length_map, List.take_length]
    walk_at "gd"
    exact .inr ⟨rfl, rfl, rfl⟩
end
end K35
/-! Dict comprehensions whose keys are tuples (of ints, texts, tuples of these). -/
namespace WkC
open PySem PySem.Spec PyProof.Rows L2 WkD WkN
section
variable {X : Cx} {sh : List Bool}
/-- an entry is laid -/
theorem lay_n {pins : List (Addr × Obj)} {σ : L2.St} {H : Hp} {s : Shared} {E : Value → Shared → Prop} {a : Addr} {y v : V} {u r : Value} {R : Hp → Prop} {Q : Unit → Shared → Prop} (hu : X.A.units + 1 < cLine) (I : Inv X pins σ H s) (g : NPut X.K X.prog X.w sh H a y v R)
    (ry : RelV y u) (rv : RelV v r) (q : ∀ s' H', Inv X pins σ H' s' → R H' → Q () s') : wpAny (model X.prog X.w) X.A (dictSet a u r) Q E s := by
  obtain ⟨G, kvs, k, b, sub, nd, rfl, ka, lt, z⟩ := g
  cases (show u = Value.ref b from ry)
  obtain ⟨xs, rel, dd⟩ := nd_of sub I nd
  obtain ⟨h1, h2, nd0, ys, h3, h4⟩ := id nd
  have lx : xs.length ≤ sizeLine := Paired.length rel ▸ h1
  have lp := length_putK kvs k v
  refine wpAny_dictSet_heap (hsz := lx) (knd := nKind X.prog X.w sh) hu (key_at I (ka.keep (Keeps.of sub))) dd fun h' dd' sb => ?_
  obtain ⟨ob, es, ep, e1, e2, e3, e4, e5, e6⟩ := dd'
  have kp : Keeps H (L2.upd H a (.ext (RawN X.prog X.w sh a (storedH xs k b r)))) := Keeps.upd h3 (fun _ z => nomatch z) fun _ _ z => nomatch z
  refine q _ _ (d_write I (by rw [h3]; exact True.intro) sb ⟨ob, e1⟩ (raw_ok ⟨ob, es, ep, e1, e2, e3, e4, e6⟩)) (z _ (fun c hc => upd_ne hc) kp ⟨by omega, h2, ?_, _, upd_same, rel.put k ka rv⟩)
  rw [PN.keys (rel.put k ka rv)]
  exact e6
/-- {k: v for ..}: D the new dict -/
def tDcN (K : PySem.W.Frag) (P : Program) (w : World) (sh : List Bool) (wi : TI) (g : TG) (tk tv : TE) (vs : List Nat) : TE := fun σ H Q => wi σ H fun J H1 => ∀ D H2, H1 D = none → (∀ b, b ≠ D → H2 b = H1 b) → (∀ G, NDict K P w sh H2 G D []) → ∃ W : Nat → Nat → Hp → Prop, (∃ m, W 0 m H2) ∧ ∀ i m H, W i m H →
  (J.stop i H ∧ Q (.ref D) H) ∨ (J.go i H ∧ ∃ Nx : Hp → Prop, (∀ H', Nx H' → ∃ m', m' < m ∧ W (i + 1) m' H') ∧ ∀ x H', J.yld i H x H' → g x (wipe σ vs) H' fun σ2 H2 => wipe σ2 vs = wipe σ vs ∧
    tk σ2 H2 fun y H4 => tv σ2 H4 fun z H5 => NPut K P w sh H5 D y z Nx)
variable {kx vx tg iter : Expr} {scope : Scope} {own : List (Str × Nat)} {pos : Pos} {wi : TI} {g : TG} {tk tv : TE}
abbrev BlkCx (X : Cx) (scope : Scope) (PR : Cx → Prop) : Prop := ∀ (s : Shared) (H : Hp) (C : Addr) (cl : List (Str × Addr)) (fp : List Addr), PR (X.blk s H scope (compEnvC scope cl C X.env) fp)
theorem pe_dcN (hu : X.A.units + 1 < cLine) (hc : X.calm = true) (hN : X.N.Nodup) (hi : PI X tg iter wi) (ok : BlkOk X.N X.env.scope scope own) (hg : BlkCx X scope fun Y => PG Y tg g) (hk : BlkCx X scope fun Y => PE Y kx tk) (he : BlkCx X scope fun Y => PE Y vx tv)
    (hs : ∀ x, foldedSetIterable iter X.env x = pure x := by intro _; rfl) : PE X (.DictComp kx vx [⟨tg, iter, [], 0⟩] scope pos) (tDcN X.K X.prog X.w sh wi g tk tv (own.map (·.2))) := by
  refine ⟨fun pins s σ H Q I want => ?_⟩
  rw [arm_eval_DictComp]
  have cells : ∀ y ∈ scope.names, y.2 = .free → ∃ c, X.env.cells.lookup y.1 = some c := fun y hy e => (ok.free y hy e).elim (fun z => I.ok.has _ (.inl z)) fun z => I.ok.has _ (.inr z)
  refine wpAny_comprehension_free rfl hs (closure_ok cells) ok.kind (fun y hy e => (ok.uniq y hy).trans (congrArg some e)) (thn (hi.run pins s σ H _ I want) fun xv s1 hx => thn hx fun itv s2 ⟨it, fp, tn, J, H2, eit, I2, T, st2, f2, q⟩ => ?_)
  subst eit
  refine wpAny_newObj_type (newEnv_comp ?_)
  obtain ⟨D, eD⟩ : ∃ D, D = s2.heap.objs.size := ⟨_, rfl⟩
  rw [← eD]
  let s3 : Shared := { s2 with heap := s2.heap.push { cls := .type "dict", data := .dict #[] } }
  let H3 : Hp := upd H2 D (.ext (RawN X.prog X.w sh D []))
  have raw : RawN X.prog X.w sh D [] s3.heap := ⟨_, #[], 0, by rw [eD]; exact Heap.get?_push_size _ rfl, ⟨rfl, rfl, rfl⟩, rfl, rfl, List.nodup_nil⟩
  have nm : (D == sysModules) = false := by
    rw [eD]
    exact beq_eq_false_iff_ne.mpr (Ne.symm (Nat.ne_of_lt I2.big))
  obtain ⟨W, ⟨m0, w0⟩, turn⟩ := q D H3 (I2.hok.fresh (Nat.le_of_eq eD.symm)) (fun b hb => upd_ne hb) fun _ => ⟨Nat.zero_le _, nm, List.nodup_nil, [], upd_same, .nil⟩
  have I3 : Inv X pins σ H3 s3 := I2.laid (t' := s2.toks) (fun b o e => Heap.get?_push_of_some _ e) (Nat.le_of_eq eD.symm) (raw_ok raw)
  have fresh3 : ∀ b ∈ fp, FpOk X pins H3 b ∧ b < s3.heap.objs.size := fun b hb => by
    obtain ⟨o, e, _⟩ := T.obj _ _ st2 b hb
    have lt := Heap.lt_size e
    refine ⟨⟨?_, (f2 b hb).2⟩, ?_⟩
    · show upd H2 D _ b = none
      rw [upd_ne (eD ▸ Nat.ne_of_lt lt)]
      exact (f2 b hb).1
    · show b < (s2.heap.push _).objs.size
      rw [Heap.size_push]
      exact Nat.lt_succ_of_lt lt
  have I4 := block_start I3 ok hN fresh3
  have pg := hg s3 H3 s3.heap.objs.size (cellsFrom (s3.heap.objs.size + 1) scope.names (cloFrom X.env.cells scope.names [])) fp
  have pk := hk s3 H3 s3.heap.objs.size (cellsFrom (s3.heap.objs.size + 1) scope.names (cloFrom X.env.cells scope.names [])) fp
  have pv' := he s3 H3 s3.heap.objs.size (cellsFrom (s3.heap.objs.size + 1) scope.names (cloFrom X.env.cells scope.names [])) fp
  have st3 : tn 0 s3.heap := T.keep _ _ _ st2 fun b _ o e => Heap.get?_push_of_some _ e
  obtain ⟨ce, ece⟩ : ∃ ce, ce = compEnvC scope (cellsFrom (s3.heap.objs.size + 1) scope.names (cloFrom X.env.cells scope.names [])) s3.heap.objs.size X.env := ⟨_, rfl⟩
  have lce : ce.locals = s3.heap.objs.size := by rw [ece]; rfl
  let Y : Cx := X.blk s3 H3 scope ce fp
  have pgY : PG Y tg g := by show PG (X.blk s3 H3 scope ce fp) tg g; rw [ece]; exact pg
  have pkY : PE Y kx tk := by show PE (X.blk s3 H3 scope ce fp) kx tk; rw [ece]; exact pk
  have pvY : PE Y vx tv := by show PE (X.blk s3 H3 scope ce fp) vx tv; rw [ece]; exact pv'
  let s4 : Shared := { s3 with heap := pushCells (s3.heap.push { cls := .type "dict", data := .dict #[] }) scope.names }
  have I4Y : Inv Y [] (wipe σ (own.map (·.2))) H3 s4 := by show Inv (X.blk s3 H3 scope ce fp) [] _ H3 _; rw [ece]; exact I4
  have st4 : tn 0 s4.heap := T.keep _ _ _ st3 fun b _ o e => pushCells_keeps _ _ _ _ (Heap.get?_push_of_some _ e)
  have away : ∀ {σ' : L2.St} {H' : Hp} {s' : Shared}, Inv Y [] σ' H' s' → (∀ b ∈ fp, H' b = none) → ∀ b ∈ fp, FpOk Y [] H' b := fun I' no b hb =>
    ⟨no b hb, (I'.ok.exf b hb).1, I'.ok.exfs b hb, .inl hb, fun x c e => (I'.ok.exf b hb).2 x c e, fun p hp => nomatch (show p ∈ ([] : List (Addr × Obj)) from hp)⟩
  let Goal : Value → Shared → Prop := EP X pins σ Q
  have back : ∀ {H5 : Hp} {s6 : Shared}, Inv Y [] (wipe σ (own.map (·.2))) H5 s6 → Q (.ref D) H5 → compPost (model X.prog X.w) X.A X.xe none Goal (.ref D) s3.heap.objs.size (.ok .next) s6 := fun {H5 s6} I6 qq => by
    have I7 : Inv X pins σ H5 s6 := I3.call' (ch := fp) I6.os I6.base I6.hok I6.bare fun b hb => ⟨(fresh3 b hb).1.2.2.2.1, (fresh3 b hb).1.2.1, (fresh3 b hb).1.2.2.2.2.1, (fresh3 b hb).1.2.2.2.2.2⟩
    have free : H5 s3.heap.objs.size = none := lce ▸ (show H5 ce.locals = none from I6.free)
    obtain ⟨m, hn, _⟩ := I6.loc
    refine ⟨m, lce ▸ (show s6.heap.Ns ce.locals m from hn), fun h'' sb => ?_⟩
    obtain ⟨f0, f1, _, f3, f4, f5⟩ := I3.fpOk (H' := H5) (Nat.le_refl _) free
    exact ⟨.ref D, H5, I7.turned (t' := s6.toks) (fun b o hb e => (sb.2 b hb).trans e) f0 f1 f3 f4 f5, rfl, qq⟩
  have loop : codeAny (model X.prog X.w) X.A (.compLoop (.DictComp kx vx [⟨tg, iter, [], 0⟩] scope pos) 0 (.ref it) (.ref D) ce) (compPost (model X.prog X.w) X.A X.xe none Goal (.ref D) s3.heap.objs.size) s4 := by
    refine compLoop_anyD (fun n s' => ∃ i H', Inv Y [] (wipe σ (own.map (·.2))) H' s' ∧ tn i s'.heap ∧ (∀ b ∈ fp, H' b = none) ∧ W i n H') (fun n s5 ⟨i, H5, I5, st5, no5, w5⟩ => ?_) m0 ⟨0, H3, I4Y, st4, fun b hb => (fresh3 b hb).1.1, w0⟩
    rcases turn i n H5 w5 with ⟨stop, qq⟩ | ⟨go, Nx, hNx, step⟩
    · refine thnF (T.done Y rfl rfl rfl hc i [] s5 _ H5 (fun _ _ => False) I5 (away I5 no5) st5 stop) fun r s6 ⟨er, I6⟩ => ?_
      subst er
      exact back I6 qq
    · refine thnF (T.item Y rfl rfl rfl hc i [] s5 _ H5 (fun _ _ => False) I5 (away I5 no5) st5 go) fun r s6 ⟨u, er, h6⟩ => ?_
      subst er
      refine thnF h6 fun _ s7 ⟨x, H7, I7, r7, y7, st7, no7⟩ => ?_
      refine thnF (pgY.run _ s7 _ H7 x u _ (I7.pinned (away I7 no7) (T.obj _ _ st7)) r7 (step x H7 y7)) fun _ s8 ⟨σ8, H8, I8, ew, q8⟩ => ?_
      show wpAny _ _ (pure true) _ _ s8
      refine wpAny_pure ?_
      rw [if_pos rfl]
      refine thnF (pkY.run _ s8 σ8 H8 _ I8 q8) fun ku s9 ⟨yk, H9, I9, r9, q9⟩ => thnF (pvY.run _ s9 σ8 H9 _ I9 q9) fun vu s10 ⟨yv, H10, I10, r10, put⟩ => ?_
      refine lay_n (X := Y) hu I10 put r9 r10 fun s11 H11 I11 nx => ?_
      obtain ⟨m', lt, w'⟩ := hNx _ nx
      have pinned : ∀ c ∈ fp, ∀ o, s7.heap.get? c = some o → s11.heap.get? c = some o ∧ H11 c = none := fun c hc' o e =>
        let z := I11.pin (c, o) (List.mem_append_right _ (List.mem_append_right _ (mem_pinsAt hc' e)))
        ⟨z.1, z.2.1⟩
      refine ⟨m', lt, i + 1, _, (I11.unpinned (pins := [])).weak ?_ (fun j v e => ?_), T.keep _ _ _ st7 fun c hc' o e => (pinned c hc' o e).1, fun c hc' => ?_, w'⟩
      · rw [← ew, wipe_length]
      · rw [← ew] at e
        exact (wipe_some e).1
      · obtain ⟨o, e, _⟩ := T.obj _ _ st7 c hc'
        exact (pinned c hc' o e).2
  have start := codeAny_compStart_dict loop (T.self X.A 0 _ _ _ st4 loop)
  rw [ece] at start
  exact start
end
end WkC
/-! Dicts with tuple keys, each in a cell out of sight, its entries' data known. -/
namespace WkD
open PySem PySem.Spec PyProof.Rows L2 WkH WkQ WkS WkF WkN WkC
/-! ### keys as data -/
def kD : L2.Key → PyData
  | .inl i => .int i
  | .inr x => .str x
def nkD : NK → PyData
  | .k x => kD x
  | .t xs => .tuple (xs.map kD)
/-- the key as data -/
def keyD (ks : List NK) : PyData := .tuple (ks.map nkD)
section
variable {K : PySem.W.Frag} {G : Hp}
theorem kD_rep : ∀ {x : L2.Key} {v : V}, Dq K G v (kD x) → v = kV x
  | .inl i, _, .int _ => rfl
  | .inr x, _, .str _ => rfl
theorem kDs_rep : ∀ {xs : List L2.Key} {vs : List V}, DqAll K G vs (xs.map kD) → vs = xs.map kV
  | [], _, .nil => rfl
  | x :: xs, _ :: _, .cons h1 h2 => by rw [List.map_cons, kD_rep h1, kDs_rep h2]
theorem nk_rep : ∀ {x : NK} {v : V}, Dq K G v (nkD x) → ItV K G v x
  | .k x, _, h => kD_rep h
  | .t xs, _, .tup h1 h2 => ⟨_, rfl, by rw [← kDs_rep h2]; exact h1⟩
theorem nks_rep : ∀ {xs : List NK} {vs : List V}, DqAll K G vs (xs.map nkD) → ItVs K G vs xs
  | [], _, .nil => .nil
  | x :: xs, _ :: _, .cons h1 h2 => .cons (nk_rep h1) (nks_rep h2)
theorem key_rep {ks : List NK} {v : V} (h : Dq K G v (keyD ks)) : ∃ q, v = .ref q ∧ KeyAt K G q ks := by
  cases h with
  | tup h1 h2 => exact ⟨_, rfl, _, h1, nks_rep h2⟩
theorem SqT.same {H H' : Hp} (e : Same H H') {a : Addr} {xs : List V} (h : SqT K H a xs) : SqT K H' a xs := SqT.mono e h
end
/-! ### the cell -/
section
variable {S : Type} {F : Eff S} {K : PySem.W.Frag} {P : Program} {w : World} {sh : List Bool} {H H' : Hp} {D : Addr}
def Eff.dic (F : Eff S) (K : PySem.W.Frag) (P : Program) (w : World) (sh : List Bool) (D : Addr) : Eff (S × Ent sh) where
  own := fun a => F.own a ∨ a = D
  J := fun s H => F.J s.1 H ∧ ¬ F.own D ∧ ∃ kvs, NDict K P w sh H (F.st H) D kvs ∧ KvD K (F.st H) kvs s.2
  at_ := fun {n H a} j h => by
    rcases h with h | h
    · exact F.at_ j.1 h
    · obtain ⟨_, _, _, ⟨_, _, _, xs, e, _⟩, _⟩ := j
      rw [h, e]
      exact fun z => nomatch z
  loc := fun {n H H'} e kp j => by
    obtain ⟨j1, nD, kvs, nd, kd⟩ := j
    exact ⟨F.loc (fun a h => e a (.inl h)) kp j1, nD, kvs, nd.keep (st_keeps kp) (e D (.inr rfl)), kd.keep (st_keeps kp)⟩
theorem dic_sub : Same ((F.dic K P w sh D).st H) (F.st H) := fun a u h => by
  unfold Eff.st at h ⊢
  split at h
  · cases h
  · rename_i z
    rw [if_neg fun y => z (.inl y)]
    exact h
theorem dic_ne {a : Addr} (h : a ≠ D) : (F.dic K P w sh D).st H a = F.st H a := by
  unfold Eff.st
  by_cases z : F.own a
  · rw [if_pos z, if_pos (show (F.dic K P w sh D).own a from .inl z)]
  · rw [if_neg z, if_neg (show ¬ (F.dic K P w sh D).own a from fun y => y.elim z h)]
theorem nd_ext {G : Hp} {kvs : List (NKey sh × V)} (h : NDict K P w sh H G D kvs) : ∃ φ, H D = some (.ext φ) := let ⟨_, _, _, _, e, _⟩ := h; ⟨_, e⟩
theorem dic_keeps {φ : Heap → Prop} (h : H D = some (.ext φ)) : Keeps (F.st H) ((F.dic K P w sh D).st H) := fun a u st e => by
  have : a ≠ D := fun z => by
    subst z
    have := Eff.sub _ _ e
    rw [h] at this
    cases this
    rcases st with ⟨xs, z⟩ | ⟨o, v, z⟩ <;> cases z
  rw [dic_ne this]
  exact e
theorem dic_new (h : H D = none) (k : ∀ b, b ≠ D → H' b = H b) : Same (F.st H) ((F.dic K P w sh D).st H') := fun a u e => by
  have : a ≠ D := ne_of_none (Eff.sub _ _ e) h
  rw [dic_ne this]
  unfold Eff.st at e ⊢
  split at e
  · cases e
  · rename_i z
    rw [if_neg z, k a this]
    exact e
/-- the dict at D among what is out of sight -/
structure DLens (G : Eff S) (K : PySem.W.Frag) (P : Program) (w : World) (sh : List Bool) (D : Addr) (get : S → Ent sh) (put : S → Ent sh → S) : Prop where
  own : G.own D
  at_ : ∀ {s H}, G.J s H → ∃ kvs, NDict K P w sh H (G.st H) D kvs ∧ KvD K (G.st H) kvs (get s)
  set : ∀ {s H H' kvs es}, G.J s H → (∀ b, b ≠ D → H' b = H b) → Keeps H H' → NDict K P w sh H' (G.st H) D kvs → KvD K (G.st H) kvs es → G.J (put s es) H'
  gp : ∀ s e, get (put s e) = e
  pp : ∀ s a b, put (put s a) b = put s b
  pg : ∀ s, put s (get s) = s
theorem st_but {G : Eff S} (o : G.own D) (k : ∀ b, b ≠ D → H' b = H b) : G.st H' = G.st H := by
  funext a
  unfold Eff.st
  split
  · rfl
  · rename_i z
    exact k a fun y => z (y ▸ o)
theorem DLens.dic : DLens (F.dic K P w sh D) K P w sh D (·.2) (fun s es => (s.1, es)) where
  own := .inr rfl
  at_ := fun {s H} j => by
    obtain ⟨_, _, kvs, nd, kd⟩ := j
    obtain ⟨φ, e⟩ := nd_ext nd
    exact ⟨kvs, nd.keep (dic_keeps e) rfl, kd.keep (dic_keeps e)⟩
  set := fun {s H H' kvs es} j k kp nd kd => by
    obtain ⟨j1, nD, _⟩ := j
    exact ⟨F.loc (fun a ha => k a fun z => nD (z ▸ ha)) kp j1, nD, kvs, nd.keep ((Keeps.of dic_sub).trans (st_keeps kp)) rfl, (kd.mono dic_sub).keep (st_keeps kp)⟩
  gp := fun _ _ => rfl
  pp := fun _ _ _ => rfl
  pg := fun _ => rfl
theorem DLens.cell {G : Eff S} {D2 : Addr} {get : S → Ent sh} {put : S → Ent sh → S} (L : DLens G K P w sh D get put) : DLens (G.cell K D2) K P w sh D (fun s => get s.1) (fun s es => (put s.1 es, s.2)) where
  own := .inl L.own
  at_ := fun {s H} j => by
    obtain ⟨j1, nD, _, ws2, hD2, _⟩ := j
    obtain ⟨kvs, nd, kd⟩ := L.at_ j1
    exact ⟨kvs, nd.keep (cell_keeps hD2) rfl, kd.keep (cell_keeps hD2)⟩
  set := fun {s H H' kvs es} j k kp nd kd => by
    obtain ⟨j1, nD, st2, ws2, hD2, dq2⟩ := j
    have ne : D2 ≠ D := fun z => nD (z ▸ L.own)
    refine ⟨L.set j1 k kp (nd.keep (Keeps.of cell_sub) rfl) (kd.mono cell_sub), nD, st2, ws2, (k D2 ne).trans hD2, ?_⟩
    rw [st_but L.own k]
    exact dq2
  gp := fun s e => L.gp s.1 e
  pp := fun s a b => by rw [L.pp]
  pg := fun s => by rw [L.pg]
/-- under a list that is being made -/
theorem DLens.hide {G : Eff S} {D2 : Addr} {xs : List V} {get : S → Ent sh} {put : S → Ent sh → S} (L : DLens G K P w sh D get put) (ne : ¬ G.own D2) : DLens (G.hide D2 xs) K P w sh D get put where
  own := .inl L.own
  at_ := fun {s H} j => by
    obtain ⟨kvs, nd, kd⟩ := L.at_ j.1
    have kp : Keeps (G.st H) ((G.hide D2 xs).st H) := fun a u st e => by
      have na : a ≠ D2 := fun z => by
        subst z
        have := Eff.sub _ _ e
        rw [j.2] at this
        cases this
        rcases st with ⟨_, z⟩ | ⟨_, _, z⟩ <;> cases z
      unfold Eff.st at e ⊢
      split at e
      · cases e
      · rename_i z
        rw [if_neg fun y => y.elim z na]
        exact e
    exact ⟨kvs, nd.keep kp rfl, kd.keep kp⟩
  set := fun {s H H' kvs es} j k kp nd kd => by
    have ne' : D2 ≠ D := fun z => ne (z ▸ L.own)
    exact ⟨L.set j.1 k kp (nd.keep (Keeps.of hide_sub) rfl) (kd.mono hide_sub), (k D2 ne').trans j.2⟩
  gp := L.gp
  pp := L.pp
  pg := L.pg
theorem DLens.lift {G : Eff S} {D2 : Addr} {sh2 : List Bool} {get : S → Ent sh} {put : S → Ent sh → S} (L : DLens G K P w sh D get put) : DLens (G.dic K P w sh2 D2) K P w sh D (fun s => get s.1) (fun s es => (put s.1 es, s.2)) where
  own := .inl L.own
  at_ := fun {s H} j => by
    obtain ⟨j1, nD, kvs2, nd2, kd2⟩ := j
    obtain ⟨φ, e⟩ := nd_ext nd2
    obtain ⟨kvs, nd, kd⟩ := L.at_ j1
    exact ⟨kvs, nd.keep (dic_keeps e) rfl, kd.keep (dic_keeps e)⟩
  set := fun {s H H' kvs es} j k kp nd kd => by
    obtain ⟨j1, nD, kvs2, nd2, kd2⟩ := j
    have ne : D2 ≠ D := fun z => nD (z ▸ L.own)
    refine ⟨L.set j1 k kp (nd.keep (Keeps.of dic_sub) rfl) (kd.mono dic_sub), nD, kvs2, ?_, ?_⟩
    · rw [st_but L.own k]
      exact nd2.keep (fun _ _ _ e => e) (k D2 ne)
    · rw [st_but L.own k]
      exact kd2
  gp := fun s e => L.gp s.1 e
  pp := fun s a b => by rw [L.pp]
  pg := fun s => by rw [L.pg]
theorem Lens.dic {G : Eff S} {D2 : Addr} {get : S → List PyData} {put : S → List PyData → S} (L : Lens G K D get put) : Lens (G.dic K P w sh D2) K D (fun s => get s.1) (fun s ds => (put s.1 ds, s.2)) where
  own := .inl L.own
  at_ := fun {s H} j => by
    obtain ⟨j1, nD, kvs2, nd2, kd2⟩ := j
    obtain ⟨φ, e⟩ := nd_ext nd2
    obtain ⟨ws, hD, dq, st⟩ := L.at_ j1
    exact ⟨ws, hD, DqAll.keep (dic_keeps e) dq st, st⟩
  set := fun {s H ws ds} j dq st => by
    obtain ⟨j1, nD, kvs2, nd2, kd2⟩ := j
    have ne : D2 ≠ D := fun z => nD (z ▸ L.own)
    obtain ⟨us, hD, _⟩ := L.at_ j1
    have kp : Keeps H (upd H D (.lst ws)) := Keeps.upd hD (fun _ z => nomatch z) fun _ _ z => nomatch z
    refine ⟨L.set j1 (dq.mono dic_sub) st, nD, kvs2, ?_, ?_⟩
    · rw [st_upd L.own]
      exact nd2.keep (fun _ _ _ e => e) (upd_ne ne)
    · rw [st_upd L.own]
      exact kd2
end
/-! ### what is done with it -/
section
variable {S : Type} {F : Eff S} {K : PySem.W.Frag} {P' : Program} {w : World} {sh : List Bool} {ρ : List Sl} {n : S} {Φ : Sl → S → Prop} {Ψ : List Sl → S → Prop} {P : Po S} {ta te ty : TE} {t : TS} {i : Nat} {D : Addr} {get : S → Ent sh} {put : S → Ent sh → S}
theorem w_dget (L : DLens F K P' w sh D get put) (hi : ρ[i]? = some (.raw (.ref D))) (h : wE F K ty ρ n fun r m => ∃ (k : NKey sh) (d : PyData), r = .dat (keyD k.1) ∧ valD (get m) k = some d ∧ Φ (.dat d) m) : wE F K (tNGet K P' w sh (tVar i) ty) ρ n Φ := fun σ H Q j rp q => by
  obtain ⟨v, ev, rv⟩ := rp.get hi (fun z => nomatch z)
  obtain rfl : v = .ref D := rv
  refine ⟨_, ev, ?_⟩
  refine h σ H _ j rp fun y H1 r m ⟨k, d, er, ed, p⟩ j1 s1 ry => ?_
  subst er
  obtain ⟨a, rfl, ka⟩ := key_rep (show Dq K (F.st H1) y (keyD k.1) from ry)
  obtain ⟨kvs, nd, kd⟩ := L.at_ j1
  rcases kd.val k with ⟨_, e2⟩ | ⟨v, d', e1, e2, rd⟩
  · rw [ed] at e2
    cases e2
  · rw [ed] at e2
    cases e2
    exact ⟨D, v, rfl, ⟨_, kvs, k, a, Eff.sub, nd, rfl, ka, e1.symm⟩, q v H1 (.dat d) m p j1 s1 rd⟩
theorem r_dno (L : DLens F K P' w sh D get put) {k : NKey sh} (q : Φ (.dat (.bool (!(valD (get n) k).isSome))) n) : wR F K (rNotInN K P' w sh) (.dat (keyD k.1)) (.raw (.ref D)) n Φ := fun x y H Q jn rx ry c => by
  obtain rfl : y = V.ref D := ry
  obtain ⟨a, rfl, ka⟩ := key_rep (show Dq K (F.st H) x (keyD k.1) from rx)
  obtain ⟨kvs, nd, kd⟩ := L.at_ jn
  refine ⟨D, valV kvs k, rfl, ⟨_, kvs, k, a, Eff.sub, nd, rfl, ka, rfl⟩, ?_⟩
  have e : (valV kvs k).isSome = (valD (get n) k).isSome := by
    rcases kd.val k with ⟨e1, e2⟩ | ⟨v, d, e1, e2, _⟩
    · rw [e1, e2]
      rfl
    · rw [e1, e2]
      rfl
  rw [e]
  exact c _ H _ n q jn (Same.refl _) (.bl _)
/-- x[key] = d -/
theorem w_dput (L : DLens F K P' w sh D get put) {a : Sl} (hi : ρ[i]? = some (.raw (.ref D))) (h : wE F K ty ρ n fun r m => ∃ (k : NKey sh) (d : PyData), r = .dat (keyD k.1) ∧ a = .dat d ∧ steady d = true ∧ (get m).length < 100000 ∧ Ψ ρ (put m (putD (get m) k d))) :
    wG F K (gSub (tVar i) ty (tNSet K P' w sh)) a ρ n Ψ := fun x σ H Q j rx rp q => by
  obtain ⟨v, ev, rv⟩ := rp.get hi (fun z => nomatch z)
  obtain rfl : v = .ref D := rv
  refine ⟨_, ev, ?_⟩
  refine h σ H _ j rp fun y H1 r m ⟨k, d, er, ea, sd, hl, p⟩ j1 s1 ry => ?_
  subst er
  subst ea
  obtain ⟨b, rfl, ka⟩ := key_rep (show Dq K (F.st H1) y (keyD k.1) from ry)
  obtain ⟨kvs, nd, kd⟩ := L.at_ j1
  refine ⟨D, rfl, _, kvs, k, b, Eff.sub, nd, rfl, ka, Nat.lt_of_lt_of_le (by rw [kd.len]; exact hl) (sz 100000), fun H2 k2 kp nd2 => ?_⟩
  have e : F.st H2 = F.st H1 := st_but L.own k2
  exact q σ H2 ρ _ p (L.set j1 k2 kp nd2 (kd.put (Dq.mono s1 rx) sd)) (by rw [e]; exact s1) (by rw [e]; exact rp.mono s1)
end
end WkD
/-! sorted(s) of a set of pairs of ints, of either sign: its pairs in some order. -/
namespace L2
open PySem PySem.Spec PyProof.Rows
theorem perm_pre {α β : Type} {f : α → β} {l m : List β} (h : l.Perm m) : ∀ {L : List α}, m = L.map f → ∃ L' : List α, l = L'.map f ∧ L'.Perm L := by
  induction h with
  | nil =>
    intro L e
    exact ⟨L, e, .refl _⟩
  | @cons x l m _ ih =>
    intro L e
    cases L with
    | nil => cases e
    | cons a L =>
      rw [List.map_cons] at e
      injection e with e1 e2
      obtain ⟨L', f1, f2⟩ := ih e2
      exact ⟨a :: L', by rw [List.map_cons, e1, f1], f2.cons a⟩
  | swap x y l =>
    intro L e
    match L, e with
    | a :: b :: L, e =>
      rw [List.map_cons, List.map_cons] at e
      injection e with e1 e2
      injection e2 with e2 e3
      exact ⟨b :: a :: L, by rw [List.map_cons, List.map_cons, e1, e2, e3], .swap a b L⟩
  | trans _ _ ih1 ih2 =>
    intro L e
    obtain ⟨L2, f1, f2⟩ := ih2 e
    obtain ⟨L1, g1, g2⟩ := ih1 f1
    exact ⟨L1, g1, g2.trans f2⟩
section
variable {P : Program} {w : World} {A : Around} {E : Value → Shared → Prop} {s : Shared}
theorem pair_at {h : Heap} {k : List Int} {b : Addr} (x : IsT P w h k b) (l : k.length = 2) : ∃ i j, Srt.IsPair h (.ref b) i j := by
  obtain ⟨ob, its, n, e1, e2, e3, all⟩ := x
  match k, l, all with
  | [i, j], _, all =>
    generalize hl : its.toList = us at all
    cases all with
    | cons p all =>
      cases all with
      | cons q all =>
        cases all
        obtain ⟨t, rfl⟩ := Value.isInt_shape p
        obtain ⟨u, rfl⟩ := Value.isInt_shape q
        have ei : its = #[.int i t, .int j u] := by
          rw [← Array.toArray_toList (xs := its), hl]
        exact ⟨i, j, b, ob, t, u, n, rfl, e1, e2, by rw [e3, ei]⟩
theorem sorted_pset {a : Addr} {L : List (Addr × List Int)} {es : Array (Int × Value)} {ep : Nat} {t : SetTable} {Q : Value → Shared → Prop} (R : SetTR P w s.heap a L es ep t) (hh : A.handled = none) (two : ∀ p ∈ L, p.2.length = 2)
    (hQ : ∀ s' p (out : List Value) (c : Nat) (L' : List (Addr × List Int)), (∀ b o, s.heap.get? b = some o → s'.heap.get? b = some o) → s'.gens = s.gens → s'.os = s.os → s.heap.objs.size ≤ p → s'.heap.get? p = some (seqObj "list" out.toArray c) →
      out = L'.map (fun q => Value.ref q.1) → L'.Perm L → Q (.ref p) s') : wpAny (model P w) A (call (.builtin "sorted") [.ref a]) Q E s := by
  obtain ⟨o, ho, hex, hd⟩ := R.ob
  have small := R.size
  have few := R.few
  refine Calls.call_function_entry kind_sorted plain_sorted entry_sorted (args_sorted1 _) ?_
  unfold Builtin.«sorted»
  refine wpAny_bind (m := checkCount "sorted" 1 1 _) (wpAny_pure (wpAny_bind ?_))
  refine collect_set (A := A.in1) hh ⟨o, ho, hex.1, hd⟩ R.fits (by unfold scanBound; omega) R.tab.ris R.led fun s1 vs k1 hz g1 o1 pm => ?_
  have er : es.toList.map (·.2) = L.map fun q => Value.ref q.1 := by
    rw [R.rows, rowsOf, List.map_map]
    rfl
  rw [er] at pm
  have lv : vs.length < 64 := by
    rw [pm.length_eq, List.length_map]
    exact few
  have lz : vs.length ≤ sizeLine := by rw [sizeLine_eq]; omega
  refine wpAny_bind (wpAny_newList ?_ lz)
  have at_ : (s1.heap.push (seqObj "list" vs.toArray 0)).get? s1.heap.objs.size = some (seqObj "list" vs.toArray 0) := Heap.get?_push_size _ rfl
  have pairs : ∀ v ∈ vs, ∃ i j, Srt.IsPair (s1.heap.push (seqObj "list" vs.toArray 0)) v i j := fun v hv => by
    obtain ⟨q, hq, rfl⟩ := List.mem_map.mp (pm.mem_iff.mp hv)
    exact pair_at (P := P) (w := w) (isT_keep (R.tup q hq) fun b u e => Heap.get?_push_of_some _ (k1 b u e)) (two q hq)
  have noTup : ∀ o, (s1.heap.push (seqObj "list" vs.toArray 0)).get? s1.heap.objs.size = some o → o.cls ≠ .type "tuple" := fun o e c => by
    cases at_.symm.trans e
    exact absurd (Value.type.inj c) (by decide)
  refine wpAny_bind (wpAny_holding (wpAny_call_entry slot_list_sort ⟨_, at_, rfl⟩ entry_list_sort (Srt.list_sort_any (s := { s1 with heap := s1.heap.push (seqObj "list" vs.toArray 0) }) at_ lz (fun h2 => Srt.pairs_sortable (by omega) pairs noTup) fun out hp => ⟨_, rfl, ?_⟩) (args_list_sort _)))
  obtain ⟨c, hc⟩ := sortedHeap_at (vs := vs) (out := out.toArray) at_
  obtain ⟨L', e1, e2⟩ := perm_pre (hp.trans pm) rfl
  refine wpAny_pure ⟨_, rfl, hQ _ s1.heap.objs.size out c L' (fun b u e => ?_) g1 o1 hz hc e1 e2⟩
  have q := k1 b u e
  have lt := Heap.lt_size q
  show (sortedHeap (s1.heap.push (seqObj "list" vs.toArray 0)) s1.heap.objs.size vs out.toArray).get? b = some u
  rw [sortedHeap_old (Nat.ne_of_lt lt) (by rw [size_push']; exact Nat.lt_succ_of_lt lt)]
  exact Heap.get?_push_of_some _ q
end
/-- sorted(s), s a set of pairs of ints -/
def rSortedQ (K : PySem.W.Frag) (P : Program) (w : World) : List V → Hp → VK → Prop := fun vs H Q => ∃ (a : Addr) (L : List (Addr × List Int)), vs = [V.ref a] ∧ H a = some (SetTO P w a L) ∧ (∀ p ∈ L, SqT K H p.1 (p.2.map V.int) ∧ p.2.length = 2) ∧
  ∀ (L' : List (Addr × List Int)) (p : Addr), L'.Perm L → (L'.map (·.2)).Nodup → L'.length < 64 → H p = none → Q (.ref p) (upd H p (.lst (L'.map fun q => V.ref q.1)))
theorem cr_sortedQ {X : Cx} (hc : X.calm = true) : CallR X (.builtin "sorted") (rSortedQ X.K X.prog X.w) := by
  intro pins s σ H vs us Q I r h
  obtain ⟨a, L, rfl, ha, hk, q⟩ := h
  have R0 : SetT0 X.prog X.w s.heap a L := (I.hok a _ ha).1
  obtain ⟨es, ep, t, R⟩ := R0.full fun p hp => I.isT (hk p hp).1
  rw [Vals.ref1 r]
  refine sorted_pset R (I.ok.hd hc) (fun p hp => (hk p hp).2) fun s' p out c L' k g o hp hg hout pm => ?_
  have few : L'.length < 64 := by rw [pm.length_eq]; exact R.few
  have len : (L'.map fun q => V.ref q.1).length ≤ sizeLine := by rw [List.length_map, sizeLine_eq]; omega
  have vals : Vals (L'.map fun q => V.ref q.1) out := by rw [hout]; exact vals_of_refs L'
  obtain ⟨h', g', d', t', os'⟩ := s'
  cases (show os' = s.os from o)
  have J : Inv X pins σ (upd H p (.lst (L'.map fun q => V.ref q.1))) { s with heap := h', gens := g', drawn := d', toks := t' } :=
    I.call (ch := []) (Un.laid k hp (I.hok.fresh hp)) (I.hok.laid k hp ⟨len, out, c, vals, hg⟩) (by rw [show g' = s.gens from g]; exact I.bare) (fun _ z => nomatch z)
  exact ⟨.ref p, _, J, rfl, q L' p pm ((pm.map (·.2)).nodup_iff.mpr R.nd) few (I.hok.fresh hp)⟩
end L2
/-! Displays with a star, sorted sets of fractions, dict comprehensions, dicts read as slots. -/
namespace WkD
open PySem PySem.Spec PyProof.Rows L2 StX WkH WkQ WkS WkF WkN WkC
section
variable {S : Type} {F : Eff S} {K : PySem.W.Frag} {P' : Program} {w : World} {sh : List Bool} {ρ : List Sl} {n : S} {Φ : Sl → S → Prop} {Ψ : List Sl → S → Prop} {P : Po S} {ta te ty tv tk : TE} {tr : TA} {t : TS} {g : TG} {i : Nat} {vs : List Nat}
theorem repA_app {G : Hp} : ∀ {us vs : List V} {as bs : List Sl}, RepA K G us as → RepA K G vs bs → RepA K G (us ++ vs) (as ++ bs)
  | _, _, _, _, .nil, h => h
  | _, _, _, _, .cons h1 h2, h => .cons h1 (repA_app h2 h)
/-- *e, .. -/
theorem w_star (h : wE F K te ρ n fun r m => ∃ ds, r = .dat (.list ds) ∧ wA F K tr ρ m fun rs k => Ψ (ds.map .dat ++ rs) k) : wA F K (tStar K te tr) ρ n Ψ := fun σ H Q j rp q =>
  h σ H _ j rp fun x H1 r m ⟨ds, e, h2⟩ j1 s1 rx => by
    subst e
    cases rx with
    | @lst a xs _ hx ha =>
      refine ⟨a, xs, rfl, .inr (SqL.of (Eff.sub _ _ hx)), ?_⟩
      exact h2 σ H1 _ j1 (rp.mono s1) fun ys H2 rs k p j2 s2 ry => q _ H2 _ k p j2 (s1.trans s2) (repA_app ((repA_of ha).mono s2) ry)
/-- fractions as places and pairs -/
theorem fr_refs {G : Hp} : ∀ {rs : List Rat} {us : List V}, DqAll K G us (rs.map frD) → ∃ ks : List (Addr × List Int), us = ks.map (fun p => V.ref p.1) ∧ ks.map (·.2) = rs.map (fun r => [r.num, (r.den : Int)]) ∧ ∀ p ∈ ks, SqT K G p.1 (p.2.map V.int)
  | [], _, .nil => ⟨[], rfl, rfl, fun _ h => nomatch h⟩
  | r :: rs, _ :: _, .cons h1 h2 => by
    obtain ⟨ks, e1, e2, e3⟩ := fr_refs h2
    cases h1 with
    | @tup a xs _ hs ha =>
      refine ⟨(a, [r.num, (r.den : Int)]) :: ks, by rw [e1]; rfl, by rw [List.map_cons, e2]; rfl, fun p hp => ?_⟩
      rcases List.mem_cons.mp hp with rfl | hp
      · cases ha with
        | cons q1 ha =>
          cases ha with
          | cons q2 ha =>
            cases ha
            cases q1
            cases q2
            exact hs
      · exact e3 p hp
theorem refs_fr {G : Hp} : ∀ {L : List (Addr × List Int)} {rs : List Rat}, L.map (·.2) = rs.map (fun r => [r.num, (r.den : Int)]) → (∀ p ∈ L, SqT K G p.1 (p.2.map V.int)) → DqAll K G (L.map fun p => V.ref p.1) (rs.map frD)
  | [], [], _, _ => .nil
  | [], _ :: _, e, _ => by simp at e
  | _ :: _, [], e, _ => by simp at e
  | p :: L, r :: rs, e, h => by
    rw [List.map_cons, List.map_cons] at e
    injection e with e1 e2
    have h1 := h p (List.mem_cons_self ..)
    rw [e1] at h1
    exact .cons (.tup h1 (.cons (.int _) (.cons (.int _) .nil))) (refs_fr e2 fun q hq => h q (List.mem_cons_of_mem _ hq))
theorem pick_fr {rs : List Rat} : ∀ {L : List (Addr × List Int)}, (∀ p ∈ L, ∃ r ∈ rs, p.2 = [r.num, (r.den : Int)]) → ∃ rs' : List Rat, L.map (·.2) = rs'.map (fun r => [r.num, (r.den : Int)]) ∧ ∀ r ∈ rs', r ∈ rs
  | [], _ => ⟨[], rfl, fun _ h => nomatch h⟩
  | p :: L, h => by
    obtain ⟨r, hr, e⟩ := h p (List.mem_cons_self ..)
    obtain ⟨rs', e1, e2⟩ := pick_fr (L := L) fun q hq => h q (List.mem_cons_of_mem _ hq)
    refine ⟨r :: rs', by rw [List.map_cons, List.map_cons, e, e1], fun s hs => ?_⟩
    rcases List.mem_cons.mp hs with rfl | hs
    · exact hr
    · exact e2 s hs
theorem enc_inj {r s : Rat} (h : [r.num, (r.den : Int)] = [s.num, (s.den : Int)]) : r = s := by
  injection h with h1 h2
  injection h2 with h2 _
  exact Rat.ext h1 (by omega)
/-- sorted(set(e)), e a list of fractions -/
theorem w_sortedSet (h : wE F K te ρ n fun r m => ∃ rs : List Rat, r = .dat (.list (rs.map frD)) ∧ rs.length < 64 ∧ ∀ rs' : List Rat, (∀ x, x ∈ rs' ↔ x ∈ rs) → rs'.Nodup → rs'.length < 64 → Φ (.dat (.list (rs'.map frD))) m) :
    wE F K (tCB (rSortedQ K P' w) (tCons (tCB (rSetOfT K P' w) (tCons te tNil)) tNil)) ρ n Φ := fun σ H Q j rp q => by
  refine h σ H _ j rp fun x H1 r m ⟨rs, e, hl, hq⟩ j1 s1 rx => ?_
  subst e
  cases rx with
  | @lst l us _ hx ha =>
    obtain ⟨ks, e1, e2, e3⟩ := fr_refs ha
    subst e1
    have lk : ks.length = rs.length := by
      have := congrArg List.length e2
      rwa [List.length_map, List.length_map] at this
    refine ⟨l, ks, rfl, SqL.of (Eff.sub _ _ hx), fun p hp => SqT.mono Eff.sub (e3 p hp), by omega, fun a L na hL1 hL2 => ?_⟩
    have s2 := same_upd (o := SetTO P' w a L) na
    have mem : ∀ p ∈ ks, ∃ r ∈ rs, p.2 = [r.num, (r.den : Int)] := fun p hp => by
      have : p.2 ∈ ks.map (·.2) := List.mem_map_of_mem hp
      rw [e2] at this
      obtain ⟨r, hr, e⟩ := List.mem_map.mp this
      exact ⟨r, hr, e.symm⟩
    refine ⟨a, L, rfl, upd_same, fun p hp => ⟨SqT.mono s2 (SqT.mono Eff.sub (e3 p (hL1 p hp))), ?_⟩, fun L' p perm nd lt np => ?_⟩
    · obtain ⟨r, hr, e⟩ := mem p (hL1 p hp)
      rw [e]
      rfl
    · obtain ⟨rs', f1, f2⟩ := pick_fr (rs := rs) (L := L') fun q hq' => mem q (hL1 q (perm.mem_iff.mp hq'))
      have s3 := same_upd (o := .lst (L'.map fun q => V.ref q.1)) np
      have j2 := Eff.keep s2 j1
      refine q _ _ (.dat (.list (rs'.map frD))) m (hq rs' (fun x => ⟨f2 x, fun hx' => ?_⟩) ?_ ?_) (Eff.keep s3 j2) (s1.trans ((Eff.mono s2).trans (Eff.mono s3))) (.lst (Eff.new j2 np) (refs_fr f1 fun q hq' => ?_))
      · have : [x.num, (x.den : Int)] ∈ ks.map (·.2) := by
          rw [e2]
          exact List.mem_map.mpr ⟨x, hx', rfl⟩
        obtain ⟨p, hp, ep⟩ := List.mem_map.mp this
        have h3 := hL2 p hp
        obtain ⟨p', hp', ep'⟩ := List.mem_map.mp h3
        have h4 : p'.2 ∈ L'.map (·.2) := List.mem_map_of_mem (perm.mem_iff.mpr hp')
        rw [f1] at h4
        obtain ⟨y, hy, ey⟩ := List.mem_map.mp h4
        have : y = x := enc_inj (ey.trans (ep'.trans ep))
        rw [← this]
        exact hy
      · rw [f1] at nd
        exact List.Pairwise.of_map _ (fun a b h z => h (by rw [z])) nd
      · have := congrArg List.length f1
        rw [List.length_map, List.length_map] at this
        omega
      · have h5 := e3 q (hL1 q (perm.mem_iff.mp hq'))
        exact SqT.mono ((Eff.mono s2).trans (Eff.mono s3)) h5
/-! ### leaving a dict's cell: it is read only from there -/
def shut1 (P' : Program) (w : World) {sh : List Bool} (D : Addr) (es : Ent sh) : Sl → Sl
  | .raw (.ref a) => if a = D then .tab P' w sh es else .raw (.ref a)
  | s => s
def shut (P' : Program) (w : World) {sh : List Bool} (D : Addr) (es : Ent sh) (ρ : List Sl) : List Sl := ρ.map (shut1 P' w D es)
def Po.dic {S : Type} (P : Po S) (P' : Program) (w : World) (sh : List Bool) (D : Addr) : Po (S × Ent sh) where
  nx := fun ρ m => P.nx (shut P' w D m.2 ρ) m.1
  rt := fun r m => P.rt (shut1 P' w D m.2 r) m.1
  bk := fun ρ m => P.bk (shut P' w D m.2 ρ) m.1
  ct := fun ρ m => P.ct (shut P' w D m.2 ρ) m.1
theorem dic_tab {D : Addr} {H' : Hp} {m : S × Ent sh} (j : (F.dic K P' w sh D).J m H') : RepV K (F.st H') (.ref D) (.tab P' w sh m.2) := by
  obtain ⟨_, nD, kvs, nd, kd⟩ := j
  exact ⟨D, kvs, rfl, nd.keep (fun _ _ _ e => e) (Eff.st_ne nD), kd⟩
theorem shut_V {D : Addr} {H' : Hp} {m : S × Ent sh} (j : (F.dic K P' w sh D).J m H') {v : V} : ∀ {s : Sl}, RepV K ((F.dic K P' w sh D).st H') v s → RepV K (F.st H') v (shut1 P' w D m.2 s)
  | .no, h => h.elim
  | .dat _, h => Dq.mono dic_sub h
  | .tab _ _ _ _, h => RepV.mono (s := .tab _ _ _ _) dic_sub h
  | .raw u, h => by
    obtain rfl : v = u := h
    unfold shut1
    split
    · rename_i a e
      split
      · rename_i z
        injection e with e
        subst z
        rw [e]
        exact dic_tab j
      · rw [← e]
        exact rfl
    · exact rfl
theorem shut_O {D : Addr} {H' : Hp} {m : S × Ent sh} (j : (F.dic K P' w sh D).J m H') {o : Option V} : ∀ {s : Sl}, RepO K ((F.dic K P' w sh D).st H') o s → RepO K (F.st H') o (shut1 P' w D m.2 s)
  | .no, _ => True.intro
  | .dat _, ⟨v, e, h⟩ => ⟨v, e, Dq.mono dic_sub h⟩
  | .tab _ _ _ _, h => RepO.mono (s := .tab _ _ _ _) dic_sub h
  | .raw u, h => by
    obtain rfl : o = some u := h
    exact (shut_V j (v := u) (s := .raw u) rfl).opt
theorem shut_S {D : Addr} {H' : Hp} {m : S × Ent sh} (j : (F.dic K P' w sh D).J m H') : ∀ {σ : List (Option V)} {ρ : List Sl}, RepS K ((F.dic K P' w sh D).st H') σ ρ → RepS K (F.st H') σ (shut P' w D m.2 ρ)
  | _, _, .nil => .nil
  | _, _, .cons h1 h2 => .cons (shut_O j h1) (shut_S j h2)
theorem Meets.dic {G : Hp} {H1 : Hp} {D : Addr} {E : Ends} (M : Meets F K G E P) (s : Same G ((F.dic K P' w sh D).st H1)) : Meets (F.dic K P' w sh D) K ((F.dic K P' w sh D).st H1) E (P.dic P' w sh D) where
  nx := fun σ' H' ρ' m p j s' r => M.nx σ' H' _ _ p j.1 (s.trans (s'.trans dic_sub)) (shut_S j r)
  rt := fun v H' r m p j s' rv => M.rt v H' _ _ p j.1 (s.trans (s'.trans dic_sub)) (shut_V j rv)
  bk := fun σ' H' ρ' m p j s' r => M.bk σ' H' _ _ p j.1 (s.trans (s'.trans dic_sub)) (shut_S j r)
  ct := fun σ' H' ρ' m p j s' r => M.ct σ' H' _ _ p j.1 (s.trans (s'.trans dic_sub)) (shut_S j r)
/-- x = {}; t -/
theorem w_dnew (h : ∀ D, wS (F.dic K P' w sh D) K t (ρ.set i (.raw (.ref D))) (n, []) (P.dic P' w sh D)) : wS F K (tSeq (tAsg (tNNew K P' w sh) (gName i)) t) ρ n P := fun σ H E j rp M => by
  intro D H' nD k nd
  have nO := Eff.fresh j nD
  have s2 : Same (F.st H) ((F.dic K P' w sh D).st H') := dic_new nD k
  have s0 : Same H H' := fun b u e => by
    rw [k b (ne_of_none e nD)]
    exact e
  exact h D _ _ E ⟨Eff.keep s0 j, nO, [], nd _, .nil⟩ ((rp.mono s2).set i (s := .raw (.ref D)) rfl) (Meets.dic M s2)
/-- d[e], d a slot -/
theorem w_tget {es : Ent sh} (hi : ρ[i]? = some (.tab P' w sh es)) (h : wE F K ty ρ n fun r m => ∃ (k : NKey sh) (d : PyData), r = .dat (keyD k.1) ∧ valD es k = some d ∧ Φ (.dat d) m) : wE F K (tNGet K P' w sh (tVar i) ty) ρ n Φ := fun σ H Q j rp q => by
  obtain ⟨v, ev, D, kvs, rfl, nd, kd⟩ := rp.get hi (fun z => nomatch z)
  refine ⟨_, ev, ?_⟩
  refine h σ H _ j rp fun y H1 r m ⟨k, d, er, ed, p⟩ j1 s1 ry => ?_
  subst er
  obtain ⟨a, rfl, ka⟩ := key_rep (show Dq K (F.st H1) y (keyD k.1) from ry)
  rcases kd.val k with ⟨_, e2⟩ | ⟨v, d', e1, e2, rd⟩
  · rw [ed] at e2
    cases e2
  · rw [ed] at e2
    cases e2
    have nd1 : NDict K P' w sh H1 (F.st H1) D kvs := by
      obtain ⟨φ, e⟩ := nd_ext nd
      exact (nd_mono s1 nd).keep (fun _ _ _ e => e) ((Eff.sub _ _ (s1 _ _ e)).trans (s1 _ _ e).symm)
    exact ⟨D, v, rfl, ⟨_, kvs, k, a, Eff.sub, nd1, rfl, ka, e1.symm⟩, q v H1 (.dat d) m p j1 s1 (Dq.mono s1 rd)⟩
/-! ### dict comprehensions over a list -/
theorem dc_list {a : Addr} {xs : List V} {σ : L2.St} {H2 : Hp} {D : Addr} {Qd : Hp → Prop} (Pv : Nat → Hp → Prop) (h0 : Pv 0 H2) (hl : ∀ i H, i ≤ xs.length → Pv i H → SqL K H a xs)
    (hs : ∀ i x H, xs[i]? = some x → Pv i H → g x (wipe σ vs) H fun σ2 H2 => wipe σ2 vs = wipe σ vs ∧ tk σ2 H2 fun y H4 => tv σ2 H4 fun z H5 => NPut K P' w sh H5 D y z (Pv (i + 1))) (hd : ∀ H, Pv xs.length H → Qd H) :
    ∃ W : Nat → Nat → Hp → Prop, (∃ m, W 0 m H2) ∧ ∀ i m H, W i m H → ((Itl K a).stop i H ∧ Qd H) ∨ ((Itl K a).go i H ∧ ∃ Nx : Hp → Prop, (∀ H', Nx H' → ∃ m', m' < m ∧ W (i + 1) m' H') ∧ ∀ x H', (Itl K a).yld i H x H' → g x (wipe σ vs) H' fun σ2 H2 => wipe σ2 vs = wipe σ vs ∧
      tk σ2 H2 fun y H4 => tv σ2 H4 fun z H5 => NPut K P' w sh H5 D y z Nx) := by
  refine ⟨fun i m H => m = xs.length - i ∧ i ≤ xs.length ∧ Pv i H, ⟨xs.length, rfl, Nat.zero_le _, h0⟩, fun i m H ⟨em, li, p⟩ => ?_⟩
  have sq := hl i H li p
  rcases Nat.lt_or_ge i xs.length with lt | ge
  · refine .inr ⟨⟨xs, xs[i], sq, List.getElem?_eq_getElem lt⟩, Pv (i + 1), fun H' p' => ⟨xs.length - (i + 1), by omega, rfl, lt, p'⟩, fun x H' y => ?_⟩
    obtain ⟨eH, y⟩ := y
    subst eH
    exact hs i x H' (y xs sq) p
  · have e : i = xs.length := by omega
    subst e
    exact .inl ⟨⟨xs, sq, Nat.le_refl _⟩, hd H p⟩
/-- what a dict comprehension over the data ds wants: I i es m ahead of turn i, es made so far -/
def MadeN (F : Eff S) (K : PySem.W.Frag) (P' : Program) (w : World) (sh : List Bool) (ds : List PyData) (g : TG) (tk tv : TE) (vs : List Nat) (ρ : List Sl) (n : S) (Φ : Sl → S → Prop) : Prop :=
  ∃ I : Nat → Ent sh → S → Prop, I 0 [] n ∧ (∀ D i d es m, ds[i]? = some d → I i es m → es.length < 100000 ∧ wG (F.dic K P' w sh D) K g (.dat d) (wipeR ρ vs) (m, es) fun ρ2 k => wE (F.dic K P' w sh D) K tk ρ2 k fun r1 k1 => wE (F.dic K P' w sh D) K tv ρ2 k1 fun r2 k2 =>
    k2.2 = es ∧ ∃ (kk : NKey sh) (dd : PyData), r1 = .dat (keyD kk.1) ∧ r2 = .dat dd ∧ steady dd = true ∧ I (i + 1) (putD es kk dd) k2.1) ∧ ∀ es m, I ds.length es m → Φ (.tab P' w sh es) m
theorem w_dcN (h : wE F K te ρ n fun r m => ∃ ds, r = .dat (.list ds) ∧ MadeN F K P' w sh ds g tk tv vs ρ m Φ) (hset : Sets g vs) : wE F K (tDcN K P' w sh (iList K te) g tk tv vs) ρ n Φ := fun σ H Q j rp q =>
  h σ H _ j rp fun x H1 r m ⟨ds, e, I, h0, hs, hd⟩ j1 s1 rx => by
    subst e
    cases rx with
    | @lst a xs _ hx ha =>
      refine ⟨_, rfl, ⟨_, SqL.of (Eff.sub _ _ hx)⟩, fun D H2 nD k nd => ?_⟩
      have nO := Eff.fresh j1 nD
      have s0 : Same H1 H2 := fun b u e => by
        rw [k b (ne_of_none e nD)]
        exact e
      refine dc_list (xs := xs) (fun i H' => ∃ es m', I i es m' ∧ (F.dic K P' w sh D).J (m', es) H' ∧ Same (F.st H1) ((F.dic K P' w sh D).st H')) ⟨[], m, h0, ⟨Eff.keep s0 j1, nO, [], nd _, .nil⟩, dic_new nD k⟩ (fun i H' _ ⟨es, m', _, jj, s⟩ => SqL.of (Eff.sub _ _ (dic_sub _ _ (s _ _ hx)))) (fun i x H' hi ⟨es, m', hI, jj, s⟩ => ?_) fun H' ⟨es, m', hI, jj, s⟩ => ?_
      · obtain ⟨d, hd', dq⟩ := ha.getV hi
        obtain ⟨lt, hw⟩ := hs D i d es m' hd' hI
        refine hset x σ H' _ ?_
        refine hw x (wipe σ vs) H' _ jj (dq.mono s) (((rp.mono s1).mono s).wipe vs) fun σ2 H3 ρ2 k3 h3 j3 s3 r3 => ?_
        refine h3 σ2 H3 _ j3 r3 fun y H4 r1 k4 h4 j4 s4 r4 => ?_
        refine h4 σ2 H4 _ j4 (r3.mono s4) fun z H5 r2 k5 ⟨ek, kk, dd, e1, e2, sd, hI'⟩ j5 s5 r5 => ?_
        subst e1
        subst e2
        obtain ⟨b, rfl, ka⟩ := key_rep (show Dq K ((F.dic K P' w sh D).st H5) y (keyD kk.1) from Dq.mono s5 r4)
        obtain ⟨kvs, nd5, kd5⟩ := (DLens.dic (F := F) (K := K) (P := P') (w := w) (sh := sh) (D := D)).at_ j5
        refine ⟨_, kvs, kk, b, Eff.sub, nd5, rfl, ka, Nat.lt_of_lt_of_le (by rw [kd5.len, ek]; exact lt) (sz 100000), fun H6 k6 kp nd6 => ?_⟩
        have eSt : (F.dic K P' w sh D).st H6 = (F.dic K P' w sh D).st H5 := st_but (.inr rfl) k6
        have j6 := (DLens.dic (F := F) (K := K) (P := P') (w := w) (sh := sh) (D := D)).set j5 k6 kp nd6 (kd5.put r5 sd)
        rw [ek] at j6
        exact ⟨_, _, hI', j6, by rw [eSt]; exact s.trans (s3.trans (s4.trans s5))⟩
      · rw [ha.length] at hI
        exact q _ H' _ _ (hd es m' hI) jj.1 (s1.trans (s.trans dic_sub)) (dic_tab jj)
end
end WkD
/-! the steps over data that need no thought -/
local macro_rules | `(tactic| walk_at "gd") => `(tactic| repeat (first
  | ((with_reducible refine' WkD.w_var ?hv ?hn ?_); (case hv => exact rfl); (case hn => exact (fun z => nomatch z)))
  | with_reducible refine WkD.w_int ?_ | with_reducible refine WkD.w_str ?_ | with_reducible refine WkD.w_non ?_ | with_reducible refine WkD.w_bl ?_
  | with_reducible refine WkD.w_chain ?_ | with_reducible refine WkD.w_tyc ?_ | ((with_reducible refine' WkD.c_isi ?hu ?_); (case hu => decide))
  | with_reducible refine WkD.w_op ?_ | with_reducible refine WkD.w_un ?_ | with_reducible refine WkD.w_nil ?_ | with_reducible refine WkD.w_cons ?_ | ((with_reducible refine' WkD.w_isi2 ?ha ?hb ?_); (case ha => decide); (case hb => decide)) | with_reducible refine WkD.w_CB ?_ | with_reducible refine WkD.w_call ?_
  | with_reducible refine WkD.w_if ?_ | with_reducible refine WkD.w_andV ?_ | with_reducible refine WkD.w_orV ?_ | with_reducible refine WkD.w_notV ?_ | with_reducible refine WkD.w_test ?_ | with_reducible refine WkD.w_tB ?_ | with_reducible refine WkD.w_not ?_
  | with_reducible refine WkD.w_and ?_ | with_reducible refine WkD.w_or ?_ | with_reducible refine WkD.w_yes ?_ | with_reducible refine WkD.w_next ?_ | with_reducible refine WkD.w_seq ?_ | with_reducible refine WkD.w_ret ?_ | with_reducible refine WkD.w_retN ?_
  | with_reducible refine WkD.w_drop ?_ | with_reducible refine WkD.w_ifS ?_ | with_reducible refine WkD.w_asg ?_ | with_reducible refine WkD.w_sl ?_ | with_reducible refine WkD.w_po0 ?_ | with_reducible refine WkD.w_po1 ?_ | with_reducible refine WkD.e_si ?_ | with_reducible refine WkD.l_A ?_ | with_reducible refine WkD.l_L ?_ | with_reducible refine WkD.w_cont ?_ | with_reducible refine WkD.w_break ?_ | with_reducible refine WkD.w_gt2 ?_ | with_reducible refine WkD.w_gt3 ?_ | with_reducible refine WkD.w_gcons ?_ | with_reducible refine WkD.w_gnil ?_ | with_reducible refine WkD.w_name ?_ | with_reducible refine WkD.w_par ?_
  | with_reducible refine WkD.r_I0i ?_ | with_reducible refine WkD.r_I0b ?_ | with_reducible refine WkD.u_U ?_ | with_reducible refine WkD.r_eqI ?_ | with_reducible refine WkD.r_neI ?_ | with_reducible refine WkD.r_eqS ?_ | with_reducible refine WkD.r_eqB ?_
  | ((with_reducible refine' WkD.r_ix ?hi ?_); (case hi => exact rfl)) | ((with_reducible refine' WkD.r_ixl ?hi ?_); (case hi => exact rfl))
  | ((with_reducible refine' WkD.r_ixT ?hi ?_); (case hi => exact rfl)) | ((with_reducible refine' WkD.r_ixL ?hi ?_); (case hi => exact rfl))
  | with_reducible refine WkD.c_gcd ?_ | with_reducible refine WkD.c_abs ?_ | with_reducible refine WkD.c_int ?_ | with_reducible refine WkD.e_bool ?_ | with_reducible refine WkD.w_tup ?_ | with_reducible refine WkD.w_lst ?_ | with_reducible refine WkD.e_ab ?_ | with_reducible refine WkD.d0 ?_ | with_reducible refine WkD.d1 ?_ | with_reducible refine WkD.d2 ?_ | with_reducible refine WkD.d3 ?_ | with_reducible refine WkD.d4 ?_))



namespace K35
open PySem PySem.Spec PyProof.Rows L2 WkH WkE WkQ WkS WkF WkD WkN WkC
section
variable {P : Program} {w : World} {K : PySem.W.Frag} {mg : Str → Option Value} {base : Heap}
/-- a fraction as a key -/
def keyOf (r : Rat) : NKey [false, false] := ⟨[.k (.inl r.num), .k (.inl (r.den : Int))], rfl⟩
theorem keyOf_inj {r s : Rat} (h : keyOf r = keyOf s) : r = s := by
  have h1 := congrArg Subtype.val h
  simp only [keyOf, List.cons.injEq, NK.k.injEq, Sum.inl.injEq] at h1
  exact Rat.ext h1.1 (by omega)
theorem putD_len {sh : List Bool} (es : Ent sh) (k : NKey sh) (d : PyData) : (putD es k d).length ≤ es.length + 1 := by
  unfold putD
  split
  · rw [List.length_map]
    omega
  · rw [List.length_append]
    exact Nat.le_refl _
noncomputable def out_few_draws (q : PyData × PyData × PyData × PyData) : PyData := frD (K35M.V (boxOf q.1) (frOf q.2.1) (natOf q.2.2.2) (frOf q.2.2.1))
abbrev sp_few_draws : Sp := spX K enc4 (fun q => sm4 q ∧ Szd q.1) out_few_draws bad4
 
 theorem sc_few_draws : FnScope ["box", "cost", "worth", "count", "marks", "values", "_", "further", "mark", "mean", "some", "chance"] ["box", "cost", "worth", "count"] d_few_draws.sco := ⟨rfl, rfl, rfl, by decide +kernel, rfl, by decide +kernel, by decide +kernel⟩
theorem ok_few_draws {fd : FuncData} (F : Stands K d_few_draws fd) (Fc : Fn P w K mg base (L2.CX P w) 8 "check_draws" ["box", "cost", "worth", "count"] (spCheck_check_draws (K := K))) (T : Bg K mg) (Fs : Fn P w K mg base CX0 3 "sum_of" ["fractions"] (spSum (K := K))) (Fm : Fn P w K mg base CX0 2 "multiply" ["one", "other"] (spMultiply (K := K))) (Fu : Fn P w K mg base CX0 2 "subtract" ["one", "other"] (spSubtract (K := K))) (Fg : Fn P w K mg base CX0 3 "greatest" ["fractions"] (spGreatest (K := K))) (Fz : Fn P w K mg base CX0 2 "ascending" ["fractions"] (spAscending (K := K))) : FnOk P w K mg base (L2.CX P w) 9 d_few_draws.adr fd ["box", "cost", "worth", "count"] (sp_few_draws (K := K)) := by
  refine FunD.ok F sc_few_draws (fun vs H Q E h => len_X h fun _ => rfl) (fun cdv A outer s H vs Q E hr h => ⟨_, (pss_cons (ps_expr (pe_fnX Fc (passes_call (takes_of rfl rfl rfl rfl) (fun _ _ _ _ h => h)) hr rfl (pa_cons (pv 0) (pa_cons (pv 1) (pa_cons (pv 2) (pa_cons (pv 3) pa_nil))))))
  (pss_cons (ps_set (i := 4) sc_few_draws.nd rfl (by first | exact Or.inl rfl | exact Or.inr rfl) (pe_fn Fz hr rfl (pa_cons (pe_callB (cr_sortedQ rfl) rfl T.sorted WkB.b_sorted (pa_cons (pe_callTy (cr_setOfT rfl (by have := hr.un; dsimp only [cxOf, Cx.nox]; omega)) rfl T.set WkB.b_set (pa_cons (pe_lst (pa_cons (pv 2) (StX.pa_star (pe_lc (own := [("some", 10), ("chance", 11)]) (g := (gTup K 2 (gCons (gName 10) (gCons (gName 11) gNil)))) rfl sc_few_draws.nd (pi_tup (pv 0)) (blkOk_by (own := [("some", 10), ("chance", 11)]) (N := ["box", "cost", "worth", "count", "marks", "values", "_", "further", "mark", "mean", "some", "chance"]) (sc := d_few_draws.sco) (by decide +kernel)) (fun _ _ _ _ _ => (pg_tup rfl (pgs_cons (pg_name (i := 10) sc_few_draws.nd rfl (by first | exact Or.inl rfl | exact Or.inr rfl)) (pgs_cons (pg_name (i := 11) sc_few_draws.nd rfl (by first | exact Or.inl rfl | exact Or.inr rfl)) pgs_nil)))) (fun _ _ _ _ _ => pts_nil) (fun _ _ _ _ _ => (pv 10))) pa_nil))) pa_nil)) pa_nil)) pa_nil)))
  (pss_cons (ps_set (i := 5) sc_few_draws.nd rfl (by first | exact Or.inl rfl | exact Or.inr rfl) (WkC.pe_dcN (sh := [false, false]) (own := [("mark", 8)]) (g := (gName 8)) (by have := hr.un; dsimp only [cxOf, Cx.nox]; omega) rfl sc_few_draws.nd (pi_list (pv 4)) (blkOk_by (own := [("mark", 8)]) (N := ["box", "cost", "worth", "count", "marks", "values", "_", "further", "mark", "mean", "some", "chance"]) (sc := d_few_draws.sco) (by decide +kernel)) (fun _ _ _ _ _ => (pg_name (i := 8) sc_few_draws.nd rfl (by first | exact Or.inl rfl | exact Or.inr rfl))) (fun _ _ _ _ _ => (pv 8)) (fun _ _ _ _ _ => (pv 8))))
  (pss_cons (ps_for (passes_of rfl) rfl (pi_range1 rfl T.range (pa_cons (pv 3) pa_nil)) (pg_name (i := 6) sc_few_draws.nd rfl (by first | exact Or.inl rfl | exact Or.inr rfl)) (pss_cons (ps_set (i := 7) sc_few_draws.nd rfl (by first | exact Or.inl rfl | exact Or.inr rfl) (WkN.pe_nnew (sh := [false, false])))
  (pss_cons (ps_for (passes_of rfl) rfl (pi_list (pv 4)) (pg_name (i := 8) sc_few_draws.nd rfl (by first | exact Or.inl rfl | exact Or.inr rfl)) (pss_cons (ps_set (i := 9) sc_few_draws.nd rfl (by first | exact Or.inl rfl | exact Or.inr rfl) (pe_fn Fs hr rfl (pa_cons (pe_lc (own := [("some", 10), ("chance", 11)]) (g := (gTup K 2 (gCons (gName 10) (gCons (gName 11) gNil)))) rfl sc_few_draws.nd (pi_tup (pv 0)) (blkOk_by (own := [("some", 10), ("chance", 11)]) (N := ["box", "cost", "worth", "count", "marks", "values", "_", "further", "mark", "mean", "some", "chance"]) (sc := d_few_draws.sco) (by decide +kernel)) (fun _ _ _ _ _ => (pg_tup rfl (pgs_cons (pg_name (i := 10) sc_few_draws.nd rfl (by first | exact Or.inl rfl | exact Or.inr rfl)) (pgs_cons (pg_name (i := 11) sc_few_draws.nd rfl (by first | exact Or.inl rfl | exact Or.inr rfl)) pgs_nil)))) (fun _ _ _ _ _ => pts_nil) (fun _ _ _ _ _ => (pe_fn Fm hr rfl (pa_cons (pv 11) (pa_cons (show PE _ _ (WkN.tNGet K P w [false, false] _ _) from WkN.pe_nget (sh := [false, false]) (by have := hr.un; dsimp only [cxOf, Cx.nox, Cx.blk]; omega) (pv 5) (pe_fn Fg hr rfl (pa_cons (pe_lst (pa_cons (pv 8) (pa_cons (pv 10) pa_nil))) pa_nil)) (fun _ _ => rfl)) pa_nil))))) pa_nil)))
  (pss_one (ps_asg (pe_fn Fg hr rfl (pa_cons (pe_lst (pa_cons (pv 8) (pa_cons (pe_fn Fu hr rfl (pa_cons (pv 9) (pa_cons (pv 1) pa_nil))) pa_nil))) pa_nil)) (pg_sub (pv 7) (pv 8) (WkN.set_n (sh := [false, false]) (by have := hr.un; dsimp only [cxOf, Cx.nox]; omega)))))))
  (pss_one (ps_set (i := 5) sc_few_draws.nd rfl (by first | exact Or.inl rfl | exact Or.inr rfl) (pv 7))))))
  (pss_one (ps_ret (WkN.pe_nget (sh := [false, false]) (by have := hr.un; dsimp only [cxOf, Cx.nox]; omega) (pv 5) (pv 2) (fun _ _ => rfl)))))))), ?_⟩)
  obtain ⟨S, F, n, ⟨d0, d1, d2, d3⟩, jn, dq, hp, hok, hbad⟩ := h
  obtain ⟨v0, v1, v2, v3, rfl, q0, q1, q2, q3⟩ := dq4 dq
  obtain ⟨hsm, hz⟩ := hp
  try dsimp only [cxOf]
  with_reducible refine e_seq ?_
  with_reducible refine e_drop ?_
  with_reducible refine e_call ?_
  walk_at "go"
  refine ⟨S, F, n, (d0, d1, d2, d3), jn, .cons (q0) (.cons (q1) (.cons (q2) (.cons (q3) (.nil)))), hsm, fun hb _ H1 j1 s1 _ => ?_, hbad⟩
  dsimp only
  refine rest_X (F := F) (n := n) (out := out_few_draws (d0, d1, d2, d3)) j1 (.cons (q0.mono s1) (.cons (q1.mono s1) (.cons (q2.mono s1) (.cons (q3.mono s1) (.nil))))) ?_ fun v H' j' s' rv => hok hb v H' j' (s1.trans s') rv
  obtain ⟨b, c, x, k, rfl, rfl, rfl, rfl, hb, hc, hk⟩ := none4 hb
  obtain ⟨A, S, z⟩ := hz b rfl hb
  have hcb : Bits 400 c := (small_fr hsm.2.1).mono (by decide)
  rw [out_few_draws, boxOf_eq, frOf_eq, frOf_eq, natOf_eq]
  have k12 : k ≤ 12 := hk
  have hx := small_fr hsm.2.2.1
  have hc1 := small_fr hsm.2.1
  have l2 := hb.l2
  obtain ⟨X, B⟩ := base_ex z hx hc1
  with_reducible refine w_seq ?_
  with_reducible refine w_asg ?_
  with_reducible refine w_call ?_
  with_reducible refine w_cons ?_
  refine w_sortedSet ?_
  walk_at "gd"
  refine w_star ?_
  refine w_lcT ?_ (sets_two (by decide) (by decide))
  walk_at "gd"
  refine ⟨_, rfl, by rw [List.length_map]; omega, made_map (xs := b) (enc := rowD) (out := fun q => frD q.1) (fun D ys i q hq => ?_) ?_⟩
  · walk_at "gd"
    exact ⟨rfl, rfl⟩
  refine ⟨_, rfl, ?_⟩
  walk_at "gd"
  refine ⟨(x :: b.map (·.1)).map frD, by simp [Function.comp_def], by simp; omega, ?_⟩
  refine ⟨x :: b.map (·.1), rfl, by simp; omega, fun rs' hmem nd lt => ?_⟩
  walk_at "gd"
  have xin : In X (2 ^ 200) x := B.ix.mono B.pX (Nat.dvd_refl _) (Nat.pow_le_pow_right (by decide) (by decide))
  have inX : ∀ y ∈ rs', In X (2 ^ 200) y := fun y hy => by
    rcases List.mem_cons.mp ((hmem y).mp hy) with rfl | h
    · exact xin
    · obtain ⟨q, hq, rfl⟩ := List.mem_map.mp h
      exact B.worth0 hq
  have X2 : X < 2 ^ 2000 := Nat.lt_trans B.hX (by decide +kernel)
  have b4 : ∀ {y : Rat}, In X (2 ^ 200) y → Bits 4000 y := fun h => in4 h X2 (by decide +kernel)
  refine c_fn (enc := listR) rs' ⟨by omega, fun y hy => b4 (inX y hy)⟩ ?_
  have hms : ∀ y, y ∈ ascR rs' ↔ y = x ∨ ∃ q ∈ b, q.1 = y := fun y => by
    rw [ascR_mem, hmem, List.mem_cons, List.mem_map]
  have msX : ∀ y ∈ ascR rs', In X (2 ^ 200) y := fun y hy => inX y (ascR_mem.mp hy)
  have lms : (ascR rs').length < 64 := by
    have := asc_len (rs := rs') (found := [])
    rw [ascR, this]
    simpa using lt
  generalize ascR rs' = ms at hms msX lms
  walk_at "gd"
  refine w_dcN ?_ (sets_name (by decide))
  walk_at "gd"
  refine ⟨_, rfl, fun i es m => m = n ∧ es.length ≤ i ∧ ∀ j, j < i → ∀ y, ms[j]? = some y → valD es (keyOf y) = some (frD y), ⟨rfl, Nat.le_refl _, fun j hj => absurd hj (Nat.not_lt_zero j)⟩, fun D i d es m hi hI => ?_, fun es m hI => ?_⟩
  · obtain ⟨rfl, hl, hv⟩ := hI
    obtain ⟨y, hy, rfl⟩ := get_map hi
    have li := (List.getElem?_eq_some_iff.mp hy).1
    refine ⟨by omega, ?_⟩
    walk_at "gd"
    refine ⟨rfl, keyOf y, frD y, rfl, rfl, rfl, rfl, ?_, fun j hj u hu => ?_⟩
    · exact Nat.le_trans (putD_len _ _ _) (by omega)
    · rw [valD_put]
      by_cases e : keyOf u = keyOf y
      · rw [if_pos e, keyOf_inj e]
      · rw [if_neg e]
        refine hv j ?_ u hu
        rcases Nat.lt_or_ge j i with z | z
        · exact z
        · have : j = i := by omega
          subst this
          rw [hy] at hu
          cases hu
          exact absurd rfl e
  obtain ⟨rfl, hl, hv⟩ := hI
  have hv0 : ∀ y ∈ ms, valD es (keyOf y) = some (frD (K35M.V b c 0 y)) := fun y hy => by
    obtain ⟨j, hj⟩ := List.getElem?_of_mem hy
    exact hv j (by rw [List.length_map]; exact (List.getElem?_eq_some_iff.mp hj).1) y hj
  clear hv
  walk_at "gd"
  refine w_forR1 ?_
  walk_at "gd"
  refine ⟨_, rfl, by omega, by omega, ?_⟩
  rw [Int.toNat_natCast]
  refine ⟨fun t ρ m' => m' = m ∧ ∃ es g h i j, (∀ y ∈ ms, valD es (keyOf y) = some (frD (K35M.V b c t y))) ∧ ρ = [.dat (boxD b), .dat (frD c), .dat (frD x), .dat (.int k), .dat (.list (ms.map frD)), .tab P w [false, false] es, g, h, i, j, .no, .no], ⟨rfl, es, _, _, _, _, hv0, rfl⟩, fun t d ρ m' hi hI => ?_, fun ρ m' hI => ?_⟩
  · obtain ⟨rfl, es, g, h, i, j, hv, rfl⟩ := hI
    have lt' : t < k := by
      have := (List.getElem?_eq_some_iff.mp hi).1
      rwa [intsD_length] at this
    have e1 : X * S ^ t < 2 ^ 1900 := B.small (by omega)
    have e1' : X * S ^ t < 2 ^ 2000 := Nat.lt_trans e1 (by decide +kernel)
    have e2 : 2 ^ (200 + 6 * t) ≤ 2 ^ 1500 := Nat.pow_le_pow_right (by decide) (by omega)
    with_reducible refine w_name ?_
    refine w_dnew fun D => ?_
    walk_at "gd"
    refine w_forL ?_
    walk_at "gd"
    refine ⟨_, rfl, fun u ρ μ => ∃ es2 i j g, ρ = [.dat (boxD b), .dat (frD c), .dat (frD x), .dat (.int k), .dat (.list (ms.map frD)), .tab P w [false, false] es, g, .raw (.ref D), i, j, .no, .no] ∧ μ = (m', es2) ∧ es2.length ≤ u ∧ ∀ j, j < u → ∀ y, ms[j]? = some y → valD es2 (keyOf y) = some (frD (K35M.V b c (t + 1) y)), ⟨[], _, _, _, rfl, rfl, Nat.le_refl _, fun j hj => absurd hj (Nat.not_lt_zero j)⟩, fun u d ρ μ hu hI => ?_, fun ρ μ hI => ?_⟩
    · obtain ⟨es2, i, j, g, rfl, rfl, hl2, hv2⟩ := hI
      obtain ⟨y, hy, rfl⟩ := get_map hu
      have lu := (List.getElem?_eq_some_iff.mp hy).1
      have yms := List.mem_of_getElem? hy
      have yX := msX y yms
      have mem2 : ∀ q ∈ b, K35M.mx y q.1 ∈ ms := fun q hq => by
        unfold K35M.mx
        split
        · exact (hms _).mpr (.inr ⟨q, hq, rfl⟩)
        · exact yms
      walk_at "gd"
      refine w_lcT ?_ (sets_two (by decide) (by decide))
      walk_at "gd"
      have hV : ∀ q ∈ b, In (X * S ^ t) (2 ^ (200 + 6 * t)) (K35M.V b c t (K35M.mx y q.1)) := fun q hq => B.V (by omega) (in_mx yX (B.worth0 hq))
      refine ⟨_, rfl, by rw [List.length_map]; omega, made_map (xs := b) (enc := rowD) (out := fun q => frD (q.2 * K35M.V b c t (K35M.mx y q.1))) (fun D ys i q hq => ?_) ?_⟩
      · have hq' := List.mem_of_getElem? hq
        walk_at "gd"
        refine w_tget rfl ?_
        walk_at "gd"
        refine c_fn (enc := listR) [y, q.1] ⟨by simp, fun r hr => ?_⟩ ?_
        · rcases List.mem_cons.mp hr with rfl | hr
          · exact b4 yX
          · rcases List.mem_cons.mp hr with rfl | hr
            · exact b4 (B.worth0 hq')
            · cases hr
        rw [greatest2]
        refine ⟨keyOf (K35M.mx y q.1), _, rfl, hv _ (mem2 q hq'), ?_⟩
        walk_at "gd"
        refine c_fn (enc := twoR) (q.2, K35M.V b c t (K35M.mx y q.1)) ⟨(z.c4 hq').mono (by decide), in4 (hV q hq') e1' e2⟩ ?_
        exact ⟨rfl, rfl⟩
      walk_at "gd"
      have hs := z.means (g := fun w => K35M.V b c t (K35M.mx y w)) e1 e2 (B.pos t) hV
      refine c_fnE (enc := listR) (b.map fun q => q.2 * K35M.V b c t (K35M.mx y q.1)) (by rw [listR, List.map_map]; rfl) hs.1 ?_
      rw [sum_mean _ (fun w => K35M.V b c t (K35M.mx y w)) fun _ => rfl]
      have st := B.step (f := fun w => K35M.V b c t (K35M.mx y w)) hV (by omega)
      have e3 : S * (X * S ^ t) < 2 ^ 2000 := Nat.lt_of_le_of_lt (Nat.mul_le_mul (Nat.le_of_lt z.hS) (Nat.le_of_lt e1)) (by decide +kernel)
      have e4 : 32 * 2 ^ (200 + 6 * t) ≤ 2 ^ 1500 := Nat.le_trans (Nat.mul_le_mul_left 32 (Nat.pow_le_pow_right (by decide) (show 200 + 6 * t ≤ 272 by omega))) (by decide +kernel)
      walk_at "gd"
      refine c_fn (enc := twoR) (_, c) ⟨in4 st.1 e3 e4, hcb.mono (by decide)⟩ ?_
      walk_at "gd"
      refine c_fn (enc := listR) [y, K35M.mean (fun w => K35M.V b c t (K35M.mx y w)) b - c] ⟨by simp, fun r hr => ?_⟩ ?_
      · rcases List.mem_cons.mp hr with rfl | hr
        · exact b4 yX
        · rcases List.mem_cons.mp hr with rfl | hr
          · exact in4 st.2 (Nat.lt_trans (B.small (by omega)) (by decide +kernel)) (Nat.pow_le_pow_right (by decide) (by omega))
          · cases hr
      rw [greatest2]
      refine w_dput DLens.dic rfl ?_
      walk_at "gd"
      refine ⟨keyOf y, _, rfl, rfl, rfl, by show es2.length < _; omega, ?_⟩
      refine ⟨_, _, _, _, rfl, rfl, Nat.le_trans (putD_len _ _ _) (Nat.succ_le_succ hl2), fun j hj u' hu' => ?_⟩
      rw [valD_put]
      by_cases e : keyOf u' = keyOf y
      · rw [if_pos e, keyOf_inj e]
        rfl
      · rw [if_neg e]
        refine hv2 j ?_ u' hu'
        rcases Nat.lt_or_ge j u with z | z
        · exact z
        · have : j = u := by omega
          subst this
          rw [hy] at hu'
          cases hu'
          exact absurd rfl e
    · obtain ⟨es2, i, j, g, rfl, rfl, hl2, hv2⟩ := hI
      walk_at "gd"
      refine ⟨rfl, es2, _, _, _, _, fun y hy => ?_, by simp [shut, shut1]; exact ⟨rfl, rfl, rfl, rfl⟩⟩
      obtain ⟨j, hj⟩ := List.getElem?_of_mem hy
      exact hv2 j (by rw [List.length_map]; exact (List.getElem?_eq_some_iff.mp hj).1) y hj
  · obtain ⟨rfl, es, g, h, i, j, hv, rfl⟩ := hI
    rw [intsD_length] at hv
    walk_at "gd"
    refine w_tget rfl ?_
    walk_at "gd"
    exact ⟨keyOf x, _, rfl, hv x ((hms x).mpr (.inl rfl)), rfl, rfl⟩

end
end K35
/-! Boxes of draws; while; small built-ins over data. -/
namespace WkD
open PySem PySem.Spec PyProof.Rows L2 WkH WkQ WkS WkF WkN
/-- what stands in a box of draws: the number that gives digits, whether it is great, the seed, how many draws were mixed -/
def bx (g : Int) (big : Bool) (m c : Int) : List V := [.int g, .bl big, .int m, .int c]
structure BxOk (g m c : Int) (n : Nat) : Prop where
  g0 : 0 ≤ g
  m0 : 0 ≤ m
  m1 : m < 2147483629
  c0 : 0 ≤ c
  c1 : c ≤ n
def BoxAt (H : Hp) (b : Addr) (n : Nat) : Prop := ∃ g big m c, H b = some (.lst (bx g big m c)) ∧ BxOk g m c n
theorem BoxAt.mono {H : Hp} {b : Addr} {n k : Nat} (h : BoxAt H b n) (l : n ≤ k) : BoxAt H b k :=
  let ⟨g, big, m, c, e, o⟩ := h
  ⟨g, big, m, c, e, o.g0, o.m0, o.m1, o.c0, by have := o.c1; omega⟩
def spCell (K : PySem.W.Frag) : Sp := fun vs H Q _ => ∃ (a : Addr) (ns : List Int) (k : Nat), vs = [.ref a, .int k] ∧ SqL K H a (ns.map V.int) ∧ k < 100 ∧ ∀ i H', Same H H' → Q (.int i) H'
def spDraw : Sp := fun vs H Q _ => ∃ i : Int, vs = [.int i] ∧ ∀ p H', H p = none → Same H H' → BoxAt H' p 0 → Q (.ref p) H'
def spTake : Sp := fun vs H Q _ => ∃ (b : Addr) (n : Nat) (many : Int), vs = [.ref b, .int many] ∧ BoxAt H b n ∧ n ≤ 100000 ∧ 1 ≤ many ∧ many < 1073741824 ∧
  ∀ (r : Int) (ys : List V), 0 ≤ r → r < many → BoxAt (upd H b (.lst ys)) b (n + 1) → Q (.int r) (upd H b (.lst ys))
section
variable {S : Type} {F : Eff S} {K : PySem.W.Frag} {P' : Program} {w : World} {sh : List Bool}
/-- F, and the box of draws at b: so many draws at most so far -/
def Eff.drw (F : Eff S) (b : Addr) : Eff (S × Nat) where
  own := fun a => F.own a ∨ a = b
  J := fun s H => F.J s.1 H ∧ ¬ F.own b ∧ BoxAt H b s.2
  at_ := fun {n H a} j h => by
    rcases h with h | h
    · exact F.at_ j.1 h
    · obtain ⟨_, _, g, big, m, c, e, _⟩ := j
      rw [h, e]
      exact fun z => nomatch z
  loc := fun {n H H'} e kp j => by
    obtain ⟨j1, nb, g, big, m, c, hb, ok⟩ := j
    exact ⟨F.loc (fun a h => e a (.inl h)) kp j1, nb, g, big, m, c, (e b (.inr rfl)).trans hb, ok⟩
theorem drw_sub {b : Addr} {H : Hp} : Same ((F.drw b).st H) (F.st H) := fun a u h => by
  unfold Eff.st at h ⊢
  split at h
  · cases h
  · rename_i z
    rw [if_neg fun y => z (.inl y)]
    exact h
theorem drw_ne {a b : Addr} {H : Hp} (h : a ≠ b) : (F.drw b).st H a = F.st H a := by
  unfold Eff.st
  by_cases z : F.own a
  · rw [if_pos z, if_pos (show (F.drw b).own a from .inl z)]
  · rw [if_neg z, if_neg (show ¬ (F.drw b).own a from fun y => y.elim z h)]
/-- the box of draws at b among what is out of sight -/
structure DrwLens (G : Eff S) (b : Addr) (cnt : S → Nat) (up : S → S) : Prop where
  own : G.own b
  at_ : ∀ {s H}, G.J s H → BoxAt H b (cnt s)
  set : ∀ {s H ys}, G.J s H → BoxAt (upd H b (.lst ys)) b (cnt s + 1) → G.J (up s) (upd H b (.lst ys))
  one : ∀ s, cnt (up s) = cnt s + 1
theorem box_lst {b : Addr} {n : Nat} {H : Hp} (h : BoxAt H b n) : ∃ ws, H b = some (.lst ws) := let ⟨_, _, _, _, e, _⟩ := h; ⟨_, e⟩
theorem lst_keeps {H : Hp} {b : Addr} {ws : List V} {u : HO} (h : H b = some (.lst ws)) : Keeps H (upd H b u) := Keeps.upd h (fun _ z => nomatch z) fun _ _ z => nomatch z
theorem DrwLens.drw {b : Addr} : DrwLens (F.drw b) b (·.2) (fun s => (s.1, s.2 + 1)) where
  own := .inr rfl
  at_ := fun j => j.2.2
  set := fun {s H ys} j h => by
    obtain ⟨ws, e⟩ := box_lst j.2.2
    exact ⟨F.loc (fun a ha => upd_ne fun z => j.2.1 (z ▸ ha)) (lst_keeps e) j.1, j.2.1, h⟩
  one := fun _ => rfl
theorem DrwLens.cell {G : Eff S} {b D : Addr} {cnt : S → Nat} {up : S → S} (L : DrwLens G b cnt up) : DrwLens (G.cell K D) b (fun s => cnt s.1) (fun s => (up s.1, s.2)) where
  own := .inl L.own
  at_ := fun j => L.at_ j.1
  set := fun {s H ys} j h => by
    obtain ⟨j1, nD, st, ws, hD, dq⟩ := j
    have ne : D ≠ b := fun z => nD (z ▸ L.own)
    refine ⟨L.set j1 h, nD, st, ws, (upd_ne ne).trans hD, ?_⟩
    rw [st_upd L.own]
    exact dq
  one := fun s => L.one s.1
theorem DrwLens.dic {G : Eff S} {b D : Addr} {cnt : S → Nat} {up : S → S} (L : DrwLens G b cnt up) : DrwLens (G.dic K P' w sh D) b (fun s => cnt s.1) (fun s => (up s.1, s.2)) where
  own := .inl L.own
  at_ := fun j => L.at_ j.1
  set := fun {s H ys} j h => by
    obtain ⟨j1, nD, kvs, nd, kd⟩ := j
    have ne : D ≠ b := fun z => nD (z ▸ L.own)
    refine ⟨L.set j1 h, nD, kvs, ?_, ?_⟩
    · rw [st_upd L.own]
      exact nd.keep (fun _ _ _ e => e) (upd_ne ne)
    · rw [st_upd L.own]
      exact kd
  one := fun s => L.one s.1
theorem DrwLens.hide {G : Eff S} {b D : Addr} {xs : List V} {cnt : S → Nat} {up : S → S} (L : DrwLens G b cnt up) (ne : ¬ G.own D) : DrwLens (G.hide D xs) b cnt up where
  own := .inl L.own
  at_ := fun j => L.at_ j.1
  set := fun {s H ys} j h => by
    have ne' : D ≠ b := fun z => ne (z ▸ L.own)
    exact ⟨L.set j.1 h, (upd_ne ne').trans j.2⟩
  one := L.one
theorem DrwLens.fix {G : Eff S} {b D : Addr} {ws : List V} {ds : List PyData} {cnt : S → Nat} {up : S → S} (L : DrwLens G b cnt up) (ne : D ≠ b) : DrwLens (G.fix K D ws ds) b cnt up where
  own := L.own
  at_ := fun j => L.at_ j.1
  set := fun {s H ys} j h => ⟨L.set j.1 h, j.2.1, (upd_ne ne).trans j.2.2.1, by rw [st_upd L.own]; exact j.2.2.2.1, j.2.2.2.2⟩
  one := L.one
def upN {S : Type} (up : S → S) : Nat → S → S
  | 0, s => s
  | k + 1, s => up (upN up k s)
theorem upN_cnt {G : Eff S} {b : Addr} {cnt : S → Nat} {up : S → S} (L : DrwLens G b cnt up) (k : Nat) (s : S) : cnt (upN up k s) = cnt s + k := by
  induction k with
  | zero => rfl
  | succ k ih =>
    show cnt (up (upN up k s)) = _
    rw [L.one, ih]
    omega
theorem upN_add {up : S → S} (j k : Nat) (s : S) : upN up j (upN up k s) = upN up (j + k) s := by
  induction j with
  | zero => rw [Nat.zero_add]; rfl
  | succ j ih =>
    rw [Nat.succ_add]
    show up (upN up j (upN up k s)) = up (upN up (j + k) s)
    rw [ih]
end
section
variable {S : Type} {F : Eff S} {K : PySem.W.Frag} {ρ : List Sl} {n : S} {Φ : Sl → S → Prop} {P : Po S} {ta te : TE} {c : TT} {tb : TS} {b : Addr} {cnt : S → Nat} {up : S → S}
theorem c_take (L : DrwLens F b cnt up) {many : Int} (hn : cnt n ≤ 100000) (m1 : 1 ≤ many) (m2 : many < 1073741824) (q : ∀ r : Int, 0 ≤ r → r < many → Φ (.dat (.int r)) (up n)) : wC F K (fun vs H Q => spTake vs H Q E0) [.raw (.ref b), .dat (.int many)] n Φ := fun vs H Q jn ra k => by
  cases ra with
  | cons r1 ra =>
    cases ra with
    | cons r2 ra =>
      cases ra
      cases r2
      obtain rfl : _ = V.ref b := r1
      refine ⟨b, cnt n, many, rfl, L.at_ jn, hn, m1, m2, fun r ys r0 r1 h => ?_⟩
      have e : F.st (upd H b (.lst ys)) = F.st H := st_upd L.own
      exact k _ _ _ _ (q r r0 r1) (L.set jn h) (by rw [e]; exact Same.refl _) (.int r)
/-- a def that draws: of b and the data enc a, with at most k a draws, it comes to some d with post a d -/
def spDr (K : PySem.W.Frag) {α : Type} (enc : α → List PyData) (pre : α → Prop) (k : α → Nat) (post : α → PyData → Prop) : Sp := fun vs H Q _ => ∃ (S : Type) (F : Eff S) (n : S) (a : α) (b : Addr) (cnt : S → Nat) (up : S → S) (us : List V), DrwLens F b cnt up ∧ F.J n H ∧ vs = .ref b :: us ∧
  DqAll K (F.st H) us (enc a) ∧ pre a ∧ cnt n + k a ≤ 100000 ∧ ∀ j v H' d, j ≤ k a → F.J (upN up j n) H' → Same (F.st H) (F.st H') → Dq K (F.st H') v d → post a d → Q v H'
theorem len_Dr {α : Type} {enc : α → List PyData} {pre : α → Prop} {k : α → Nat} {post : α → PyData → Prop} {vs : List V} {H : Hp} {Q : VK} {E : XK} {l : Nat} (h : spDr K enc pre k post vs H Q E) (hk : ∀ a, (enc a).length + 1 = l) : vs.length = l := by
  obtain ⟨_, F, n, a, b, cnt, up, us, _, _, rfl, dq, _⟩ := h
  rw [List.length_cons, dq.length, hk]
theorem body_Dr {α : Type} {enc : α → List PyData} {pre : α → Prop} {k : α → Nat} {post : α → PyData → Prop} {t : TS} {N : List Str} {vs : List V} {H : Hp} {Q : VK} {E : XK} (h : spDr K enc pre k post vs H Q E)
    (hw : ∀ {S : Type} (F : Eff S) (n : S) (a : α) (b : Addr) (cnt : S → Nat) (up : S → S), DrwLens F b cnt up → pre a → cnt n + k a ≤ 100000 → wS F K t (.raw (.ref b) :: (enc a).map .dat ++ List.replicate (N.length - ((enc a).length + 1)) .no) n { nx := fun _ _ => False, rt := fun r m => ∃ j d, j ≤ k a ∧ m = upN up j n ∧ r = .dat d ∧ post a d }) :
    t { nx := fun _ H' => Q .non H', rt := Q } (L2.start N vs) H := by
  obtain ⟨S, F, n, a, b, cnt, up, us, L, jn, rfl, dq, hp, hc, q⟩ := h
  have start : RepS K (F.st H) (L2.start N (.ref b :: us)) (.raw (.ref b) :: (enc a).map .dat ++ List.replicate (N.length - ((enc a).length + 1)) .no) := by
    unfold L2.start
    rw [List.map_cons, List.length_cons, dq.length, List.cons_append, List.cons_append]
    refine .cons (s := .raw (.ref b)) rfl ?_
    have tail : ∀ k, RepS K (F.st H) (List.replicate k none) (List.replicate k .no) := fun k => by
      induction k with
      | zero => exact .nil
      | succ k ih => exact .cons True.intro ih
    generalize N.length - ((enc a).length + 1) = k
    have go : ∀ {vs : List V} {ds : List PyData}, DqAll K (F.st H) vs ds → RepS K (F.st H) (vs.map some ++ List.replicate k none) (ds.map .dat ++ List.replicate k .no) := by
      intro vs
      induction vs with
      | nil =>
        intro ds h
        cases h
        exact tail k
      | cons v vs ih =>
        intro ds h
        cases h with
        | cons h1 h2 => exact .cons ⟨v, rfl, h1⟩ (ih h2)
    exact go dq
  refine hw F n a b cnt up L hp hc _ H _ jn start ⟨fun _ _ _ _ z => z.elim, fun v H' r m p j s rv => ?_, fun _ _ _ _ z => z.elim, fun _ _ _ _ z => z.elim⟩
  obtain ⟨i, d, hi, rfl, rfl, po⟩ := p
  exact q i v H' d hi j s rv po
theorem c_dr {α : Type} {enc : α → List PyData} {pre : α → Prop} {k : α → Nat} {post : α → PyData → Prop} {as : List Sl} (a : α) (he : as = .raw (.ref b) :: (enc a).map .dat) (L : DrwLens F b cnt up) (hp : pre a) (hc : cnt n + k a ≤ 100000) (q : ∀ j d, j ≤ k a → post a d → Φ (.dat d) (upN up j n)) :
    wC F K (fun vs H Q => spDr K enc pre k post vs H Q E0) as n Φ := fun vs H Q jn ra kk => by
  subst he
  cases ra with
  | cons r1 ra =>
    obtain rfl : _ = V.ref b := r1
    exact ⟨S, F, n, a, b, cnt, up, _, L, jn, rfl, ra.dats, hp, hc, fun j v H' d hj j' s dq po => kk v H' (.dat d) _ (q j d hj po) j' s dq⟩
/-! ### while, abs, int -/
theorem w_while (I : List Sl → S → Prop) (μ : List Sl → S → Nat) (h0 : I ρ n) (hs : ∀ ρ' m, I ρ' m → wT F K c ρ' m fun b k => (b = true → wS F K tb ρ' k { nx := fun ρ2 k2 => I ρ2 k2 ∧ μ ρ2 k2 < μ ρ' m, rt := P.rt, bk := P.nx, ct := fun ρ2 k2 => I ρ2 k2 ∧ μ ρ2 k2 < μ ρ' m }) ∧ (b = false → P.nx ρ' k)) :
    wS F K (tWhile c tb) ρ n P := fun σ H D j rp M => by
  refine ⟨fun N σ' H' => ∃ ρ' m, N = μ ρ' m ∧ I ρ' m ∧ F.J m H' ∧ Same (F.st H) (F.st H') ∧ RepS K (F.st H') σ' ρ', ⟨_, ρ, n, rfl, h0, j, Same.refl _, rp⟩, fun N σ' H' ⟨ρ', m, eN, hI, jm, s, rm⟩ => ?_⟩
  subst eN
  refine hs ρ' m hI σ' H' _ jm rm fun b H2 k hk j2 s2 => ?_
  cases b with
  | true =>
    rw [if_pos rfl]
    refine ⟨fun σ3 H3 => ∃ ρ3 m3, I ρ3 m3 ∧ μ ρ3 m3 < μ ρ' m ∧ F.J m3 H3 ∧ Same (F.st H) (F.st H3) ∧ RepS K (F.st H3) σ3 ρ3, fun σ3 H3 ⟨ρ3, m3, h3, lt, j3, s3, r3⟩ => ⟨_, lt, ρ3, m3, rfl, h3, j3, s3, r3⟩, ?_⟩
    have s12 := s.trans s2
    exact hk.1 rfl σ' H2 _ j2 (rm.mono s2) ⟨fun σ3 H3 ρ3 m3 p j3 s3 r3 => ⟨ρ3, m3, p.1, p.2, j3, s12.trans s3, r3⟩, fun v H3 r m3 p j3 s3 rv => M.rt v H3 r m3 p j3 (s12.trans s3) rv, fun σ3 H3 ρ3 m3 p j3 s3 r3 => M.nx σ3 H3 ρ3 m3 p j3 (s12.trans s3) r3, fun σ3 H3 ρ3 m3 p j3 s3 r3 => ⟨ρ3, m3, p.1, p.2, j3, s12.trans s3, r3⟩⟩
  | false =>
    rw [if_neg Bool.false_ne_true]
    exact M.nx σ' H2 ρ' k (hk.2 rfl) j2 (s.trans s2) (rm.mono s2)
theorem c_abs {i : Int} (q : Φ (.dat (.int (i.natAbs : Int))) n) : wC F K (fun xs H Q => ∃ i, xs = [V.int i] ∧ Q (V.int (if i < 0 then -i else i)) H) [.dat (.int i)] n Φ := fun vs H Q jn ra k => by
  cases ra with
  | cons r1 ra =>
    cases ra
    cases r1
    have e : (if i < 0 then -i else i) = (i.natAbs : Int) := by split <;> omega
    refine ⟨i, rfl, ?_⟩
    rw [e]
    exact k _ H _ n q jn (Same.refl _) (.int _)
theorem c_int {i : Int} (q : Φ (.dat (.int i)) n) : wC F K (fun xs H Q => ∃ i, xs = [V.int i] ∧ Q (V.int i) H) [.dat (.int i)] n Φ := fun vs H Q jn ra k => by
  cases ra with
  | cons r1 ra =>
    cases ra
    cases r1
    exact ⟨i, rfl, k _ H _ n q jn (Same.refl _) (.int _)⟩
theorem c_intB {x : Bool} (q : Φ (.dat (.int (if x then 1 else 0))) n) : wC F K (fun xs H Q => (∃ i, xs = [V.int i] ∧ Q (V.int i) H) ∨ ∃ k, xs = [V.bl k] ∧ Q (V.int (if k then 1 else 0)) H) [.dat (.bool x)] n Φ := fun vs H Q jn ra k => by
  cases ra with
  | cons r1 ra =>
    cases ra
    cases r1
    exact .inr ⟨x, rfl, k _ H _ n q jn (Same.refl _) (.int _)⟩
end
end WkD
namespace K35
open PySem PySem.Spec PyProof.Rows L2 WkH WkE WkS WkF WkD
section
variable {P : Program} {w : World} {K : PySem.W.Frag} {mg : Str → Option Value} {base : Heap}
theorem cut_ints (ns : List Int) (lo hi : Option Int) : cutV (ns.map V.int) lo hi = (((ns.drop (HT.sIx ns.length 0 lo)).take (HT.sIx ns.length ns.length hi - HT.sIx ns.length 0 lo))).map V.int := by
  unfold cutV
  rw [List.length_map, List.map_take, List.map_drop]
theorem sc_cell : FnScope ["script", "k"] ["script", "k"] d_law_cell.sco := ⟨rfl, rfl, rfl, by decide +kernel, rfl, by decide +kernel, by decide +kernel⟩
theorem ok_cell {fd : FuncData} (F : Stands K d_law_cell fd) (T : Bg K mg) : FnOk P w K mg base CX0 1 d_law_cell.adr fd ["script", "k"] (WkD.spCell K) := by
  refine FunD.ok F sc_cell (fun vs H Q E h => ?_) (fun cdv A outer s H vs Q E hr h => ⟨_, PSs.nox (pss_one (ps_ret (pe_ifExp (pt_cmpR op_lt (pv 1) (pe_callB call_len_seq rfl T.len WkB.b_len (pa_cons (pv 0) pa_nil)) (nomark _)) (pe_ix ix_list (pv 0) (pv 1) (fun _ _ => rfl)) (pe_op op_add (pe_op op_mul pe_int (pv 1)) (pe_op op_mod (pe_callTy call_intI rfl T.int WkB.b_int (pa_cons (pe_callB (cr_sum rfl) rfl T.sum WkB.b_sum (pa_cons (pe_slice sl_list (pv 0) po_none (po_some pe_int)) pa_nil)) pa_nil)) pe_int))))), ?_⟩)
  · obtain ⟨a, ns, k, rfl, _⟩ := h
    rfl
  · obtain ⟨a, ns, k, rfl, hS, hk, hQ⟩ := h
    with_reducible refine e_ret ?_
    try dsimp only [cxOf, Cx.nox, Cx.wish]
    walk_at "go"
    refine ⟨_, _, rfl, Or.inl hS, ?_⟩
    walk_at "go"
    rw [List.length_map]
    refine e_ite (fun h => ?_) (fun h => ?_)
    · have h' : (k : Int) < ns.length := of_decide_eq_true h
      have hk2 : k < ns.length := by omega
      walk_at "go"
      exact e_ixL hS (atI_nat (by rw [List.getElem?_map, List.getElem?_eq_getElem hk2]; rfl)) (hQ _ _ (Same.refl _))
    · walk_at "go"
      refine e_I (.inl (by decide)) ?_
      walk_at "go"
      refine ⟨a, _, rfl, hS, fun p np => ?_⟩
      walk_at "go"
      rw [cut_ints]
      refine ⟨p, _, rfl, SqL.of upd_same, ?_⟩
      walk_at "go"
      refine e_I ?hc ?_
      case hc => show (0 : Int) < _; decide
      walk_at "go"
      exact hQ _ _ (fun b o e => by rw [upd_ne (ne_of_none e np)]; exact e)
theorem sc_draw : FnScope ["great"] ["great"] d_law_draw.sco := ⟨rfl, rfl, rfl, by decide +kernel, rfl, by decide +kernel, by decide +kernel⟩
theorem ok_draw {fd : FuncData} (F : Stands K d_law_draw fd) (T : Bg K mg) : FnOk P w K mg base CX0 1 d_law_draw.adr fd ["great"] spDraw := by
  refine FunD.ok F sc_draw (fun vs H Q E h => ?_) (fun cdv A outer s H vs Q E hr h => ⟨_, PSs.nox (pss_one (ps_ret (pe_lst (pa_cons (pe_callB call_abs rfl T.abs WkB.b_abs (pa_cons (pv 0) pa_nil)) (pa_cons (pe_cmpR op_ge (pe_callB call_abs rfl T.abs WkB.b_abs (pa_cons (pv 0) pa_nil)) (pe_op op_pow pe_int pe_int) (nomark _)) (pa_cons (pe_op op_mod (pe_callTy call_intI rfl T.int WkB.b_int (pa_cons (pe_callB call_abs rfl T.abs WkB.b_abs (pa_cons (pv 0) pa_nil)) pa_nil)) pe_int) (pa_cons pe_int pa_nil))))))), ?_⟩)
  · obtain ⟨i, rfl, _⟩ := h
    rfl
  · obtain ⟨i, rfl, hQ⟩ := h
    try dsimp only [cxOf, Cx.nox, Cx.wish]
    walk_at "go"
    refine e_I ?hp ?_
    case hp => exact ⟨by decide, by decide, by decide⟩
    walk_at "go"
    refine e_I ?hc ?_
    case hc => show (0 : Int) < _; decide
    walk_at "go"
    refine ⟨sz 4, fun p hp => ?_⟩
    refine hQ p _ hp (fun b o e => by rw [upd_ne (ne_of_none e hp)]; exact e) ⟨_, _, _, _, upd_same, ?_, ?_, ?_, ?_, ?_⟩
    · split <;> omega
    · exact Int.emod_nonneg _ (by decide)
    · exact Int.emod_lt_of_pos _ (by decide)
    · exact Int.le_refl _
    · exact Int.le_refl _
theorem sc_take : FnScope ["draw", "many", "mixed", "digit"] ["draw", "many"] d_law_take.sco := ⟨rfl, rfl, rfl, by decide +kernel, rfl, by decide +kernel, by decide +kernel⟩
theorem ok_take {fd : FuncData} (F : Stands K d_law_take fd) (T : Bg K mg) : FnOk P w K mg base CX0 1 d_law_take.adr fd ["draw", "many"] spTake := by
  refine FunD.ok F sc_take (fun vs H Q E h => ?_) (fun cdv A outer s H vs Q E hr h => ⟨_, PSs.nox (pss_cons (ps_if (PW.pt (pw_and (pt_val (pe_ix ix_list (pv 0) pe_int (fun _ _ => rfl))) (pw_and1 (pt_cmpR op_gt (pe_ix ix_list (pv 0) pe_int (fun _ _ => rfl)) pe_int (nomark _))))) (pss_cons (ps_set (i := 3) sc_take.nd rfl (by first | exact Or.inl rfl | exact Or.inr rfl) (pe_op op_mod (pe_callTy call_intI rfl T.int WkB.b_int (pa_cons (pe_ix ix_list (pv 0) pe_int (fun _ _ => rfl)) pa_nil)) (pv 1)))
  (pss_cons (ps_asg (pe_op op_fdiv (pe_callTy call_intI rfl T.int WkB.b_int (pa_cons (pe_ix ix_list (pv 0) pe_int (fun _ _ => rfl)) pa_nil)) (pv 1)) (pg_sub (pv 0) pe_int set_list))
  (pss_one (ps_ret (pv 3))))) pss_nil)
  (pss_cons (ps_asg (pe_op op_add (pe_ix ix_list (pv 0) pe_int (fun _ _ => rfl)) pe_int) (pg_sub (pv 0) pe_int set_list))
  (pss_cons (ps_set (i := 2) sc_take.nd rfl (by first | exact Or.inl rfl | exact Or.inr rfl) (pe_op op_mod (pe_callTy call_intI rfl T.int WkB.b_int (pa_cons (pe_op op_pow (pe_op op_add (pe_op op_add (pe_ix ix_list (pv 0) pe_int (fun _ _ => rfl)) (pe_op op_mul pe_int (pe_ix ix_list (pv 0) pe_int (fun _ _ => rfl)))) pe_int) pe_int) pa_nil)) pe_int))
  (pss_one (ps_ret (pe_op op_mod (pe_callTy call_intI rfl T.int WkB.b_int (pa_cons (pe_op op_fdiv (pe_op op_mod (pe_callTy call_intI rfl T.int WkB.b_int (pa_cons (pe_op op_pow (pe_op op_add (pe_op op_mul (pv 2) pe_int) (pe_op op_mul pe_int (pe_ix ix_list (pv 0) pe_int (fun _ _ => rfl)))) pe_int) pa_nil)) pe_int) pe_int) pa_nil)) (pv 1))))))), ?_⟩)
  · obtain ⟨b, n, many, rfl, _⟩ := h
    rfl
  · obtain ⟨b, n, many, rfl, ⟨g, big, m, c, hb, hok⟩, hn, m1, m2, hQ⟩ := h
    obtain ⟨g0, m0, m3, c0, c1⟩ := hok
    try dsimp only [cxOf, Cx.nox, Cx.wish]
    walk_at "go"
    have fin : ∀ (r : Int), 0 ≤ r → r < many → Q (.int r) (upd H b (.lst (bx g big m (c + 1)))) := fun r r0 r1 =>
      hQ r _ r0 r1 ⟨g, big, m, c + 1, upd_same, g0, m0, m3, by omega, by omega⟩
    have down : ∀ (r : Int), 0 ≤ r → r < many → Q (.int r) (upd H b (.lst (bx (g / many) big m c))) := fun r r0 r1 =>
      hQ r _ r0 r1 ⟨g / many, big, m, c, upd_same, Int.ediv_nonneg g0 (by omega), m0, m3, c0, by omega⟩
    have pos : 0 < many := by omega
    refine e_ite (fun hb1 => ?_) (fun hb1 => ?_)
    · walk_at "go"
      refine e_ite (fun hg => ?_) (fun hg => ?_)
      · walk_at "go"
        refine e_I pos ?_
        walk_at "go"
        refine e_I ⟨pos, m2⟩ ?_
        walk_at "go"
        exact down _ (Int.emod_nonneg _ (by omega)) (Int.emod_lt_of_pos _ pos)
      · walk_at "go"
        refine e_I (.inl (by decide)) ?_
        walk_at "go"
        refine e_I ⟨by decide, by decide, by omega⟩ ?_
        walk_at "go"
        refine e_mod (by decide) fun k k0 k1 => ?_
        walk_at "go"
        refine e_I (.inr (by decide)) ?_
        walk_at "go"
        refine e_I (.inl (by decide)) ?_
        walk_at "go"
        refine e_I ⟨by decide, by decide, by omega⟩ ?_
        walk_at "go"
        refine e_mod (by decide) fun k' k0' k1' => ?_
        walk_at "go"
        refine e_I (show CDiv _ _ from ⟨by decide, by decide⟩) ?_
        walk_at "go"
        refine e_mod pos fun r r0 r1 => ?_
        exact fin r r0 r1
    · subst hb1
      walk_at "go"
      refine e_no rfl ?_
      walk_at "go"
      refine e_I (.inl (by decide)) ?_
      walk_at "go"
      refine e_I ⟨by decide, by decide, by omega⟩ ?_
      walk_at "go"
      refine e_mod (by decide) fun k k0 k1 => ?_
      walk_at "go"
      refine e_I (.inr (by decide)) ?_
      walk_at "go"
      refine e_I (.inl (by decide)) ?_
      walk_at "go"
      refine e_I ⟨by decide, by decide, by omega⟩ ?_
      walk_at "go"
      refine e_mod (by decide) fun k' k0' k1' => ?_
      walk_at "go"
      refine e_I (show CDiv _ _ from ⟨by decide, by decide⟩) ?_
      walk_at "go"
      refine e_mod pos fun r r0 r1 => ?_
      exact fin r r0 r1
end
end K35
/-! the steps over data that need no thought -/
local macro_rules | `(tactic| walk_at "gd") => `(tactic| repeat (first
  | ((with_reducible refine' WkD.w_var ?hv ?hn ?_); (case hv => exact rfl); (case hn => exact (fun z => nomatch z)))
  | with_reducible refine WkD.w_int ?_ | with_reducible refine WkD.w_str ?_ | with_reducible refine WkD.w_non ?_ | with_reducible refine WkD.w_bl ?_
  | with_reducible refine WkD.w_chain ?_ | with_reducible refine WkD.w_tyc ?_ | ((with_reducible refine' WkD.c_isi ?hu ?_); (case hu => decide))
  | with_reducible refine WkD.w_op ?_ | with_reducible refine WkD.w_un ?_ | with_reducible refine WkD.w_nil ?_ | with_reducible refine WkD.w_cons ?_ | ((with_reducible refine' WkD.w_isi2 ?ha ?hb ?_); (case ha => decide); (case hb => decide)) | with_reducible refine WkD.w_CB ?_ | with_reducible refine WkD.w_call ?_
  | with_reducible refine WkD.w_if ?_ | with_reducible refine WkD.w_andV ?_ | with_reducible refine WkD.w_orV ?_ | with_reducible refine WkD.w_notV ?_ | with_reducible refine WkD.w_test ?_ | with_reducible refine WkD.w_tB ?_ | with_reducible refine WkD.w_not ?_
  | with_reducible refine WkD.w_and ?_ | with_reducible refine WkD.w_or ?_ | with_reducible refine WkD.w_yes ?_ | with_reducible refine WkD.w_next ?_ | with_reducible refine WkD.w_seq ?_ | with_reducible refine WkD.w_ret ?_ | with_reducible refine WkD.w_retN ?_
  | with_reducible refine WkD.w_drop ?_ | with_reducible refine WkD.w_ifS ?_ | with_reducible refine WkD.w_asg ?_ | with_reducible refine WkD.w_sl ?_ | with_reducible refine WkD.w_po0 ?_ | with_reducible refine WkD.w_po1 ?_ | with_reducible refine WkD.e_si ?_ | with_reducible refine WkD.l_A ?_ | with_reducible refine WkD.l_L ?_ | with_reducible refine WkD.w_cont ?_ | with_reducible refine WkD.w_break ?_ | with_reducible refine WkD.w_gt2 ?_ | with_reducible refine WkD.w_gt3 ?_ | with_reducible refine WkD.w_gcons ?_ | with_reducible refine WkD.w_gnil ?_ | with_reducible refine WkD.w_name ?_ | with_reducible refine WkD.w_par ?_
  | with_reducible refine WkD.r_I0i ?_ | with_reducible refine WkD.r_I0b ?_ | with_reducible refine WkD.u_U ?_ | with_reducible refine WkD.r_eqI ?_ | with_reducible refine WkD.r_neI ?_ | with_reducible refine WkD.r_eqS ?_ | with_reducible refine WkD.r_eqB ?_
  | ((with_reducible refine' WkD.r_ix ?hi ?_); (case hi => exact rfl)) | ((with_reducible refine' WkD.r_ixl ?hi ?_); (case hi => exact rfl))
  | ((with_reducible refine' WkD.r_ixT ?hi ?_); (case hi => exact rfl)) | ((with_reducible refine' WkD.r_ixL ?hi ?_); (case hi => exact rfl))
  | with_reducible refine WkD.c_gcd ?_ | with_reducible refine WkD.c_abs ?_ | with_reducible refine WkD.c_int ?_ | with_reducible refine WkD.e_bool ?_ | with_reducible refine WkD.w_tup ?_ | with_reducible refine WkD.w_lst ?_ | with_reducible refine WkD.e_ab ?_ | with_reducible refine WkD.d0 ?_ | with_reducible refine WkD.d1 ?_ | with_reducible refine WkD.d2 ?_ | with_reducible refine WkD.d3 ?_ | with_reducible refine WkD.d4 ?_))

namespace K35
open PySem PySem.Spec PyProof.Rows L2 WkH WkE WkQ WkS WkF WkD
section
variable {P : Program} {w : World} {K : PySem.W.Frag} {mg : Str → Option Value} {base : Heap}
theorem sc_low : FnScope ["top", "base", "one", "other"] ["top", "base"] d_law_low.sco := ⟨rfl, rfl, rfl, by decide +kernel, rfl, by decide +kernel, by decide +kernel⟩
theorem ok_llow {fd : FuncData} (F : Stands K d_law_low fd) (T : Bg K mg) : FnOk P w K mg base CX0 1 d_law_low.adr fd ["top", "base"] (spReduced (K := K)) := by
  refine FunD.ok F sc_low (fun vs H Q E h => len_F h fun _ => rfl) (fun cdv A outer s H vs Q E hr h => ⟨_, PSs.nox (pss_cons (ps_par (i := 2) (j := 3) rfl sc_low.nd rfl rfl (by decide) rfl rfl (pa_cons (pe_callB call_abs rfl T.abs WkB.b_abs (pa_cons (pv 0) pa_nil)) (pa_cons (pe_callB call_abs rfl T.abs WkB.b_abs (pa_cons (pv 1) pa_nil)) pa_nil)) rfl)
  (pss_cons (ps_while PassesOwn.never (pt_cmpR op_ne (pv 3) pe_int (nomark _)) (pss_one (ps_par (i := 2) (j := 3) rfl sc_low.nd rfl rfl (by decide) rfl rfl (pa_cons (pv 3) (pa_cons (pe_op op_mod (pe_callTy call_intI rfl T.int WkB.b_int (pa_cons (pv 2) pa_nil)) (pv 3)) pa_nil)) rfl)))
  (pss_one (ps_ret (pe_ifExp (pt_cmpR op_gt (pv 1) pe_int (nomark _)) (pe_tup (pa_cons (pe_op op_fdivW (pv 0) (pv 2)) (pa_cons (pe_op op_fdivW (pv 1) (pv 2)) pa_nil))) (pe_tup (pa_cons (pe_op op_fdivW (pe_un un_neg (pv 0)) (pv 2)) (pa_cons (pe_op op_fdivW (pe_un un_neg (pv 1)) (pv 2)) pa_nil)))))))), ?_⟩)
  refine body_F h fun F n q hp => ?_
  obtain ⟨a, b⟩ := q
  obtain ⟨h0, h1, h2⟩ := hp
  have hb : 0 < b := h0
  try dsimp only [cxOf, Cx.nox, Cx.wish, twoI]
  walk_at "gd"
  refine w_while (fun ρ m => m = n ∧ ∃ x y : Nat, ρ = [.dat (.int a), .dat (.int b), .dat (.int x), .dat (.int y)] ∧ Nat.gcd x y = Nat.gcd a.natAbs b.natAbs) (fun ρ _ => match ρ with
    | [_, _, _, .dat (.int y)] => y.toNat
    | _ => 0) ⟨rfl, _, _, rfl, rfl⟩ fun ρ m hI => ?_
  obtain ⟨rfl, x, y, rfl, hg⟩ := hI
  walk_at "gd"
  refine ⟨fun h => ?_, fun h => ?_⟩
  · have hy : 0 < y := by
      have h' : ¬ ((y : Int) = 0) := by simpa using h
      omega
    walk_at "gd"
    refine r_I (by show (0 : Int) < y; omega) ?_
    walk_at "gd"
    refine ⟨⟨rfl, y, x % y, ?_, ?_⟩, ?_⟩
    · rw [Int.natCast_emod]
      rfl
    · rw [← hg, Nat.gcd_comm x y, Nat.gcd_rec y x, Nat.gcd_comm]
    · show ((x : Int) % (y : Int)).toNat < (y : Int).toNat
      rw [← Int.natCast_emod, Int.toNat_natCast, Int.toNat_natCast]
      exact Nat.mod_lt _ hy
  · have hy : y = 0 := by
      have h' : (y : Int) = 0 := by simpa using h
      omega
    subst hy
    rw [Nat.gcd_zero_right] at hg
    have g0 := gcd_pos (a := a) hb
    rw [← hg] at g0
    have gl : (Nat.gcd a.natAbs b.natAbs) ≤ b.natAbs := Nat.le_of_dvd (by omega) (Nat.gcd_dvd_right _ _)
    rw [← hg] at gl
    have gw : CDivW a (x : Int) := wide_div g0 (b := 8900) (Nat.lt_of_le_of_lt gl h2) (by decide) (by decide)
    walk_at "gd"
    refine ⟨fun h => ?_, fun h => ?_⟩
    · walk_at "gd"
      refine r_I gw ?_
      walk_at "gd"
      refine r_I gw ?_
      walk_at "gd"
      rw [hg, low_num hb, low_den hb]
      exact ⟨rfl, rfl⟩
    · have := of_decide_eq_false h
      omega
theorem sc_plus : FnScope ["one", "other"] ["one", "other"] d_law_plus.sco := ⟨rfl, rfl, rfl, by decide +kernel, rfl, by decide +kernel, by decide +kernel⟩
theorem ok_lplus {fd : FuncData} (F : Stands K d_law_plus fd) (Fr : Fn P w K mg base CX0 1 "_law_low" ["top", "base"] (spReduced (K := K))) : FnOk P w K mg base CX0 2 d_law_plus.adr fd ["one", "other"] (spF K twoR (fun q => Bits 4000 q.1 ∧ Bits 4000 q.2) fun q => frD (q.1 + q.2)) := by
  refine FunD.ok F sc_plus (fun vs H Q E h => len_F h fun _ => rfl) (fun cdv A outer s H vs Q E hr h => ⟨_, PSs.nox (pss_one (ps_ret (pe_fn Fr hr rfl (pa_cons (pe_op op_add (pe_op op_mulW (pe_ix (show IxR _ (rIx K) from ix_seq) (pv 0) pe_int (fun _ _ => rfl)) (pe_ix (show IxR _ (rIx K) from ix_seq) (pv 1) pe_int (fun _ _ => rfl))) (pe_op op_mulW (pe_ix (show IxR _ (rIx K) from ix_seq) (pv 1) pe_int (fun _ _ => rfl)) (pe_ix (show IxR _ (rIx K) from ix_seq) (pv 0) pe_int (fun _ _ => rfl)))) (pa_cons (pe_op op_mulW (pe_ix (show IxR _ (rIx K) from ix_seq) (pv 0) pe_int (fun _ _ => rfl)) (pe_ix (show IxR _ (rIx K) from ix_seq) (pv 1) pe_int (fun _ _ => rfl))) pa_nil))))), ?_⟩)
  refine body_F h fun F n q hp => ?_
  obtain ⟨r, s⟩ := q
  obtain ⟨h1, h2⟩ := hp
  have h1 : Bits 4000 r := h1
  have h2 : Bits 4000 s := h2
  have e1 := den_bits h1
  have e2 := den_bits h2
  try dsimp only [cxOf, Cx.nox, Cx.wish, twoR]
  walk_at "gd"
  refine r_I (wide_mul h1.n e2 (by decide) (by decide) (by decide)) ?_
  walk_at "gd"
  refine r_I (wide_mul h2.n e1 (by decide) (by decide) (by decide)) ?_
  walk_at "gd"
  refine r_I (wide_mul e1 e2 (by decide) (by decide) (by decide)) ?_
  walk_at "gd"
  refine c_fn (enc := twoI) (_, _) ⟨Int.mul_pos (by have := r.den_pos; omega) (by have := s.den_pos; omega), Nat.lt_of_lt_of_le (bits_add (bits_mul h1.n e2) (bits_mul h2.n e1)) (Nat.pow_le_pow_right (by decide) (by decide)), Nat.lt_of_lt_of_le (bits_mul e1 e2) (Nat.pow_le_pow_right (by decide) (by decide))⟩ ?_
  exact ⟨rfl, by rw [add_div]⟩
theorem sc_minus : FnScope ["one", "other"] ["one", "other"] d_law_minus.sco := ⟨rfl, rfl, rfl, by decide +kernel, rfl, by decide +kernel, by decide +kernel⟩
theorem ok_lminus {fd : FuncData} (F : Stands K d_law_minus fd) (Fr : Fn P w K mg base CX0 1 "_law_low" ["top", "base"] (spReduced (K := K))) : FnOk P w K mg base CX0 2 d_law_minus.adr fd ["one", "other"] (spF K twoR (fun q => Bits 4000 q.1 ∧ Bits 4000 q.2) fun q => frD (q.1 - q.2)) := by
  refine FunD.ok F sc_minus (fun vs H Q E h => len_F h fun _ => rfl) (fun cdv A outer s H vs Q E hr h => ⟨_, PSs.nox (pss_one (ps_ret (pe_fn Fr hr rfl (pa_cons (pe_op op_sub (pe_op op_mulW (pe_ix (show IxR _ (rIx K) from ix_seq) (pv 0) pe_int (fun _ _ => rfl)) (pe_ix (show IxR _ (rIx K) from ix_seq) (pv 1) pe_int (fun _ _ => rfl))) (pe_op op_mulW (pe_ix (show IxR _ (rIx K) from ix_seq) (pv 1) pe_int (fun _ _ => rfl)) (pe_ix (show IxR _ (rIx K) from ix_seq) (pv 0) pe_int (fun _ _ => rfl)))) (pa_cons (pe_op op_mulW (pe_ix (show IxR _ (rIx K) from ix_seq) (pv 0) pe_int (fun _ _ => rfl)) (pe_ix (show IxR _ (rIx K) from ix_seq) (pv 1) pe_int (fun _ _ => rfl))) pa_nil))))), ?_⟩)
  refine body_F h fun F n q hp => ?_
  obtain ⟨r, s⟩ := q
  obtain ⟨h1, h2⟩ := hp
  have h1 : Bits 4000 r := h1
  have h2 : Bits 4000 s := h2
  have e1 := den_bits h1
  have e2 := den_bits h2
  try dsimp only [cxOf, Cx.nox, Cx.wish, twoR]
  walk_at "gd"
  refine r_I (wide_mul h1.n e2 (by decide) (by decide) (by decide)) ?_
  walk_at "gd"
  refine r_I (wide_mul h2.n e1 (by decide) (by decide) (by decide)) ?_
  walk_at "gd"
  refine r_I (wide_mul e1 e2 (by decide) (by decide) (by decide)) ?_
  walk_at "gd"
  refine c_fn (enc := twoI) (_, _) ⟨Int.mul_pos (by have := r.den_pos; omega) (by have := s.den_pos; omega), Nat.lt_of_lt_of_le (bits_sub (bits_mul h1.n e2) (bits_mul h2.n e1)) (Nat.pow_le_pow_right (by decide) (by decide)), Nat.lt_of_lt_of_le (bits_mul e1 e2) (Nat.pow_le_pow_right (by decide) (by decide))⟩ ?_
  exact ⟨rfl, by rw [sub_div]⟩
theorem sc_times : FnScope ["one", "other"] ["one", "other"] d_law_times.sco := ⟨rfl, rfl, rfl, by decide +kernel, rfl, by decide +kernel, by decide +kernel⟩
theorem ok_ltimes {fd : FuncData} (F : Stands K d_law_times fd) (Fr : Fn P w K mg base CX0 1 "_law_low" ["top", "base"] (spReduced (K := K))) : FnOk P w K mg base CX0 2 d_law_times.adr fd ["one", "other"] (spF K twoR (fun q => Bits 4000 q.1 ∧ Bits 4000 q.2) fun q => frD (q.1 * q.2)) := by
  refine FunD.ok F sc_times (fun vs H Q E h => len_F h fun _ => rfl) (fun cdv A outer s H vs Q E hr h => ⟨_, PSs.nox (pss_one (ps_ret (pe_fn Fr hr rfl (pa_cons (pe_op op_mulW (pe_ix (show IxR _ (rIx K) from ix_seq) (pv 0) pe_int (fun _ _ => rfl)) (pe_ix (show IxR _ (rIx K) from ix_seq) (pv 1) pe_int (fun _ _ => rfl))) (pa_cons (pe_op op_mulW (pe_ix (show IxR _ (rIx K) from ix_seq) (pv 0) pe_int (fun _ _ => rfl)) (pe_ix (show IxR _ (rIx K) from ix_seq) (pv 1) pe_int (fun _ _ => rfl))) pa_nil))))), ?_⟩)
  refine body_F h fun F n q hp => ?_
  obtain ⟨r, s⟩ := q
  obtain ⟨h1, h2⟩ := hp
  have h1 : Bits 4000 r := h1
  have h2 : Bits 4000 s := h2
  have e1 := den_bits h1
  have e2 := den_bits h2
  try dsimp only [cxOf, Cx.nox, Cx.wish, twoR]
  walk_at "gd"
  refine r_I (wide_mul h1.n h2.n (by decide) (by decide) (by decide)) ?_
  walk_at "gd"
  refine r_I (wide_mul e1 e2 (by decide) (by decide) (by decide)) ?_
  walk_at "gd"
  refine c_fn (enc := twoI) (_, _) ⟨Int.mul_pos (by have := r.den_pos; omega) (by have := s.den_pos; omega), Nat.lt_of_lt_of_le (bits_mul h1.n h2.n) (Nat.pow_le_pow_right (by decide) (by decide)), Nat.lt_of_lt_of_le (bits_mul e1 e2) (Nat.pow_le_pow_right (by decide) (by decide))⟩ ?_
  exact ⟨rfl, by rw [mul_div]⟩
theorem sc_over : FnScope ["one", "other"] ["one", "other"] d_law_over.sco := ⟨rfl, rfl, rfl, by decide +kernel, rfl, by decide +kernel, by decide +kernel⟩
theorem ok_lover {fd : FuncData} (F : Stands K d_law_over fd) (Fr : Fn P w K mg base CX0 1 "_law_low" ["top", "base"] (spReduced (K := K))) : FnOk P w K mg base CX0 2 d_law_over.adr fd ["one", "other"] (spF K twoR (fun q => Bits 4000 q.1 ∧ Bits 4000 q.2 ∧ 0 < q.2.num) fun q => frD (q.1 / q.2)) := by
  refine FunD.ok F sc_over (fun vs H Q E h => len_F h fun _ => rfl) (fun cdv A outer s H vs Q E hr h => ⟨_, PSs.nox (pss_one (ps_ret (pe_fn Fr hr rfl (pa_cons (pe_op op_mulW (pe_ix (show IxR _ (rIx K) from ix_seq) (pv 0) pe_int (fun _ _ => rfl)) (pe_ix (show IxR _ (rIx K) from ix_seq) (pv 1) pe_int (fun _ _ => rfl))) (pa_cons (pe_op op_mulW (pe_ix (show IxR _ (rIx K) from ix_seq) (pv 0) pe_int (fun _ _ => rfl)) (pe_ix (show IxR _ (rIx K) from ix_seq) (pv 1) pe_int (fun _ _ => rfl))) pa_nil))))), ?_⟩)
  refine body_F h fun F n q hp => ?_
  obtain ⟨r, s⟩ := q
  obtain ⟨h1, h2, h3⟩ := hp
  have h1 : Bits 4000 r := h1
  have h2 : Bits 4000 s := h2
  have h3 : 0 < s.num := h3
  have e1 := den_bits h1
  have e2 := den_bits h2
  try dsimp only [cxOf, Cx.nox, Cx.wish, twoR]
  walk_at "gd"
  refine r_I (wide_mul h1.n e2 (by decide) (by decide) (by decide)) ?_
  walk_at "gd"
  refine r_I (wide_mul e1 h2.n (by decide) (by decide) (by decide)) ?_
  walk_at "gd"
  refine c_fn (enc := twoI) (_, _) ⟨Int.mul_pos (by have := r.den_pos; omega) h3, Nat.lt_of_lt_of_le (bits_mul h1.n e2) (Nat.pow_le_pow_right (by decide) (by decide)), Nat.lt_of_lt_of_le (bits_mul e1 h2.n) (Nat.pow_le_pow_right (by decide) (by decide))⟩ ?_
  exact ⟨rfl, by rw [div_div h3]⟩
theorem sc_less : FnScope ["one", "other"] ["one", "other"] d_law_less.sco := ⟨rfl, rfl, rfl, by decide +kernel, rfl, by decide +kernel, by decide +kernel⟩
theorem ok_lless {fd : FuncData} (F : Stands K d_law_less fd) : FnOk P w K mg base CX0 1 d_law_less.adr fd ["one", "other"] (spF K twoR (fun q => Bits 4000 q.1 ∧ Bits 4000 q.2) fun q => .bool (decide (q.1 < q.2))) := by
  refine FunD.ok F sc_less (fun vs H Q E h => len_F h fun _ => rfl) (fun cdv A outer s H vs Q E hr h => ⟨_, PSs.nox (pss_one (ps_ret (pe_cmpR op_lt (pe_op op_mulW (pe_ix (show IxR _ (rIx K) from ix_seq) (pv 0) pe_int (fun _ _ => rfl)) (pe_ix (show IxR _ (rIx K) from ix_seq) (pv 1) pe_int (fun _ _ => rfl))) (pe_op op_mulW (pe_ix (show IxR _ (rIx K) from ix_seq) (pv 1) pe_int (fun _ _ => rfl)) (pe_ix (show IxR _ (rIx K) from ix_seq) (pv 0) pe_int (fun _ _ => rfl))) (nomark _)))), ?_⟩)
  refine body_F h fun F n q hp => ?_
  obtain ⟨r, s⟩ := q
  obtain ⟨h1, h2⟩ := hp
  have h1 : Bits 4000 r := h1
  have h2 : Bits 4000 s := h2
  have e1 := den_bits h1
  have e2 := den_bits h2
  try dsimp only [cxOf, Cx.nox, Cx.wish, twoR]
  walk_at "gd"
  refine r_I (wide_mul h1.n e2 (by decide) (by decide) (by decide)) ?_
  walk_at "gd"
  refine r_I (wide_mul h2.n e1 (by decide) (by decide) (by decide)) ?_
  walk_at "gd"
  refine ⟨rfl, ?_⟩
  have e : decide (r < s) = decide (r.num * (s.den : Int) < s.num * (r.den : Int)) := decide_eq_decide.mpr (lt_cross r s)
  rw [e]
abbrev spMx : Sp := spF K twoR (fun q => Bits 4000 q.1 ∧ Bits 4000 q.2) fun q => frD (K35M.mx q.1 q.2)
theorem sc_more : FnScope ["one", "other"] ["one", "other"] d_law_more.sco := ⟨rfl, rfl, rfl, by decide +kernel, rfl, by decide +kernel, by decide +kernel⟩
theorem ok_lmore {fd : FuncData} (F : Stands K d_law_more fd) (Fb : Fn P w K mg base CX0 1 "_law_less" ["one", "other"] (spBelow (K := K))) : FnOk P w K mg base CX0 2 d_law_more.adr fd ["one", "other"] (spMx (K := K)) := by
  refine FunD.ok F sc_more (fun vs H Q E h => len_F h fun _ => rfl) (fun cdv A outer s H vs Q E hr h => ⟨_, PSs.nox (pss_one (ps_ret (pe_ifExp (pt_val (pe_fn Fb hr rfl (pa_cons (pv 0) (pa_cons (pv 1) pa_nil)))) (pv 1) (pv 0)))), ?_⟩)
  refine body_F h fun F n q hp => ?_
  obtain ⟨r, s⟩ := q
  try dsimp only [cxOf, Cx.nox, Cx.wish, twoR]
  walk_at "gd"
  refine c_fn (enc := twoR) (r, s) hp ?_
  walk_at "gd"
  refine ⟨fun h => ?_, fun h => ?_⟩
  · walk_at "gd"
    exact ⟨rfl, by rw [K35M.mx, if_pos (of_decide_eq_true h)]⟩
  · walk_at "gd"
    exact ⟨rfl, by rw [K35M.mx, if_neg (of_decide_eq_false h)]⟩
theorem sc_sum : FnScope ["items", "total", "item"] ["items"] d_law_sum.sco := ⟨rfl, rfl, rfl, by decide +kernel, rfl, by decide +kernel, by decide +kernel⟩
theorem ok_lsum {fd : FuncData} (F : Stands K d_law_sum fd) (Fadd : Fn P w K mg base CX0 2 "_law_plus" ["one", "other"] (spAdd (K := K))) : FnOk P w K mg base CX0 3 d_law_sum.adr fd ["items"] (spSum (K := K)) := by
  refine FunD.ok F sc_sum (fun vs H Q E h => len_F h fun _ => rfl) (fun cdv A outer s H vs Q E hr h => ⟨_, PSs.nox (pss_cons (ps_set (i := 1) sc_sum.nd rfl (by first | exact Or.inl rfl | exact Or.inr rfl) (pe_tup (pa_cons pe_int (pa_cons pe_int pa_nil))))
  (pss_cons (ps_for PassesOwn.never rfl (pi_list (pv 0)) (pg_name (i := 2) sc_sum.nd rfl (by first | exact Or.inl rfl | exact Or.inr rfl)) (pss_one (ps_set (i := 1) sc_sum.nd rfl (by first | exact Or.inl rfl | exact Or.inr rfl) (pe_fn Fadd hr rfl (pa_cons (pv 1) (pa_cons (pv 2) pa_nil))))))
  (pss_one (ps_ret (pv 1))))), ?_⟩)
  refine body_F h fun F n rs hp => ?_
  obtain ⟨hB, hS⟩ := hp
  try dsimp only [cxOf, Cx.nox, Cx.wish, listR]
  walk_at "gd"
  refine w_forL ?_
  walk_at "gd"
  refine ⟨_, rfl, fun i ρ m => ∃ x, ρ = [.dat (.list (rs.map frD)), .dat (frD (sumR (rs.take i))), x] ∧ m = n, ⟨_, rfl, rfl⟩, fun i d ρ m hi hI => ?_, fun ρ m hI => ?_⟩
  · obtain ⟨x, rfl, rfl⟩ := hI
    obtain ⟨s, hs, rfl⟩ := get_map hi
    walk_at "gd"
    refine c_fn (enc := twoR) (_, s) ⟨hS i, hB s (List.mem_of_getElem? hs)⟩ ?_
    walk_at "gd"
    refine ⟨.dat (frD s), ?_, rfl⟩
    have e : sumR (rs.take (i + 1)) = sumR (rs.take i) + s := by
      unfold sumR
      rw [List.take_add_one, hs, List.foldl_append]
      rfl
    rw [e]
    rfl
  · obtain ⟨x, rfl, rfl⟩ := hI
    walk_at "gd"
    rw [List.length_map, List.take_length]
    exact ⟨rfl, rfl⟩
theorem sc_beside : FnScope ["form", "mark", "worth", "chance"] ["form", "mark"] d_law_beside.sco := ⟨rfl, rfl, rfl, by decide +kernel, rfl, by decide +kernel, by decide +kernel⟩
theorem ok_lbeside {fd : FuncData} (F : Stands K d_law_beside fd) (Fs : Fn P w K mg base CX0 3 "_law_sum" ["items"] (spSum (K := K))) (Fm : Fn P w K mg base CX0 2 "_law_times" ["one", "other"] (spMultiply (K := K))) (Fb : Fn P w K mg base CX0 1 "_law_less" ["one", "other"] (spBelow (K := K))) :
    FnOk P w K mg base CX0 4 d_law_beside.adr fd ["form", "mark"] (spDrawn (K := K)) := by
  refine FunD.ok F sc_beside (fun vs H Q E h => len_F h fun _ => rfl) (fun cdv A outer s H vs Q E hr h => ⟨_, PSs.nox (pss_one (ps_ret (pe_fn Fs hr rfl (pa_cons (pe_lc (own := [("worth", 2), ("chance", 3)]) (g := (gTup K 2 (gCons (gName 2) (gCons (gName 3) gNil)))) rfl sc_beside.nd (pi_tup (pv 0)) (blkOk_by (own := [("worth", 2), ("chance", 3)]) (N := ["form", "mark", "worth", "chance"]) (sc := d_law_beside.sco) (by decide +kernel)) (fun _ _ _ _ _ => (pg_tup rfl (pgs_cons (pg_name (i := 2) sc_beside.nd rfl (by first | exact Or.inl rfl | exact Or.inr rfl)) (pgs_cons (pg_name (i := 3) sc_beside.nd rfl (by first | exact Or.inl rfl | exact Or.inr rfl)) pgs_nil)))) (fun _ _ _ _ _ => pts_nil) (fun _ _ _ _ _ => (pe_fn Fm hr rfl (pa_cons (pv 3) (pa_cons (pe_ifExp (pt_val (pe_fn Fb hr rfl (pa_cons (pv 1) (pa_cons (pv 2) pa_nil)))) (pv 2) (pv 1)) pa_nil))))) pa_nil)))), ?_⟩)
  refine body_F h fun F n q hp => ?_
  obtain ⟨b, x⟩ := q
  obtain ⟨A, S, z, N, M, hN0, hN, hM, hw, hx⟩ := hp
  have hx : In N M x := hx
  have hw : ∀ r ∈ b, In N M r.1 := hw
  have hl : b.length ≤ 32 := z.l
  have hN2 : N < 2 ^ 2000 := Nat.lt_trans hN (by decide +kernel)
  try dsimp only [cxOf, Cx.nox, Cx.wish, boxR]
  walk_at "gd"
  refine w_lcT ?_ (sets_two (by decide) (by decide))
  walk_at "gd"
  refine ⟨_, rfl, by rw [List.length_map]; omega, made_map (xs := b) (enc := rowD) (out := fun q => frD (q.2 * K35M.mx x q.1)) (fun D ys i q hq => ?_) ?_⟩
  · have hq' := List.mem_of_getElem? hq
    have bx : Bits 4000 x := in4 hx hN2 hM
    have bq : Bits 4000 q.1 := in4 (hw q hq') hN2 hM
    have bc : Bits 4000 q.2 := (z.c4 hq').mono (by decide)
    walk_at "gd"
    refine c_fn (enc := twoR) (x, q.1) ⟨bx, bq⟩ ?_
    walk_at "gd"
    refine ⟨fun h => ?_, fun h => ?_⟩
    · walk_at "gd"
      refine c_fn (enc := twoR) (q.2, q.1) ⟨bc, bq⟩ ?_
      exact ⟨by rw [K35M.mx, if_pos (of_decide_eq_true h)], rfl⟩
    · walk_at "gd"
      refine c_fn (enc := twoR) (q.2, x) ⟨bc, bx⟩ ?_
      exact ⟨by rw [K35M.mx, if_neg (of_decide_eq_false h)], rfl⟩
  walk_at "gd"
  have hs := z.means (g := fun w => K35M.mx x w) hN hM hN0 fun q hq => in_mx hx (hw q hq)
  refine c_fnE (enc := listR) (b.map fun q => q.2 * K35M.mx x q.1) (by rw [listR, List.map_map]; rfl) hs.1 ?_
  exact ⟨rfl, by rw [sum_mean _ (fun w => K35M.mx x w) fun _ => rfl]⟩
end
end K35
/-! Defs with a memo behind their data; defs that call themselves. -/
namespace WkD
open PySem PySem.Spec PyProof.Rows L2 WkH WkQ WkS WkF WkN
theorem fn_never {P : Program} {w : World} {K : PySem.W.Frag} {mg : Str → Option Value} {base : Heap} {CX : CXT} {k : Nat} {f : Addr} {fd : FuncData} {ps : List Str} {sp : Sp} (h : ∀ vs H Q E, ¬ sp vs H Q E) : FnOk P w K mg base CX k f fd ps sp :=
  ⟨fun vs H Q E z => absurd z (h vs H Q E), fun _ _ _ H _ _ vs Q E _ _ _ _ z => absurd z (h vs H Q E)⟩
theorem putD_len {sh : List Bool} (es : Ent sh) (k : NKey sh) (d : PyData) : (putD es k d).length ≤ es.length + 1 := by
  unfold putD
  split
  · rw [List.length_map]
    omega
  · rw [List.length_append]
    exact Nat.le_refl _
theorem valD_mem {sh : List Bool} {es : Ent sh} {k : NKey sh} {d : PyData} (h : valD es k = some d) : (k, d) ∈ es := by
  unfold valD at h
  obtain ⟨p, hp, rfl⟩ := Option.map_eq_some_iff.mp h
  have h1 := List.mem_of_find?_eq_some hp
  have h2 := List.find?_some hp
  have h3 : p.1 = k := of_decide_eq_true h2
  subst h3
  exact h1
theorem putD_mem {sh : List Bool} {es : Ent sh} {k : NKey sh} {d : PyData} {p : NKey sh × PyData} (h : p ∈ putD es k d) : p = (k, d) ∨ p ∈ es := by
  unfold putD at h
  split at h
  · obtain ⟨q, hq, rfl⟩ := List.mem_map.mp h
    split
    · rename_i e
      left
      rw [← e]
    · exact .inr hq
  · rcases List.mem_append.mp h with h | h
    · exact .inr h
    · left
      simpa using h
theorem putD_nodup {sh : List Bool} {es : Ent sh} {k : NKey sh} {d : PyData} (h : (es.map (·.1)).Nodup) : ((putD es k d).map (·.1)).Nodup := by
  unfold putD
  split
  · have e : (es.map fun p => if p.1 = k then (p.1, d) else p).map (·.1) = es.map (·.1) := by
      rw [List.map_map]
      refine List.map_congr_left fun p _ => ?_
      show (if p.1 = k then (p.1, d) else p).1 = p.1
      split <;> rfl
    rw [e]
    exact h
  · rename_i z
    rw [List.map_append, List.nodup_append]
    refine ⟨h, by simp, fun a ha b hb => ?_⟩
    have hb' : b = k := by simpa using hb
    subst hb'
    rintro rfl
    obtain ⟨p, hp, e⟩ := List.mem_map.mp ha
    exact z (List.any_eq_true.mpr ⟨p, hp, decide_eq_true e⟩)
/-- different keys out of a list are no more than it has -/
theorem nodup_len {α : Type} [DecidableEq α] : ∀ {l m : List α}, l.Nodup → (∀ x ∈ l, x ∈ m) → l.length ≤ m.length
  | [], _, _, _ => Nat.zero_le _
  | x :: l, m, nd, h => by
    obtain ⟨nx, nd'⟩ := List.nodup_cons.mp nd
    have hx := h x (List.mem_cons_self ..)
    have := nodup_len (l := l) (m := m.erase x) nd' fun y hy => (List.mem_erase_of_ne (fun (z : y = x) => nx (z ▸ hy))).mpr (h y (List.mem_cons_of_mem _ hy))
    rw [List.length_erase_of_mem hx] at this
    have pos : 0 < m.length := List.length_pos_of_mem hx
    rw [List.length_cons]
    omega
/-- a def whose last argument is a memo: its entries good before and after -/
def spMemo (K : PySem.W.Frag) (P' : Program) (w : World) (sh : List Bool) {α : Type} (enc : α → List PyData) (pre : α → Prop) (Good : α → Ent sh → Prop) (Rel : α → Ent sh → Ent sh → Prop) (out : α → PyData) : Sp := fun vs H Q _ => ∃ (S : Type) (F : Eff S) (n : S) (a : α) (D : Addr) (get : S → Ent sh) (put : S → Ent sh → S) (us : List V),
  DLens F K P' w sh D get put ∧ F.J n H ∧ vs = us ++ [.ref D] ∧ DqAll K (F.st H) us (enc a) ∧ pre a ∧ Good a (get n) ∧ ∀ v H' es, Good a es → Rel a (get n) es → F.J (put n es) H' → Same (F.st H) (F.st H') → Dq K (F.st H') v (out a) → Q v H'
section
variable {K : PySem.W.Frag} {P' : Program} {w : World} {sh : List Bool} {α : Type} {enc : α → List PyData} {pre : α → Prop} {Good : α → Ent sh → Prop} {Rel : α → Ent sh → Ent sh → Prop} {out : α → PyData}
theorem len_Me {vs : List V} {H : Hp} {Q : VK} {E : XK} {l : Nat} (h : spMemo K P' w sh enc pre Good Rel out vs H Q E) (hk : ∀ a, (enc a).length + 1 = l) : vs.length = l := by
  obtain ⟨_, F, n, a, D, get, put, us, _, _, rfl, dq, _⟩ := h
  rw [List.length_append, dq.length, List.length_singleton, hk]
theorem body_Me {t : TS} {N : List Str} {vs : List V} {H : Hp} {Q : VK} {E : XK} (h : spMemo K P' w sh enc pre Good Rel out vs H Q E)
    (hw : ∀ {S : Type} (F : Eff S) (n : S) (a : α) (D : Addr) (get : S → Ent sh) (put : S → Ent sh → S), DLens F K P' w sh D get put → pre a → Good a (get n) → wS F K t ((enc a).map .dat ++ .raw (.ref D) :: List.replicate (N.length - ((enc a).length + 1)) .no) n { nx := fun _ _ => False, rt := fun r m => ∃ es, m = put n es ∧ Good a es ∧ Rel a (get n) es ∧ r = .dat (out a) }) :
    t { nx := fun _ H' => Q .non H', rt := Q } (L2.start N vs) H := by
  obtain ⟨S, F, n, a, D, get, put, us, L, jn, rfl, dq, hp, hg, q⟩ := h
  have start : RepS K (F.st H) (L2.start N (us ++ [.ref D])) ((enc a).map .dat ++ .raw (.ref D) :: List.replicate (N.length - ((enc a).length + 1)) .no) := by
    unfold L2.start
    rw [List.map_append, List.length_append, dq.length, List.append_assoc]
    have tail : ∀ k, RepS K (F.st H) (List.replicate k none) (List.replicate k .no) := fun k => by
      induction k with
      | zero => exact .nil
      | succ k ih => exact .cons True.intro ih
    have e : N.length - ((enc a).length + [V.ref D].length) = N.length - ((enc a).length + 1) := rfl
    rw [e]
    generalize N.length - ((enc a).length + 1) = k
    have go : ∀ {vs : List V} {ds : List PyData}, DqAll K (F.st H) vs ds → RepS K (F.st H) (vs.map some ++ ([V.ref D].map some ++ List.replicate k none)) (ds.map .dat ++ .raw (.ref D) :: List.replicate k .no) := by
      intro vs
      induction vs with
      | nil =>
        intro ds h
        cases h
        exact .cons (s := .raw (.ref D)) rfl (tail k)
      | cons v vs ih =>
        intro ds h
        cases h with
        | cons h1 h2 => exact .cons ⟨v, rfl, h1⟩ (ih h2)
    exact go dq
  refine hw F n a D get put L hp hg _ H _ jn start ⟨fun _ _ _ _ z => z.elim, fun v H' r m p j s rv => ?_, fun _ _ _ _ z => z.elim, fun _ _ _ _ z => z.elim⟩
  obtain ⟨es, rfl, hg', hr, rfl⟩ := p
  exact q v H' es hg' hr j s rv
theorem repA_split {G : Hp} {D : Addr} : ∀ {vs : List V} {ds : List PyData}, RepA K G vs (ds.map .dat ++ [.raw (.ref D)]) → ∃ us, vs = us ++ [.ref D] ∧ DqAll K G us ds
  | [], ds, h => by
    cases ds <;> cases h
  | v :: vs, [], .cons h1 h2 => by
    cases h2
    obtain rfl : v = V.ref D := h1
    exact ⟨[], rfl, .nil⟩
  | v :: vs, d :: ds, .cons h1 h2 => by
    obtain ⟨us, rfl, dq⟩ := repA_split h2
    exact ⟨v :: us, rfl, .cons h1 dq⟩
theorem c_me {S : Type} {F : Eff S} {n : S} {Φ : Sl → S → Prop} {D : Addr} {get : S → Ent sh} {put : S → Ent sh → S} {as : List Sl} (a : α) (he : as = (enc a).map .dat ++ [.raw (.ref D)]) (L : DLens F K P' w sh D get put) (hp : pre a) (hg : Good a (get n)) (q : ∀ es, Good a es → Rel a (get n) es → Φ (.dat (out a)) (put n es)) :
    wC F K (fun vs H Q => spMemo K P' w sh enc pre Good Rel out vs H Q E0) as n Φ := fun vs H Q jn ra kk => by
  subst he
  obtain ⟨us, rfl, dq⟩ := repA_split ra
  exact ⟨S, F, n, a, D, get, put, us, L, jn, rfl, dq, hp, hg, fun v H' es hg' hr j' s rv => kk v H' (.dat (out a)) _ (q es hg' hr) j' s rv⟩
end
end WkD
/-! the steps over data that need no thought -/
local macro_rules | `(tactic| walk_at "gd") => `(tactic| repeat (first
  | ((with_reducible refine' WkD.w_var ?hv ?hn ?_); (case hv => exact rfl); (case hn => exact (fun z => nomatch z)))
  | with_reducible refine WkD.w_int ?_ | with_reducible refine WkD.w_str ?_ | with_reducible refine WkD.w_non ?_ | with_reducible refine WkD.w_bl ?_
  | with_reducible refine WkD.w_chain ?_ | with_reducible refine WkD.w_tyc ?_ | ((with_reducible refine' WkD.c_isi ?hu ?_); (case hu => decide))
  | with_reducible refine WkD.w_op ?_ | with_reducible refine WkD.w_un ?_ | with_reducible refine WkD.w_nil ?_ | with_reducible refine WkD.w_cons ?_ | ((with_reducible refine' WkD.w_isi2 ?ha ?hb ?_); (case ha => decide); (case hb => decide)) | with_reducible refine WkD.w_CB ?_ | with_reducible refine WkD.w_call ?_
  | with_reducible refine WkD.w_if ?_ | with_reducible refine WkD.w_andV ?_ | with_reducible refine WkD.w_orV ?_ | with_reducible refine WkD.w_notV ?_ | with_reducible refine WkD.w_test ?_ | with_reducible refine WkD.w_tB ?_ | with_reducible refine WkD.w_not ?_
  | with_reducible refine WkD.w_and ?_ | with_reducible refine WkD.w_or ?_ | with_reducible refine WkD.w_yes ?_ | with_reducible refine WkD.w_next ?_ | with_reducible refine WkD.w_seq ?_ | with_reducible refine WkD.w_ret ?_ | with_reducible refine WkD.w_retN ?_
  | with_reducible refine WkD.w_drop ?_ | with_reducible refine WkD.w_ifS ?_ | with_reducible refine WkD.w_asg ?_ | with_reducible refine WkD.w_sl ?_ | with_reducible refine WkD.w_po0 ?_ | with_reducible refine WkD.w_po1 ?_ | with_reducible refine WkD.e_si ?_ | with_reducible refine WkD.l_A ?_ | with_reducible refine WkD.l_L ?_ | with_reducible refine WkD.w_cont ?_ | with_reducible refine WkD.w_break ?_ | with_reducible refine WkD.w_gt2 ?_ | with_reducible refine WkD.w_gt3 ?_ | with_reducible refine WkD.w_gcons ?_ | with_reducible refine WkD.w_gnil ?_ | with_reducible refine WkD.w_name ?_ | with_reducible refine WkD.w_par ?_
  | with_reducible refine WkD.r_I0i ?_ | with_reducible refine WkD.r_I0b ?_ | with_reducible refine WkD.u_U ?_ | with_reducible refine WkD.r_eqI ?_ | with_reducible refine WkD.r_neI ?_ | with_reducible refine WkD.r_eqS ?_ | with_reducible refine WkD.r_eqB ?_
  | ((with_reducible refine' WkD.r_ix ?hi ?_); (case hi => exact rfl)) | ((with_reducible refine' WkD.r_ixl ?hi ?_); (case hi => exact rfl))
  | ((with_reducible refine' WkD.r_ixT ?hi ?_); (case hi => exact rfl)) | ((with_reducible refine' WkD.r_ixL ?hi ?_); (case hi => exact rfl))
  | with_reducible refine WkD.c_gcd ?_ | with_reducible refine WkD.c_abs ?_ | with_reducible refine WkD.c_int ?_ | with_reducible refine WkD.e_bool ?_ | with_reducible refine WkD.w_tup ?_ | with_reducible refine WkD.w_lst ?_ | with_reducible refine WkD.e_ab ?_ | with_reducible refine WkD.d0 ?_ | with_reducible refine WkD.d1 ?_ | with_reducible refine WkD.d2 ?_ | with_reducible refine WkD.d3 ?_ | with_reducible refine WkD.d4 ?_))

namespace K35
open PySem PySem.Spec PyProof.Rows L2 WkH WkE WkQ WkS WkF WkD WkN WkC
section
variable {P : Program} {w : World} {K : PySem.W.Frag} {mg : Str → Option Value} {base : Heap}
/-- the key (mark, count) -/
def key2 (m : Rat) (k : Nat) : NKey [true, false] := ⟨[.t [.inl m.num, .inl (m.den : Int)], .k (.inl (k : Int))], rfl⟩
theorem key2_inj {m m' : Rat} {k k' : Nat} (h : key2 m k = key2 m' k') : m = m' ∧ k = k' := by
  have h1 := congrArg Subtype.val h
  simp only [key2, List.cons.injEq, NK.t.injEq, NK.k.injEq, Sum.inl.injEq] at h1
  exact ⟨Rat.ext h1.1.1 (by omega), by omega⟩
/-- the memo's entries: over the marks U; right where the count is at most kk -/
structure GoodK (f : Nat → Rat → Rat) (U : List Rat) (kk : Nat) (es : Ent [true, false]) : Prop where
  nd : (es.map (·.1)).Nodup
  keys : ∀ p ∈ es, ∃ m k, m ∈ U ∧ k ≤ 12 ∧ p.1 = key2 m k
  ok : ∀ m k d, k ≤ kk → valD es (key2 m k) = some d → d = frD (f k m)
/-- what lies above the count kk is not touched -/
def RelK (kk : Nat) (es es' : Ent [true, false]) : Prop := ∀ m k, kk < k → valD es' (key2 m k) = valD es (key2 m k)
theorem RelK.refl (kk : Nat) (es : Ent [true, false]) : RelK kk es es := fun _ _ _ => rfl
theorem RelK.trans {kk : Nat} {a b c : Ent [true, false]} (h : RelK kk a b) (h' : RelK kk b c) : RelK kk a c := fun m k l => (h' m k l).trans (h m k l)
section
variable {f : Nat → Rat → Rat} {U : List Rat} {es : Ent [true, false]} {m : Rat} {k kk : Nat}
theorem GoodK.len (g : GoodK f U kk es) : es.length ≤ U.length * 13 := by
  have h := nodup_len (m := (U.map fun m => (List.range 13).map fun k => key2 m k).flatten) g.nd fun x hx => by
    obtain ⟨p, hp, rfl⟩ := List.mem_map.mp hx
    obtain ⟨m, k, hm, hk, e⟩ := g.keys p hp
    rw [e]
    exact List.mem_flatten.mpr ⟨_, List.mem_map.mpr ⟨m, hm, rfl⟩, List.mem_map.mpr ⟨k, List.mem_range.mpr (by omega), rfl⟩⟩
  rw [List.length_map] at h
  refine Nat.le_trans h ?_
  clear h g
  induction U with
  | nil => simp
  | cons u U ih =>
    rw [List.map_cons, List.flatten_cons, List.length_append, List.length_map, List.length_range, List.length_cons]
    omega
theorem put_keys {d : PyData} (g : ∀ p ∈ es, ∃ m k, m ∈ U ∧ k ≤ 12 ∧ p.1 = key2 m k) (hm : m ∈ U) (hk : k ≤ 12) : ∀ p ∈ putD es (key2 m k) d, ∃ m k, m ∈ U ∧ k ≤ 12 ∧ p.1 = key2 m k := fun p hp =>
  (putD_mem hp).elim (fun e => ⟨m, k, hm, hk, by rw [e]⟩) fun h => g p h
theorem put_ne {d : PyData} {m' : Rat} {k' : Nat} (h : ¬ (m' = m ∧ k' = k)) : valD (putD es (key2 m k) d) (key2 m' k') = valD es (key2 m' k') := by
  rw [valD_put, if_neg fun e => h (key2_inj e)]
theorem put_eq {d : PyData} : valD (putD es (key2 m k) d) (key2 m k) = some d := by
  rw [valD_put, if_pos rfl]
/-- any value at a count above: below nothing changes -/
theorem GoodK.lay (g : GoodK f U kk es) {d : PyData} (hm : m ∈ U) (hk : k ≤ 12) (lt : kk < k) : GoodK f U kk (putD es (key2 m k) d) := by
  refine ⟨putD_nodup g.nd, put_keys g.keys hm hk, fun m' k' d' l e => ?_⟩
  rw [put_ne (fun z => by omega)] at e
  exact g.ok m' k' d' l e
theorem GoodK.down (g : GoodK f U kk es) {j : Nat} (h : j ≤ kk) : GoodK f U j es := ⟨g.nd, g.keys, fun m k d l e => g.ok m k d (Nat.le_trans l h) e⟩
/-- the right value, at last -/
theorem GoodK.fill {es0 es1 es2 : Ent [true, false]} {j : Nat} {d1 : PyData} (g0 : GoodK f U (j + 1) es0) (g2 : GoodK f U j es2) (e1 : es1 = putD es0 (key2 m (j + 1)) d1) (r : RelK j es1 es2) (hm : m ∈ U) (hk : j + 1 ≤ 12) :
    GoodK f U (j + 1) (putD es2 (key2 m (j + 1)) (frD (f (j + 1) m))) ∧ RelK (j + 1) es0 (putD es2 (key2 m (j + 1)) (frD (f (j + 1) m))) := by
  refine ⟨⟨putD_nodup g2.nd, put_keys g2.keys hm hk, fun m' k' d' l e => ?_⟩, fun m' k' l => ?_⟩
  · by_cases z : m' = m ∧ k' = j + 1
    · obtain ⟨rfl, rfl⟩ := z
      rw [put_eq] at e
      exact (Option.some.inj e).symm
    · rw [put_ne z] at e
      rcases Nat.lt_or_ge j k' with y | y
      · have ek : k' = j + 1 := by omega
        rw [r m' k' y, e1, put_ne z] at e
        exact g0.ok m' k' d' (by omega) e
      · exact g2.ok m' k' d' y e
  · have z : ¬ (m' = m ∧ k' = j + 1) := fun z => by omega
    rw [put_ne z, r m' k' (by omega), e1, put_ne z]
theorem GoodK.zero (g : GoodK f U kk es) (hm : m ∈ U) (hk : kk ≤ 12) {d : PyData} (hd : d = frD (f kk m)) : GoodK f U kk (putD es (key2 m kk) d) ∧ RelK kk es (putD es (key2 m kk) d) := by
  refine ⟨⟨putD_nodup g.nd, put_keys g.keys hm hk, fun m' k' d' l e => ?_⟩, fun m' k' l => put_ne fun z => by omega⟩
  by_cases z : m' = m ∧ k' = kk
  · obtain ⟨rfl, rfl⟩ := z
    rw [put_eq] at e
    rw [← Option.some.inj e]
    exact hd
  · rw [put_ne z] at e
    exact g.ok m' k' d' l e
end
theorem keyD2 (m : Rat) (k : Nat) : PyData.tuple [frD m, .int (k : Int)] = keyD (key2 m k).1 := rfl
/-- what the memo's defs are asked of -/
structure Few where
  A : Nat
  S : Nat
  b : List (Rat × Rat)
  c : Rat
  x : Rat
  X : Nat
  U : List Rat
  m : Rat
  k : Nat
  l : Rat
structure FewOk (q : Few) : Prop where
  B : Base q.A q.S q.b q.c q.x q.X
  hc : Bits 100 q.c
  hU : q.U.length ≤ 40
  inU : ∀ m ∈ q.U, In q.X (2 ^ 200) m
  up : ∀ m ∈ q.U, ∀ r ∈ q.b, K35M.mx m r.1 ∈ q.U
  hm : q.m ∈ q.U
def encFew (q : Few) : List PyData := [boxD q.b, frD q.c, frD q.m, .int (q.k : Int)]
abbrev spFew (P : Program) (w : World) (c : Nat) : Sp := spMemo K P w [true, false] encFew (fun q => FewOk q ∧ q.k < c ∧ q.k ≤ 12) (fun q es => GoodK (K35M.V q.b q.c) q.U q.k es) (fun q => RelK q.k) fun q => frD (K35M.V q.b q.c q.k q.m)
theorem sc_few : FnScope ["one", "cost", "mark", "count", "memo", "key", "rows", "worth", "chance"] ["one", "cost", "mark", "count", "memo"] d_law_few.sco := ⟨rfl, rfl, rfl, by decide +kernel, rfl, by decide +kernel, by decide +kernel⟩
theorem ok_few {fd : FuncData} (F : Stands K d_law_few fd) (g : mg "_law_few" = some (.ref d_law_few.adr)) (bd : Binds K fd ["one", "cost", "mark", "count", "memo"] []) (Fm : Fn P w K mg base CX0 2 "_law_times" ["one", "other"] (spMultiply (K := K))) (Fg : Fn P w K mg base CX0 2 "_law_more" ["one", "other"] (spMx (K := K)))
    (Fu : Fn P w K mg base CX0 2 "_law_minus" ["one", "other"] (spSubtract (K := K))) (Fs : Fn P w K mg base CX0 3 "_law_sum" ["items"] (spSum (K := K))) : ∀ c, FnOk P w K mg base CX0 (c + 5) d_law_few.adr fd ["one", "cost", "mark", "count", "memo"] (spFew (K := K) P w c)
  | 0 => fn_never fun vs H Q E h => by
    obtain ⟨_, _, _, _, _, _, _, _, _, _, _, _, hp, _⟩ := h
    exact absurd hp.2.1 (Nat.not_lt_zero _)
  | c + 1 => by
    have Fself : Fn P w K mg base CX0 (c + 5) "_law_few" ["one", "cost", "mark", "count", "memo"] (spFew (K := K) P w c) := Fn.mk' F g bd (ok_few F g bd Fm Fg Fu Fs c)
    refine FunD.ok F sc_few (fun vs H Q E h => len_Me h fun _ => rfl) (fun cdv A outer s H vs Q E hr h => ⟨_, PSs.nox (pss_cons (ps_set (i := 5) sc_few.nd rfl (by first | exact Or.inl rfl | exact Or.inr rfl) (pe_tup (pa_cons (pv 2) (pa_cons (pv 3) pa_nil))))
  (pss_cons (ps_if (pt_cmpR (show OpR _ _ (WkN.rNotInN K P w [true, false]) from WkN.op_notInN (sh := [true, false]) (by have := hr.un; dsimp only [cxOf, Cx.nox]; omega)) (pv 5) (pv 4) rfl) (pss_cons (ps_asg (pv 2) (pg_sub (pv 4) (pv 5) (WkN.set_n (sh := [true, false]) (by have := hr.un; dsimp only [cxOf, Cx.nox]; omega))))
  (pss_one (ps_if (pt_cmpR op_gt (pv 3) pe_int (nomark _)) (pss_cons (ps_setLc (i := 6) (own := [("worth", 7), ("chance", 8)]) (g := (gTup K 2 (gCons (gName 7) (gCons (gName 8) gNil)))) rfl sc_few.nd rfl rfl (sw_true rfl rfl rfl (by decide +kernel)) (pi_tup (pv 0)) (blkOk_by (own := [("worth", 7), ("chance", 8)]) (N := ["one", "cost", "mark", "count", "memo", "key", "rows", "worth", "chance"]) (sc := d_law_few.sco) (by decide +kernel)) (fun _ _ _ _ _ => (pg_tup rfl (pgs_cons (pg_name (i := 7) sc_few.nd rfl (by first | exact Or.inl rfl | exact Or.inr rfl)) (pgs_cons (pg_name (i := 8) sc_few.nd rfl (by first | exact Or.inl rfl | exact Or.inr rfl)) pgs_nil)))) (fun _ _ _ _ _ => pts_nil) (fun _ _ _ _ _ => (pe_fn Fm (hr.mono (Nat.le_add_left 5 c)) rfl (pa_cons (pv 8) (pa_cons (pe_fn Fself hr rfl (pa_cons (pv 0) (pa_cons (pv 1) (pa_cons (pe_fn Fg (hr.mono (Nat.le_add_left 5 c)) rfl (pa_cons (pv 2) (pa_cons (pv 7) pa_nil))) (pa_cons (pe_op op_sub (pv 3) pe_int) (pa_cons (pv 4) pa_nil))))) (hj := Nat.le_refl _)) pa_nil)))))
  (pss_one (ps_asg (pe_fn Fg (hr.mono (Nat.le_add_left 5 c)) rfl (pa_cons (pv 2) (pa_cons (pe_fn Fu (hr.mono (Nat.le_add_left 5 c)) rfl (pa_cons (pe_fn Fs (hr.mono (Nat.le_add_left 5 c)) rfl (pa_cons (pv 6) pa_nil)) (pa_cons (pv 1) pa_nil))) pa_nil))) (pg_sub (pv 4) (pv 5) (WkN.set_n (sh := [true, false]) (by have := hr.un; dsimp only [cxOf, Cx.nox]; omega)))))) pss_nil))) pss_nil)
  (pss_one (ps_ret (WkN.pe_nget (sh := [true, false]) (by have := hr.un; dsimp only [cxOf, Cx.nox]; omega) (pv 4) (pv 5) (fun _ _ => rfl)))))), ?_⟩)
    refine body_Me h fun F n q D get put L hp hg => ?_
    obtain ⟨A, S, b, c', x, X, U, m, k, l⟩ := q
    obtain ⟨⟨B, hc, hU, inU, up, hm⟩, hk, hk12⟩ := hp
    have B : Base A S b c' x X := B
    have hc : Bits 100 c' := hc
    have hU : U.length ≤ 40 := hU
    have inU : ∀ m ∈ U, In X (2 ^ 200) m := inU
    have up : ∀ m ∈ U, ∀ r ∈ b, K35M.mx m r.1 ∈ U := up
    have hm : m ∈ U := hm
    have hk : k < c + 1 := hk
    have hk12 : k ≤ 12 := hk12
    have hg : GoodK (K35M.V b c') U k (get n) := hg
    have X2 : X < 2 ^ 2000 := Nat.lt_trans B.hX (by decide +kernel)
    have b4 : ∀ {y : Rat}, In X (2 ^ 200) y → Bits 4000 y := fun h => in4 h X2 (by decide +kernel)
    have l2 : b.length ≤ 32 := B.z.l
    try dsimp only [cxOf, Cx.nox, Cx.wish, encFew]
    walk_at "gd"
    rw [keyD2]
    refine r_dno L ?_
    walk_at "gd"
    refine ⟨fun h => ?_, fun h => ?_⟩
    · walk_at "gd"
      refine w_dput L rfl ?_
      walk_at "gd"
      refine ⟨key2 m k, _, rfl, rfl, rfl, by have := hg.len; omega, ?_⟩
      walk_at "gd"
      refine ⟨fun h0 => ?_, fun h0 => ?_⟩
      · have h0 : 0 < k := by
          have := of_decide_eq_true h0
          omega
        obtain ⟨j, rfl⟩ : ∃ j, k = j + 1 := ⟨k - 1, by omega⟩
        have e1' : X * S ^ j < 2 ^ 1900 := B.small (by omega)
        have e1 : X * S ^ j < 2 ^ 2000 := Nat.lt_trans e1' (by decide +kernel)
        have e2 : 2 ^ (200 + 6 * j) ≤ 2 ^ 1500 := Nat.pow_le_pow_right (by decide) (by omega)
        have hV : ∀ q ∈ b, In (X * S ^ j) (2 ^ (200 + 6 * j)) (K35M.V b c' j (K35M.mx m q.1)) := fun q hq => B.V (by omega) (in_mx (inU m hm) (B.worth0 hq))
        walk_at "gd"
        refine w_lcT ?_ (sets_two (by decide) (by decide))
        walk_at "gd"
        refine ⟨_, rfl, by rw [List.length_map]; omega, fun i acc μ => ∃ e, GoodK (K35M.V b c') U j e ∧ RelK j (putD (get n) (key2 m (j + 1)) (frD m)) e ∧ μ = put n e ∧ acc = (b.take i).map (fun q => frD (q.2 * K35M.V b c' j (K35M.mx m q.1))), ⟨_, (hg.down (Nat.le_succ j)).lay hm hk12 (Nat.lt_succ_self j), RelK.refl _ _, rfl, rfl⟩, fun D ys i d acc μ nD hi hl hI => ?_, fun acc μ hI hl => ?_⟩
        · obtain ⟨e, ge, re, rfl, rfl⟩ := hI
          obtain ⟨q, hq, rfl⟩ := get_map hi
          have hq' := List.mem_of_getElem? hq
          walk_at "gd"
          refine ⟨fun _ => ?_, fun z => nomatch z⟩
          walk_at "gd"
          refine c_fn (enc := twoR) (m, q.1) ⟨b4 (inU m hm), b4 (B.worth0 hq')⟩ ?_
          walk_at "gd"
          have ej : ((j + 1 : Nat) : Int) - 1 = (j : Int) := by omega
          rw [ej]
          refine c_me (enc := encFew) ⟨A, S, b, c', x, X, U, K35M.mx m q.1, j, l⟩ rfl (L.hide nD) ⟨⟨B, hc, hU, inU, up, up m hm q hq'⟩, by show j < c; omega, by show j ≤ 12; omega⟩ (by rw [L.gp]; exact ge) fun e' ge' re' => ?_
          walk_at "gd"
          refine c_fn (enc := twoR) (q.2, K35M.V b c' j (K35M.mx m q.1)) ⟨(B.z.c4 hq').mono (by decide), in4 (hV q hq') e1 e2⟩ ?_
          refine ⟨_, rfl, e', ge', re.trans (by rw [L.gp] at re'; exact re'), by rw [L.pp], ?_⟩
          rw [List.take_add_one, hq, List.map_append]
          rfl
        obtain ⟨e, ge, re, rfl, rfl⟩ := hI
        rw [List.length_map, List.take_length]
        walk_at "gd"
        have hs := B.z.means (g := fun w => K35M.V b c' j (K35M.mx m w)) e1' e2 (B.pos j) hV
        refine c_fnE (enc := listR) (b.map fun q => q.2 * K35M.V b c' j (K35M.mx m q.1)) (by rw [listR, List.map_map]; rfl) hs.1 ?_
        rw [sum_mean _ (fun w => K35M.V b c' j (K35M.mx m w)) fun _ => rfl]
        have st := B.step (f := fun w => K35M.V b c' j (K35M.mx m w)) hV (by omega)
        have e3 : S * (X * S ^ j) < 2 ^ 2000 := Nat.lt_of_le_of_lt (Nat.mul_le_mul (Nat.le_of_lt B.z.hS) (Nat.le_of_lt e1')) (by decide +kernel)
        have e4 : 32 * 2 ^ (200 + 6 * j) ≤ 2 ^ 1500 := Nat.le_trans (Nat.mul_le_mul_left 32 (Nat.pow_le_pow_right (by decide) (show 200 + 6 * j ≤ 272 by omega))) (by decide +kernel)
        walk_at "gd"
        refine c_fn (enc := twoR) (_, c') ⟨in4 st.1 e3 e4, hc.mono (by decide)⟩ ?_
        walk_at "gd"
        refine c_fn (enc := twoR) (m, K35M.mean (fun w => K35M.V b c' j (K35M.mx m w)) b - c') ⟨b4 (inU m hm), in4 st.2 (Nat.lt_trans (B.small (by omega)) (by decide +kernel)) (Nat.pow_le_pow_right (by decide) (by omega))⟩ ?_
        refine w_dput L rfl ?_
        walk_at "gd"
        refine ⟨key2 m (j + 1), _, rfl, rfl, rfl, by have := ge.len; rw [L.gp]; omega, ?_⟩
        walk_at "gd"
        refine w_dget L rfl ?_
        walk_at "gd"
        obtain ⟨gf, rf⟩ := hg.fill ge rfl re hm hk12
        refine ⟨key2 m (j + 1), _, rfl, by rw [L.gp]; exact put_eq, _, L.pp _ _ _, by rw [L.gp]; exact gf, by rw [L.gp]; exact rf, rfl⟩
      · have h0 : k = 0 := by
          have := of_decide_eq_false h0
          omega
        subst h0
        walk_at "gd"
        refine w_dget L rfl ?_
        walk_at "gd"
        obtain ⟨gf, rf⟩ := hg.zero hm (by omega) (d := frD m) rfl
        refine ⟨key2 m 0, frD m, rfl, ?_, _, rfl, gf, rf, rfl⟩
        rw [L.gp]
        exact put_eq
    · walk_at "gd"
      refine w_dget L rfl ?_
      walk_at "gd"
      have h' : (valD (get n) (key2 m k)).isSome = true := by simpa using h
      obtain ⟨d, hd⟩ := Option.isSome_iff_exists.mp h'
      exact ⟨key2 m k, d, rfl, hd, get n, (L.pg n).symm, hg, RelK.refl _ _, by rw [hg.ok m k d (Nat.le_refl _) hd]⟩
def encBelow (q : Few) : List PyData := [boxD q.b, frD q.c, frD q.m, .int (q.k : Int), frD q.l]
abbrev spBelowM (P : Program) (w : World) (c : Nat) : Sp := spMemo K P w [true, false] encBelow (fun q => FewOk q ∧ q.k < c ∧ q.k ≤ 12 ∧ Bits 4000 q.l) (fun q es => GoodK (K35M.B q.b q.c q.l) q.U q.k es) (fun q => RelK q.k) fun q => frD (K35M.B q.b q.c q.l q.k q.m)
theorem Base.Bx {A S : Nat} {b : List (Rat × Rat)} {c x l : Rat} {X i : Nat} (B : Base A S b c x X) (hi : i ≤ 13 := by omega) : ∀ {m : Rat}, In X (2 ^ 200) m → In (X * S ^ i) (2 ^ (200 + 6 * i)) (K35M.B b c l i m) := by
  induction i with
  | zero => exact fun h => B.up (i := 0) h (by decide)
  | succ i ih =>
    intro m h
    show In _ _ (if l < m then m else K35M.mean (fun w => K35M.B b c l i (K35M.mx m w)) b - c)
    split
    · exact B.up h (by decide)
    · exact (B.step (f := fun w => K35M.B b c l i (K35M.mx m w)) (fun q hq => ih (by omega) (in_mx h (B.worth0 hq))) (by omega)).2
theorem sc_below : FnScope ["one", "cost", "mark", "count", "limit", "memo", "key", "rows", "worth", "chance"] ["one", "cost", "mark", "count", "limit", "memo"] d_law_below.sco := ⟨rfl, rfl, rfl, by decide +kernel, rfl, by decide +kernel, by decide +kernel⟩
theorem ok_below {fd : FuncData} (F : Stands K d_law_below fd) (g : mg "_law_below" = some (.ref d_law_below.adr)) (bd : Binds K fd ["one", "cost", "mark", "count", "limit", "memo"] []) (Fm : Fn P w K mg base CX0 2 "_law_times" ["one", "other"] (spMultiply (K := K))) (Fb : Fn P w K mg base CX0 1 "_law_less" ["one", "other"] (spBelow (K := K))) (Fg : Fn P w K mg base CX0 2 "_law_more" ["one", "other"] (spMx (K := K)))
    (Fu : Fn P w K mg base CX0 2 "_law_minus" ["one", "other"] (spSubtract (K := K))) (Fs : Fn P w K mg base CX0 3 "_law_sum" ["items"] (spSum (K := K))) : ∀ c, FnOk P w K mg base CX0 (c + 5) d_law_below.adr fd ["one", "cost", "mark", "count", "limit", "memo"] (spBelowM (K := K) P w c)
  | 0 => fn_never fun vs H Q E h => by
    obtain ⟨_, _, _, _, _, _, _, _, _, _, _, _, hp, _⟩ := h
    exact absurd hp.2.1 (Nat.not_lt_zero _)
  | c + 1 => by
    have Fself : Fn P w K mg base CX0 (c + 5) "_law_below" ["one", "cost", "mark", "count", "limit", "memo"] (spBelowM (K := K) P w c) := Fn.mk' F g bd (ok_below F g bd Fm Fb Fg Fu Fs c)
    refine FunD.ok F sc_below (fun vs H Q E h => len_Me h fun _ => rfl) (fun cdv A outer s H vs Q E hr h => ⟨_, PSs.nox (pss_cons (ps_set (i := 6) sc_below.nd rfl (by first | exact Or.inl rfl | exact Or.inr rfl) (pe_tup (pa_cons (pv 2) (pa_cons (pv 3) pa_nil))))
  (pss_cons (ps_if (pt_cmpR (show OpR _ _ (WkN.rNotInN K P w [true, false]) from WkN.op_notInN (sh := [true, false]) (by have := hr.un; dsimp only [cxOf, Cx.nox]; omega)) (pv 6) (pv 5) rfl) (pss_cons (ps_asg (pv 2) (pg_sub (pv 5) (pv 6) (WkN.set_n (sh := [true, false]) (by have := hr.un; dsimp only [cxOf, Cx.nox]; omega))))
  (pss_one (ps_if (PW.pt (pw_and (pt_cmpR op_gt (pv 3) pe_int (nomark _)) (pw_and1 (pt_not (pt_val (pe_fn Fb (hr.mono (Nat.le_add_left 5 c)) rfl (pa_cons (pv 4) (pa_cons (pv 2) pa_nil)))))))) (pss_cons (ps_setLc (i := 7) (own := [("worth", 8), ("chance", 9)]) (g := (gTup K 2 (gCons (gName 8) (gCons (gName 9) gNil)))) rfl sc_below.nd rfl rfl (sw_true rfl rfl rfl (by decide +kernel)) (pi_tup (pv 0)) (blkOk_by (own := [("worth", 8), ("chance", 9)]) (N := ["one", "cost", "mark", "count", "limit", "memo", "key", "rows", "worth", "chance"]) (sc := d_law_below.sco) (by decide +kernel)) (fun _ _ _ _ _ => (pg_tup rfl (pgs_cons (pg_name (i := 8) sc_below.nd rfl (by first | exact Or.inl rfl | exact Or.inr rfl)) (pgs_cons (pg_name (i := 9) sc_below.nd rfl (by first | exact Or.inl rfl | exact Or.inr rfl)) pgs_nil)))) (fun _ _ _ _ _ => pts_nil) (fun _ _ _ _ _ => (pe_fn Fm (hr.mono (Nat.le_add_left 5 c)) rfl (pa_cons (pv 9) (pa_cons (pe_fn Fself hr rfl (pa_cons (pv 0) (pa_cons (pv 1) (pa_cons (pe_fn Fg (hr.mono (Nat.le_add_left 5 c)) rfl (pa_cons (pv 2) (pa_cons (pv 8) pa_nil))) (pa_cons (pe_op op_sub (pv 3) pe_int) (pa_cons (pv 4) (pa_cons (pv 5) pa_nil)))))) (hj := Nat.le_refl _)) pa_nil)))))
  (pss_one (ps_asg (pe_fn Fu (hr.mono (Nat.le_add_left 5 c)) rfl (pa_cons (pe_fn Fs (hr.mono (Nat.le_add_left 5 c)) rfl (pa_cons (pv 7) pa_nil)) (pa_cons (pv 1) pa_nil))) (pg_sub (pv 5) (pv 6) (WkN.set_n (sh := [true, false]) (by have := hr.un; dsimp only [cxOf, Cx.nox]; omega)))))) pss_nil))) pss_nil)
  (pss_one (ps_ret (WkN.pe_nget (sh := [true, false]) (by have := hr.un; dsimp only [cxOf, Cx.nox]; omega) (pv 5) (pv 6) (fun _ _ => rfl)))))), ?_⟩)
    refine body_Me h fun F n q D get put L hp hg => ?_
    obtain ⟨A, S, b, c', x, X, U, m, k, l⟩ := q
    obtain ⟨⟨B, hc, hU, inU, up, hm⟩, hk, hk12, hlim⟩ := hp
    have hlim : Bits 4000 l := hlim
    have B : Base A S b c' x X := B
    have hc : Bits 100 c' := hc
    have hU : U.length ≤ 40 := hU
    have inU : ∀ m ∈ U, In X (2 ^ 200) m := inU
    have up : ∀ m ∈ U, ∀ r ∈ b, K35M.mx m r.1 ∈ U := up
    have hm : m ∈ U := hm
    have hk : k < c + 1 := hk
    have hk12 : k ≤ 12 := hk12
    have hg : GoodK (K35M.B b c' l) U k (get n) := hg
    have X2 : X < 2 ^ 2000 := Nat.lt_trans B.hX (by decide +kernel)
    have b4 : ∀ {y : Rat}, In X (2 ^ 200) y → Bits 4000 y := fun h => in4 h X2 (by decide +kernel)
    have l2 : b.length ≤ 32 := B.z.l
    try dsimp only [cxOf, Cx.nox, Cx.wish, encBelow]
    walk_at "gd"
    rw [keyD2]
    refine r_dno L ?_
    walk_at "gd"
    refine ⟨fun h => ?_, fun h => ?_⟩
    · walk_at "gd"
      refine w_dput L rfl ?_
      walk_at "gd"
      refine ⟨key2 m k, _, rfl, rfl, rfl, by have := hg.len; omega, ?_⟩
      walk_at "gd"
      refine ⟨fun h0 => ?_, fun h0 => ?_⟩
      rotate_left
      · have h0 : k = 0 := by
          have := of_decide_eq_false h0
          omega
        subst h0
        obtain ⟨gf, rf⟩ := hg.zero hm (by omega) (d := frD m) rfl
        refine ⟨fun z => (Bool.false_ne_true z).elim, fun _ => ?_⟩
        walk_at "gd"
        refine w_dget L rfl ?_
        walk_at "gd"
        refine ⟨key2 m 0, frD m, rfl, ?_, _, rfl, gf, rf, rfl⟩
        rw [L.gp]
        exact put_eq
      walk_at "gd"
      refine c_fn (enc := twoR) (l, m) ⟨hlim, b4 (inU m hm)⟩ ?_
      walk_at "gd"
      have h0 : 0 < k := by
        have := of_decide_eq_true h0
        omega
      obtain ⟨j, rfl⟩ : ∃ j, k = j + 1 := ⟨k - 1, by omega⟩
      have eB : K35M.B b c' l (j + 1) m = if l < m then m else K35M.mean (fun w => K35M.B b c' l j (K35M.mx m w)) b - c' := rfl
      refine ⟨fun h1 => ?_, fun h1 => ?_⟩
      · have h1 : ¬ l < m := by simpa using h1
        rw [if_neg h1] at eB
        have e1' : X * S ^ j < 2 ^ 1900 := B.small (by omega)
        have e1 : X * S ^ j < 2 ^ 2000 := Nat.lt_trans e1' (by decide +kernel)
        have e2 : 2 ^ (200 + 6 * j) ≤ 2 ^ 1500 := Nat.pow_le_pow_right (by decide) (by omega)
        have hV : ∀ q ∈ b, In (X * S ^ j) (2 ^ (200 + 6 * j)) (K35M.B b c' l j (K35M.mx m q.1)) := fun q hq => B.Bx (by omega) (in_mx (inU m hm) (B.worth0 hq))
        walk_at "gd"
        refine w_lcT ?_ (sets_two (by decide) (by decide))
        walk_at "gd"
        refine ⟨_, rfl, by rw [List.length_map]; omega, fun i acc μ => ∃ e, GoodK (K35M.B b c' l) U j e ∧ RelK j (putD (get n) (key2 m (j + 1)) (frD m)) e ∧ μ = put n e ∧ acc = (b.take i).map (fun q => frD (q.2 * K35M.B b c' l j (K35M.mx m q.1))), ⟨_, (hg.down (Nat.le_succ j)).lay hm hk12 (Nat.lt_succ_self j), RelK.refl _ _, rfl, rfl⟩, fun D ys i d acc μ nD hi hl hI => ?_, fun acc μ hI hl => ?_⟩
        · obtain ⟨e, ge, re, rfl, rfl⟩ := hI
          obtain ⟨q, hq, rfl⟩ := get_map hi
          have hq' := List.mem_of_getElem? hq
          walk_at "gd"
          refine ⟨fun _ => ?_, fun z => nomatch z⟩
          walk_at "gd"
          refine c_fn (enc := twoR) (m, q.1) ⟨b4 (inU m hm), b4 (B.worth0 hq')⟩ ?_
          walk_at "gd"
          have ej : ((j + 1 : Nat) : Int) - 1 = (j : Int) := by omega
          rw [ej]
          refine c_me (enc := encBelow) ⟨A, S, b, c', x, X, U, K35M.mx m q.1, j, l⟩ rfl (L.hide nD) ⟨⟨B, hc, hU, inU, up, up m hm q hq'⟩, by show j < c; omega, by show j ≤ 12; omega, hlim⟩ (by rw [L.gp]; exact ge) fun e' ge' re' => ?_
          walk_at "gd"
          refine c_fn (enc := twoR) (q.2, K35M.B b c' l j (K35M.mx m q.1)) ⟨(B.z.c4 hq').mono (by decide), in4 (hV q hq') e1 e2⟩ ?_
          refine ⟨_, rfl, e', ge', re.trans (by rw [L.gp] at re'; exact re'), by rw [L.pp], ?_⟩
          rw [List.take_add_one, hq, List.map_append]
          rfl
        obtain ⟨e, ge, re, rfl, rfl⟩ := hI
        rw [List.length_map, List.take_length]
        walk_at "gd"
        have hs := B.z.means (g := fun w => K35M.B b c' l j (K35M.mx m w)) e1' e2 (B.pos j) hV
        refine c_fnE (enc := listR) (b.map fun q => q.2 * K35M.B b c' l j (K35M.mx m q.1)) (by rw [listR, List.map_map]; rfl) hs.1 ?_
        rw [sum_mean _ (fun w => K35M.B b c' l j (K35M.mx m w)) fun _ => rfl]
        have st := B.step (f := fun w => K35M.B b c' l j (K35M.mx m w)) hV (by omega)
        have e3 : S * (X * S ^ j) < 2 ^ 2000 := Nat.lt_of_le_of_lt (Nat.mul_le_mul (Nat.le_of_lt B.z.hS) (Nat.le_of_lt e1')) (by decide +kernel)
        have e4 : 32 * 2 ^ (200 + 6 * j) ≤ 2 ^ 1500 := Nat.le_trans (Nat.mul_le_mul_left 32 (Nat.pow_le_pow_right (by decide) (show 200 + 6 * j ≤ 272 by omega))) (by decide +kernel)
        walk_at "gd"
        refine c_fn (enc := twoR) (_, c') ⟨in4 st.1 e3 e4, hc.mono (by decide)⟩ ?_
        walk_at "gd"
        refine w_dput L rfl ?_
        walk_at "gd"
        refine ⟨key2 m (j + 1), _, rfl, rfl, rfl, by have := ge.len; rw [L.gp]; omega, ?_⟩
        walk_at "gd"
        refine w_dget L rfl ?_
        walk_at "gd"
        obtain ⟨gf, rf⟩ := hg.fill ge rfl re hm hk12
        rw [eB] at gf rf
        refine ⟨key2 m (j + 1), _, rfl, by rw [L.gp]; exact put_eq, _, L.pp _ _ _, by rw [L.gp]; exact gf, by rw [L.gp]; exact rf, by rw [eB]⟩
      · have h1 : l < m := by simpa using h1
        rw [if_pos h1] at eB
        obtain ⟨gf, rf⟩ := hg.zero hm hk12 (d := frD m) (by rw [eB])
        walk_at "gd"
        refine w_dget L rfl ?_
        walk_at "gd"
        refine ⟨key2 m (j + 1), frD m, rfl, by rw [L.gp]; exact put_eq, _, rfl, gf, rf, by rw [eB]⟩
    · walk_at "gd"
      refine w_dget L rfl ?_
      walk_at "gd"
      have h' : (valD (get n) (key2 m k)).isSome = true := by simpa using h
      obtain ⟨d, hd⟩ := Option.isSome_iff_exists.mp h'
      exact ⟨key2 m k, d, rfl, hd, get n, (L.pg n).symm, hg, RelK.refl _ _, by rw [hg.ok m k d (Nat.le_refl _) hd]⟩
end
end K35
/-! the steps over data that need no thought -/
local macro_rules | `(tactic| walk_at "gd") => `(tactic| repeat (first
  | ((with_reducible refine' WkD.w_var ?hv ?hn ?_); (case hv => exact rfl); (case hn => exact (fun z => nomatch z)))
  | with_reducible refine WkD.w_int ?_ | with_reducible refine WkD.w_str ?_ | with_reducible refine WkD.w_non ?_ | with_reducible refine WkD.w_bl ?_
  | with_reducible refine WkD.w_chain ?_ | with_reducible refine WkD.w_tyc ?_ | ((with_reducible refine' WkD.c_isi ?hu ?_); (case hu => decide))
  | with_reducible refine WkD.w_op ?_ | with_reducible refine WkD.w_un ?_ | with_reducible refine WkD.w_nil ?_ | with_reducible refine WkD.w_cons ?_ | ((with_reducible refine' WkD.w_isi2 ?ha ?hb ?_); (case ha => decide); (case hb => decide)) | with_reducible refine WkD.w_CB ?_ | with_reducible refine WkD.w_call ?_
  | with_reducible refine WkD.w_if ?_ | with_reducible refine WkD.w_andV ?_ | with_reducible refine WkD.w_orV ?_ | with_reducible refine WkD.w_notV ?_ | with_reducible refine WkD.w_test ?_ | with_reducible refine WkD.w_tB ?_ | with_reducible refine WkD.w_not ?_
  | with_reducible refine WkD.w_and ?_ | with_reducible refine WkD.w_or ?_ | with_reducible refine WkD.w_yes ?_ | with_reducible refine WkD.w_next ?_ | with_reducible refine WkD.w_seq ?_ | with_reducible refine WkD.w_ret ?_ | with_reducible refine WkD.w_retN ?_
  | with_reducible refine WkD.w_drop ?_ | with_reducible refine WkD.w_ifS ?_ | with_reducible refine WkD.w_asg ?_ | with_reducible refine WkD.w_sl ?_ | with_reducible refine WkD.w_po0 ?_ | with_reducible refine WkD.w_po1 ?_ | with_reducible refine WkD.e_si ?_ | with_reducible refine WkD.l_A ?_ | with_reducible refine WkD.l_L ?_ | with_reducible refine WkD.w_cont ?_ | with_reducible refine WkD.w_break ?_ | with_reducible refine WkD.w_gt2 ?_ | with_reducible refine WkD.w_gt3 ?_ | with_reducible refine WkD.w_gcons ?_ | with_reducible refine WkD.w_gnil ?_ | with_reducible refine WkD.w_name ?_ | with_reducible refine WkD.w_par ?_
  | with_reducible refine WkD.r_I0i ?_ | with_reducible refine WkD.r_I0b ?_ | with_reducible refine WkD.u_U ?_ | with_reducible refine WkD.r_eqI ?_ | with_reducible refine WkD.r_neI ?_ | with_reducible refine WkD.r_eqS ?_ | with_reducible refine WkD.r_eqB ?_
  | ((with_reducible refine' WkD.r_ix ?hi ?_); (case hi => exact rfl)) | ((with_reducible refine' WkD.r_ixl ?hi ?_); (case hi => exact rfl))
  | ((with_reducible refine' WkD.r_ixT ?hi ?_); (case hi => exact rfl)) | ((with_reducible refine' WkD.r_ixL ?hi ?_); (case hi => exact rfl))
  | with_reducible refine WkD.c_gcd ?_ | with_reducible refine WkD.c_abs ?_ | with_reducible refine WkD.c_int ?_ | with_reducible refine WkD.e_bool ?_ | with_reducible refine WkD.w_tup ?_ | with_reducible refine WkD.w_lst ?_ | with_reducible refine WkD.e_ab ?_ | with_reducible refine WkD.d0 ?_ | with_reducible refine WkD.d1 ?_ | with_reducible refine WkD.d2 ?_ | with_reducible refine WkD.d3 ?_ | with_reducible refine WkD.d4 ?_))

namespace K35
open PySem PySem.Spec PyProof.Rows L2 WkH WkE WkQ WkS WkF WkD WkN WkC
section
variable {P : Program} {w : World} {K : PySem.W.Frag} {mg : Str → Option Value} {base : Heap}
abbrev spWithout : Sp := spF K encFew (fun q => FewOk q ∧ q.k ≤ 12 ∧ q.m = q.x) fun q => frD (K35M.N q.b q.c q.m q.k)
theorem scL_without : FnScope ["one", "cost", "mark", "count", "value", "turn", "worth", "chance"] ["one", "cost", "mark", "count"] d_law_without.sco := ⟨rfl, rfl, rfl, by decide +kernel, rfl, by decide +kernel, by decide +kernel⟩
theorem ok_without {fd : FuncData} (F : Stands K d_law_without fd) (T : Bg K mg) (Fm : Fn P w K mg base CX0 2 "_law_times" ["one", "other"] (spMultiply (K := K))) (Fg : Fn P w K mg base CX0 2 "_law_more" ["one", "other"] (spMx (K := K)))
    (Fu : Fn P w K mg base CX0 2 "_law_minus" ["one", "other"] (spSubtract (K := K))) (Fs : Fn P w K mg base CX0 3 "_law_sum" ["items"] (spSum (K := K))) : FnOk P w K mg base CX0 4 d_law_without.adr fd ["one", "cost", "mark", "count"] (spWithout (K := K)) := by
  refine FunD.ok F scL_without (fun vs H Q E h => len_F h fun _ => rfl) (fun cdv A outer s H vs Q E hr h => ⟨_, PSs.nox (pss_cons (ps_set (i := 4) scL_without.nd rfl (by first | exact Or.inl rfl | exact Or.inr rfl) (pv 2))
  (pss_cons (ps_for PassesOwn.never rfl (pi_range1 rfl T.range (pa_cons (pv 3) pa_nil)) (pg_name (i := 5) scL_without.nd rfl (by first | exact Or.inl rfl | exact Or.inr rfl)) (pss_one (ps_set (i := 4) scL_without.nd rfl (by first | exact Or.inl rfl | exact Or.inr rfl) (pe_fn Fg hr rfl (pa_cons (pv 2) (pa_cons (pe_fn Fu hr rfl (pa_cons (pe_fn Fs hr rfl (pa_cons (pe_lc (own := [("worth", 6), ("chance", 7)]) (g := (gTup K 2 (gCons (gName 6) (gCons (gName 7) gNil)))) rfl scL_without.nd (pi_tup (pv 0)) (blkOk_by (own := [("worth", 6), ("chance", 7)]) (N := ["one", "cost", "mark", "count", "value", "turn", "worth", "chance"]) (sc := d_law_without.sco) (by decide +kernel)) (fun _ _ _ _ _ => (pg_tup rfl (pgs_cons (pg_name (i := 6) scL_without.nd rfl (by first | exact Or.inl rfl | exact Or.inr rfl)) (pgs_cons (pg_name (i := 7) scL_without.nd rfl (by first | exact Or.inl rfl | exact Or.inr rfl)) pgs_nil)))) (fun _ _ _ _ _ => pts_nil) (fun _ _ _ _ _ => (pe_fn Fm hr rfl (pa_cons (pv 7) (pa_cons (pe_fn Fg hr rfl (pa_cons (pv 6) (pa_cons (pv 4) pa_nil))) pa_nil))))) pa_nil)) (pa_cons (pv 1) pa_nil))) pa_nil))))))
  (pss_one (ps_ret (pv 4))))), ?_⟩)
  refine body_F h fun F n q hp => ?_
  obtain ⟨A, S, b, c, x, X, U, m, k, l⟩ := q
  obtain ⟨⟨B, hc, hU, inU, up, hm⟩, hk12, hmx⟩ := hp
  have B : Base A S b c x X := B
  have hc : Bits 100 c := hc
  have hk12 : k ≤ 12 := hk12
  obtain rfl : m = x := hmx
  have l2 : b.length ≤ 32 := B.z.l
  have X2 : X < 2 ^ 2000 := Nat.lt_trans B.hX (by decide +kernel)
  have b4 : ∀ {y : Rat}, In X (2 ^ 200) y → Bits 4000 y := fun h => in4 h X2 (by decide +kernel)
  have mX : In X (2 ^ 200) m := inU m hm
  try dsimp only [cxOf, Cx.nox, Cx.wish, encFew]
  walk_at "gd"
  refine w_forR1 ?_
  walk_at "gd"
  refine ⟨_, rfl, by omega, by omega, ?_⟩
  rw [Int.toNat_natCast]
  refine ⟨fun i ρ μ => μ = n ∧ ∃ e f g, ρ = [.dat (boxD b), .dat (frD c), .dat (frD m), .dat (.int k), .dat (frD (K35M.N b c m i)), e, f, g], ⟨rfl, _, _, _, rfl⟩, fun i d ρ μ hi hI => ?_, fun ρ μ hI => ?_⟩
  · obtain ⟨rfl, e, f, g, rfl⟩ := hI
    have li : i < k := by
      have := (List.getElem?_eq_some_iff.mp hi).1
      rwa [intsD_length] at this
    have e1' : X * S ^ i < 2 ^ 1900 := B.small (by omega)
    have e1 : X * S ^ i < 2 ^ 2000 := Nat.lt_trans e1' (by decide +kernel)
    have e2 : 2 ^ (200 + 6 * i) ≤ 2 ^ 1500 := Nat.pow_le_pow_right (by decide) (by omega)
    have hN := B.N (i := i)
    have hV : ∀ q ∈ b, In (X * S ^ i) (2 ^ (200 + 6 * i)) (K35M.mx (K35M.N b c m i) q.1) := fun q hq => in_mx hN (B.worth hq)
    walk_at "gd"
    refine w_lcT ?_ (sets_two (by decide) (by decide))
    walk_at "gd"
    refine ⟨_, rfl, by rw [List.length_map]; omega, made_map (xs := b) (enc := rowD) (out := fun q => frD (q.2 * K35M.mx (K35M.N b c m i) q.1)) (fun D ys j q hq => ?_) ?_⟩
    · have hq' := List.mem_of_getElem? hq
      walk_at "gd"
      refine c_fn (enc := twoR) (q.1, K35M.N b c m i) ⟨b4 (y := q.1) (B.worth0 hq'), in4 hN e1 e2⟩ ?_
      rw [K35M.mx_comm]
      walk_at "gd"
      refine c_fn (enc := twoR) (q.2, K35M.mx (K35M.N b c m i) q.1) ⟨(B.z.c4 hq').mono (by decide), in4 (hV q hq') e1 e2⟩ ?_
      exact ⟨rfl, rfl⟩
    walk_at "gd"
    have hs := B.z.means (g := fun w => K35M.mx (K35M.N b c m i) w) e1' e2 (B.pos i) hV
    refine c_fnE (enc := listR) (b.map fun q => q.2 * K35M.mx (K35M.N b c m i) q.1) (by rw [listR, List.map_map]; rfl) hs.1 ?_
    rw [sum_mean _ (fun w => K35M.mx (K35M.N b c m i) w) fun _ => rfl]
    have st := B.step (f := fun w => K35M.mx (K35M.N b c m i) w) hV (by omega)
    have e3 : S * (X * S ^ i) < 2 ^ 2000 := Nat.lt_of_le_of_lt (Nat.mul_le_mul (Nat.le_of_lt B.z.hS) (Nat.le_of_lt e1')) (by decide +kernel)
    have e4 : 32 * 2 ^ (200 + 6 * i) ≤ 2 ^ 1500 := Nat.le_trans (Nat.mul_le_mul_left 32 (Nat.pow_le_pow_right (by decide) (show 200 + 6 * i ≤ 272 by omega))) (by decide +kernel)
    walk_at "gd"
    refine c_fn (enc := twoR) (_, c) ⟨in4 st.1 e3 e4, hc.mono (by decide)⟩ ?_
    walk_at "gd"
    refine c_fn (enc := twoR) (m, K35M.mean (fun w => K35M.mx (K35M.N b c m i) w) b - c) ⟨b4 mX, in4 st.2 (Nat.lt_trans (B.small (by omega)) (by decide +kernel)) (Nat.pow_le_pow_right (by decide) (by omega))⟩ ?_
    walk_at "gd"
    exact ⟨rfl, _, _, _, rfl⟩
  · obtain ⟨rfl, e, f, g, rfl⟩ := hI
    rw [intsD_length]
    walk_at "gd"
    exact ⟨rfl, rfl⟩
/-! ### the law's bar -/
theorem barAt_is {b : List (Rat × Rat)} {c : Rat} : ∀ k, ∃ j, j ≤ k ∧ K35M.barAt b c k = K35M.L b c j
  | 0 => ⟨0, Nat.le_refl _, rfl⟩
  | k + 1 => by
    unfold K35M.barAt
    split
    · obtain ⟨j, h, e⟩ := barAt_is (b := b) (c := c) k
      exact ⟨j, by omega, e⟩
    · exact ⟨k + 1, Nat.le_refl _, rfl⟩
abbrev spLawBar : Sp := spF K boxR (fun q => IsBox q.1 ∧ (∃ A S, SzB A S q.1) ∧ Bits 400 q.2 ∧ 0 < q.2) fun q => frD (K35M.barR q.1 q.2)
theorem scL_bar : FnScope ["one", "cost", "k", "chance", "limit", "worth", "part"] ["one", "cost"] d_law_bar.sco := ⟨rfl, rfl, rfl, by decide +kernel, rfl, by decide +kernel, by decide +kernel⟩
theorem ok_lbar {fd : FuncData} (F : Stands K d_law_bar fd) (T : Bg K mg) (Fs : Fn P w K mg base CX0 3 "_law_sum" ["items"] (spSum (K := K))) (Fm : Fn P w K mg base CX0 2 "_law_times" ["one", "other"] (spMultiply (K := K))) (Fd : Fn P w K mg base CX0 2 "_law_over" ["one", "other"] (spDivide (K := K)))
    (Fu : Fn P w K mg base CX0 2 "_law_minus" ["one", "other"] (spSubtract (K := K))) (Fy : Fn P w K mg base CX0 4 "_law_beside" ["form", "mark"] (spDrawn (K := K))) : FnOk P w K mg base CX0 5 d_law_bar.adr fd ["one", "cost"] (spLawBar (K := K)) := by
  refine FunD.ok F scL_bar (fun vs H Q E h => len_F h fun _ => rfl) (fun cdv A outer s H vs Q E hr h => ⟨_, PSs.nox (pss_cons (ps_for PassesOwn.never rfl (pi_range3 rfl T.range (pa_cons (pe_op op_sub (pe_callB call_len_seq rfl T.len WkB.b_len (pa_cons (pv 0) pa_nil)) pe_int) (pa_cons (pe_un un_neg pe_int) (pa_cons (pe_un un_neg pe_int) pa_nil)))) (pg_name (i := 2) scL_bar.nd rfl (by first | exact Or.inl rfl | exact Or.inr rfl)) (pss_cons (ps_set (i := 3) scL_bar.nd rfl (by first | exact Or.inl rfl | exact Or.inr rfl) (pe_fn Fs hr rfl (pa_cons (pe_lc (own := [("worth", 5), ("part", 6)]) (g := (gTup K 2 (gCons (gName 5) (gCons (gName 6) gNil)))) rfl scL_bar.nd (pi_tup (pe_slice sl_tupA (pv 0) (po_some (pv 2)) po_none)) (blkOk_by (own := [("worth", 5), ("part", 6)]) (N := ["one", "cost", "k", "chance", "limit", "worth", "part"]) (sc := d_law_bar.sco) (by decide +kernel)) (fun _ _ _ _ _ => (pg_tup rfl (pgs_cons (pg_name (i := 5) scL_bar.nd rfl (by first | exact Or.inl rfl | exact Or.inr rfl)) (pgs_cons (pg_name (i := 6) scL_bar.nd rfl (by first | exact Or.inl rfl | exact Or.inr rfl)) pgs_nil)))) (fun _ _ _ _ _ => pts_nil) (fun _ _ _ _ _ => (pv 6))) pa_nil)))
  (pss_cons (ps_set (i := 4) scL_bar.nd rfl (by first | exact Or.inl rfl | exact Or.inr rfl) (pe_fn Fd hr rfl (pa_cons (pe_fn Fu hr rfl (pa_cons (pe_fn Fs hr rfl (pa_cons (pe_lc (own := [("worth", 5), ("part", 6)]) (g := (gTup K 2 (gCons (gName 5) (gCons (gName 6) gNil)))) rfl scL_bar.nd (pi_tup (pe_slice sl_tupA (pv 0) (po_some (pv 2)) po_none)) (blkOk_by (own := [("worth", 5), ("part", 6)]) (N := ["one", "cost", "k", "chance", "limit", "worth", "part"]) (sc := d_law_bar.sco) (by decide +kernel)) (fun _ _ _ _ _ => (pg_tup rfl (pgs_cons (pg_name (i := 5) scL_bar.nd rfl (by first | exact Or.inl rfl | exact Or.inr rfl)) (pgs_cons (pg_name (i := 6) scL_bar.nd rfl (by first | exact Or.inl rfl | exact Or.inr rfl)) pgs_nil)))) (fun _ _ _ _ _ => pts_nil) (fun _ _ _ _ _ => (pe_fn Fm hr rfl (pa_cons (pv 5) (pa_cons (pv 6) pa_nil))))) pa_nil)) (pa_cons (pv 1) pa_nil))) (pa_cons (pv 3) pa_nil))))
  (pss_one (ps_if (pt_cmpR (op_eqD (by have := hr.un; dsimp only [cxOf, Cx.nox]; omega)) (pe_fn Fu hr rfl (pa_cons (pe_fn Fy hr rfl (pa_cons (pv 0) (pa_cons (pv 4) pa_nil))) (pa_cons (pv 1) pa_nil))) (pv 4) (nomark _)) (pss_one (ps_ret (pv 4))) pss_nil)))))
  (pss_one (ps_ret pe_non))), ?_⟩)
  refine body_F h fun F n q hp => ?_
  obtain ⟨b, c⟩ := q
  obtain ⟨hb, ⟨A, S, z⟩, hc, hc0⟩ := hp
  have hb : IsBox b := hb
  have z : SzB A S b := z
  have hc : Bits 400 c := hc
  have hc0 : 0 < c := hc0
  have l1 := hb.l1
  have l2 := hb.l2
  have gbar := K35M.barR_gain hb.pos hb.one hb.up hc0 l1
  try dsimp only [cxOf, Cx.nox, Cx.wish, boxR]
  walk_at "gd"
  refine w_forDn ?_
  walk_at "gd"
  refine c_len (.inr rfl) ?_
  walk_at "gd"
  have ek : (((b.map rowD).length : Int) - 1 - -1).toNat = b.length := by
    rw [List.length_map]
    omega
  have lk : ((b.map rowD).length : Int) = (b.length : Int) := by rw [List.length_map]
  refine ⟨_, _, rfl, ⟨by omega, by omega, by decide, by decide⟩, ?_⟩
  rw [ek]
  refine ⟨fun i ρ m => m = n ∧ (∀ j, j < i → K35M.gain b c (K35M.L b c (b.length - 1 - j)) ≠ 0) ∧ ∃ f g h k l, ρ = [.dat (boxD b), .dat (frD c), f, g, h, k, l], ⟨rfl, fun j hj => absurd hj (Nat.not_lt_zero j), _, _, _, _, _, rfl⟩, fun i d ρ m hi hI => ?_, fun ρ m hI => ?_⟩
  · obtain ⟨rfl, hno, f, g, h, k, l, rfl⟩ := hI
    have li : i < b.length := by
      have := (List.getElem?_eq_some_iff.mp hi).1
      rwa [downD_length] at this
    obtain ⟨at_, ha⟩ : ∃ k, k = b.length - 1 - i := ⟨_, rfl⟩
    rw [downD_get li] at hi
    cases hi
    have ev : ((b.map rowD).length : Int) - 1 + (i : Int) * (-1) = (at_ : Int) := by
      rw [List.length_map]
      omega
    rw [ev]
    have lat : at_ < b.length := by omega
    have z' : SzB A S (b.drop at_) := z.sub (fun q hq => List.mem_of_mem_drop hq) (by rw [List.length_drop]; omega)
    have hne : b.drop at_ ≠ [] := by
      intro y
      rw [List.drop_eq_nil_iff] at y
      omega
    have hpd : ∀ q ∈ b.drop at_, 0 < q.2 := fun q hq => hb.pos q (List.mem_of_mem_drop hq)
    obtain ⟨m1, m2, m3⟩ := L_bits z hc hb.pos lat
    walk_at "gd"
    refine w_lcT ?_ (sets_two (by decide) (by decide))
    walk_at "gd"
    rw [cutD_from, ← List.map_drop]
    refine ⟨_, rfl, by rw [List.length_map, List.length_drop]; omega, made_map (xs := b.drop at_) (enc := rowD) (out := fun q => frD q.2) (fun D ys i q hq => ?_) ?_⟩
    · walk_at "gd"
      exact ⟨rfl, rfl⟩
    walk_at "gd"
    refine c_fnE (enc := listR) ((b.drop at_).map (·.2)) (by rw [listR, List.map_map]; rfl) z'.sums.1 ?_
    rw [sum_chance]
    walk_at "gd"
    refine w_lcT ?_ (sets_two (by decide) (by decide))
    walk_at "gd"
    rw [cutD_from, ← List.map_drop]
    refine ⟨_, rfl, by rw [List.length_map, List.length_drop]; omega, made_map (xs := b.drop at_) (enc := rowD) (out := fun q => frD (q.1 * q.2)) (fun D ys i q hq => ?_) ?_⟩
    · have hq' := List.mem_of_getElem? hq
      walk_at "gd"
      refine c_fn (enc := twoR) (q.1, q.2) ⟨(z'.w4 hq').mono (by decide), (z'.c4 hq').mono (by decide)⟩ ?_
      exact ⟨rfl, rfl⟩
    walk_at "gd"
    have hs := z'.means (g := fun w => w) (M := 2 ^ 200) (Nat.lt_trans z.hA (by decide +kernel)) (by decide +kernel) z.pA fun q hq => z'.w q hq
    have ew : (b.drop at_).map (fun q => q.2 * q.1) = (b.drop at_).map fun q => q.1 * q.2 := List.map_congr_left fun q _ => Rat.mul_comm _ _
    rw [ew] at hs
    refine c_fnE (enc := listR) ((b.drop at_).map fun q => q.1 * q.2) (by rw [listR, List.map_map]; rfl) hs.1 ?_
    rw [sum_mean _ (fun w => w) fun _ => Rat.mul_comm _ _]
    walk_at "gd"
    refine c_fn (enc := twoR) (_, c) ⟨m1.mono (by decide), hc.mono (by decide)⟩ ?_
    walk_at "gd"
    refine c_fn (enc := twoR) (_, _) ⟨m2.mono (by decide), z'.sums.2.mono (by decide), chance_num hpd hne⟩ ?_
    have eL : (K35M.mean (fun w => w) (b.drop at_) - c) / K35M.chance (b.drop at_) = K35M.L b c at_ := rfl
    walk_at "gd"
    rw [eL]
    have hd := m3.d
    have hdp := (K35M.L b c at_).den_pos
    have inL : In (A * (K35M.L b c at_).den) (2 ^ 1300) (K35M.L b c at_) := (in_of_bits m3).mono (Nat.mul_pos z.pA hdp) (Nat.dvd_mul_left _ _) (Nat.le_refl _)
    have sN : A * (K35M.L b c at_).den < 2 ^ 1900 := Nat.lt_of_le_of_lt (Nat.mul_le_mul (Nat.le_of_lt z.hA) (Nat.le_of_lt hd)) (by decide +kernel)
    have inW : ∀ r ∈ b, In (A * (K35M.L b c at_).den) (2 ^ 1300) r.1 := fun r hr => (z.w r hr).mono (Nat.mul_pos z.pA hdp) (Nat.dvd_mul_right _ _) (by decide +kernel)
    refine c_fn (enc := boxR) (b, K35M.L b c at_) ⟨A, S, z, _, _, Nat.mul_pos z.pA hdp, sN, by decide +kernel, inW, inL⟩ ?_
    have mb := (z.means (g := fun w => K35M.mx (K35M.L b c at_) w) sN (M := 2 ^ 1300) (by decide +kernel) (Nat.mul_pos z.pA hdp) fun q hq => in_mx inL (inW q hq)).2
    have mb4 : Bits 4000 (K35M.mean (fun w => K35M.mx (K35M.L b c at_) w) b) := by
      have e1 : S * (A * (K35M.L b c at_).den) < 2 ^ 40 * 2 ^ 1900 := Nat.lt_of_le_of_lt (Nat.mul_le_mul_right _ (Nat.le_of_lt z.hS)) (Nat.mul_lt_mul_of_pos_left sN (by decide))
      refine mb.bits (Nat.lt_trans e1 (by decide +kernel)) ?_
      have e2 : b.length * 2 ^ 1300 ≤ 32 * 2 ^ 1300 := Nat.mul_le_mul_right _ l2
      exact Nat.lt_of_le_of_lt (Nat.mul_le_mul e2 (Nat.le_of_lt e1)) (by decide +kernel)
    walk_at "gd"
    refine c_fn (enc := twoR) (_, c) ⟨mb4, hc.mono (by decide)⟩ ?_
    walk_at "gd"
    refine r_eqD rfl rfl rfl rfl ?_
    rw [eqv_fr]
    walk_at "gd"
    refine ⟨fun h0 => ?_, fun h0 => ?_⟩
    · have h0 : K35M.mean (fun w => K35M.mx (K35M.L b c at_) w) b - c = K35M.L b c at_ := of_decide_eq_true h0
      have g0 : K35M.gain b c (K35M.L b c at_) = 0 := by
        show K35M.mean (fun w => K35M.mx (K35M.L b c at_) w) b - c - K35M.L b c at_ = 0
        rw [h0]
        grind
      have e := K35M.bar_one hb.pos hb.one hc0 g0 gbar
      walk_at "gd"
      exact ⟨rfl, by rw [← e]⟩
    · have h0 : ¬ K35M.mean (fun w => K35M.mx (K35M.L b c at_) w) b - c = K35M.L b c at_ := of_decide_eq_false h0
      walk_at "gd"
      refine ⟨rfl, fun j hj => ?_, _, _, _, _, _, rfl⟩
      rcases Nat.lt_or_ge j i with y | y
      · exact hno j y
      · have : j = i := by omega
        subst this
        intro g0
        rw [← ha] at g0
        refine h0 ?_
        have g1 : K35M.mean (fun w => K35M.mx (K35M.L b c at_) w) b - c - K35M.L b c at_ = 0 := g0
        grind
  · obtain ⟨rfl, hno, _⟩ := hI
    rw [downD_length] at hno
    obtain ⟨j, hj, e⟩ := barAt_is (b := b) (c := c) (b.length - 1)
    have := hno (b.length - 1 - j) (by omega)
    have ej : b.length - 1 - (b.length - 1 - j) = j := by omega
    rw [ej, ← e] at this
    exact absurd gbar this
end
end K35
/-! More over data: is, texts cut and read, isinstance of two classes, calls of either kind. -/
namespace WkD
open PySem PySem.Spec PyProof.Rows L2 WkH WkQ WkS WkF
/-- a call that is never reached -/
theorem call_no {X : Cx} {f : Value} : CallR X f (fun _ _ _ => False) := fun pins s σ H xs us Q I r h => h.elim
section
variable {S : Type} {F : Eff S} {K : PySem.W.Frag} {ρ : List Sl} {n : S} {Φ : Sl → S → Prop} {te : TE} {r r' : List V → Hp → VK → Prop} {as : List Sl}
theorem c_l (h : wC F K r as n Φ) : wC F K (fun xs H Q => r xs H Q ∨ r' xs H Q) as n Φ := fun vs H Q j ra k => .inl (h vs H Q j ra k)
theorem c_r (h : wC F K r' as n Φ) : wC F K (fun xs H Q => r xs H Q ∨ r' xs H Q) as n Φ := fun vs H Q j ra k => .inr (h vs H Q j ra k)
theorem c_lenS {z : Str} (hz : z.length ≤ 100000) (q : Φ (.dat (.int z.length)) n) : wC F K (fun xs H Q => ∃ z, xs = [V.str z] ∧ z.length ≤ sizeLine ∧ Q (V.int z.length) H) [.dat (.str z)] n Φ := fun vs H Q jn ra k => by
  cases ra with
  | cons r1 ra =>
    cases ra
    cases r1
    exact ⟨z, rfl, sz _ hz, k _ H _ n q jn (Same.refl _) (.int _)⟩
theorem r_ixS {z : Str} {i : Int} {c : Nat} (hz : z.length ≤ 100000) (h : atI z.cps.toList i = some c) (q : Φ (.dat (.str ⟨#[c]⟩)) n) : wR F K (rIx K) (.dat (.str z)) (.dat (.int i)) n Φ := fun x y H Q jn rx ry k => by
  cases rx
  cases ry
  exact .inr (.inr ⟨z, i, c, rfl, rfl, sz _ hz, h, k _ H _ n q jn (Same.refl _) (.str _)⟩)
theorem l_S {z : Str} {l u : Option Int} (hz : z.length ≤ 100000) (q : Φ (.dat (.str (cutS z l u))) n) : wL F K rSlS (.dat (.str z)) l u n Φ := fun x H Q jn rx k => by
  cases rx
  exact ⟨z, rfl, sz _ hz, k _ H _ n q jn (Same.refl _) (.str _)⟩
theorem r_neS {x y : Str} (q : Φ (.dat (.bool (!decide (x = y)))) n) : wR F K rNe (.dat (.str x)) (.dat (.str y)) n Φ := fun x' y' H Q jn rx ry k => by
  cases rx
  cases ry
  refine ⟨rfl, ?_⟩
  have e : decide (V.str x = V.str y) = decide (x = y) := decide_eq_decide.mpr ⟨fun z => by injection z, fun z => by rw [z]⟩
  rw [e]
  exact k _ H _ n q jn (Same.refl _) (.bl _)
def isNon : PyData → Bool
  | .none => true
  | _ => false
theorem r_isN {d : PyData} (q : Φ (.dat (.bool (isNon d))) n) : wR F K (fun x y H Q => y = V.non ∧ Q (V.bl (decide (x = V.non))) H) (.dat d) (.dat .none) n Φ := fun x y H Q jn rx ry k => by
  cases ry
  refine ⟨rfl, ?_⟩
  have e : decide (x = V.non) = isNon d := by cases rx <;> rfl
  rw [e]
  exact k _ H _ n q jn (Same.refl _) (.bl _)
theorem r_isB {x y : Bool} (q : Φ (.dat (.bool (decide (x = y)))) n) : wR F K (fun x y H Q => ∃ a b, x = V.bl a ∧ y = V.bl b ∧ Q (V.bl (decide (a = b))) H) (.dat (.bool x)) (.dat (.bool y)) n Φ := fun x' y' H Q jn rx ry k => by
  cases rx
  cases ry
  exact ⟨x, y, rfl, rfl, k _ H _ n q jn (Same.refl _) (.bl _)⟩
theorem r_neB {x y : Bool} (q : Φ (.dat (.bool (!decide (x = y)))) n) : wR F K rNe (.dat (.bool x)) (.dat (.bool y)) n Φ := fun x' y' H Q jn rx ry k => by
  cases rx
  cases ry
  refine ⟨rfl, ?_⟩
  have e : decide (V.bl x = V.bl y) = decide (x = y) := decide_eq_decide.mpr ⟨fun z => by injection z, fun z => by rw [z]⟩
  rw [e]
  exact k _ H _ n q jn (Same.refl _) (.bl _)
/-- isinstance(e, (a, b)) -/
theorem w_isi2 {a b : String} (ha : a ∈ asked) (hb : b ∈ asked) (h : wE F K te ρ n fun x m => ∃ d, x = .dat d ∧ Φ (.dat (.bool (isA d a || isA d b))) m) : wE F K (tCB (rIsiT K) (tCons te (tCons (tTup (tCons (tC (.ty a)) (tCons (tC (.ty b)) tNil))) tNil))) ρ n Φ := fun σ H Q j rp q =>
  h σ H _ j rp fun x H1 r m ⟨d, e, p⟩ j1 s1 rx => by
    subst e
    refine ⟨sz 2, fun tp hn => ?_⟩
    have s2 := same_upd (o := .tup [.ty a, .ty b]) hn
    refine ⟨x, tp, [.ty a, .ty b], .type (tyName d), [.type a, .type b], isA d a || isA d b, rfl, upd_same, .cons (.ty a) (.cons (.ty b) .nil), tyX_of (F := F) (H := upd H1 tp _) (Dq.mono (Eff.mono s2) rx), ?_, ?_⟩
    · have k1 := isA_kit (K := K) d ha
      have k2 := isA_kit (K := K) d hb
      unfold PySem.W.kitAny
      rw [k1]
      cases isA d a with
      | true => rfl
      | false =>
        unfold PySem.W.kitAny
        simp only [k2]
        cases isA d b <;> rfl
    · exact q _ _ _ m p (Eff.keep s2 j1) (s1.trans (Eff.mono s2)) (.bl _)
end
/-! ### data of one kind all through -/
mutual
def okS : PyData → Bool
  | .list ds => decide (ds.length ≤ 1000) && okSs ds
  | .tuple ds => decide (ds.length ≤ 1000) && okSs ds
  | .str z => decide (z.length ≤ 1000)
  | .dict _ => false
  | _ => true
def okSs : List PyData → Bool
  | [] => true
  | d :: ds => okS d && okSs ds
end
mutual
def deep : PyData → Nat
  | .list ds => deeps ds + 1
  | .tuple ds => deeps ds + 1
  | _ => 0
def deeps : List PyData → Nat
  | [] => 0
  | d :: ds => max (deep d) (deeps ds)
end
theorem okSs_mem : ∀ {ds : List PyData} {d : PyData}, okSs ds = true → d ∈ ds → okS d = true
  | e :: ds, d, h, m => by
    have h' : okS e = true ∧ okSs ds = true := by simpa [okSs] using h
    rcases List.mem_cons.mp m with rfl | m
    · exact h'.1
    · exact okSs_mem h'.2 m
theorem deeps_mem : ∀ {ds : List PyData} {d : PyData}, d ∈ ds → deep d ≤ deeps ds
  | e :: ds, d, m => by
    unfold deeps
    rcases List.mem_cons.mp m with rfl | m
    · exact Nat.le_max_left _ _
    · exact Nat.le_trans (deeps_mem m) (Nat.le_max_right _ _)
theorem cutS_one {z : Str} {k : Nat} {c : Nat} (h : z.cps.toList[k]? = some c) : cutS z (some (k : Int)) (some ((k : Int) + 1)) = ⟨#[c]⟩ := by
  have lk := (List.getElem?_eq_some_iff.mp h).1
  have el : z.length = z.cps.toList.length := (Array.length_toList).symm
  unfold cutS
  have e1 : ((k : Int) + 1) = ((k + 1 : Nat) : Int) := by omega
  rw [e1, HT.sIx_nat, HT.sIx_nat, el, Nat.min_eq_left (by omega), Nat.min_eq_left (by omega)]
  have e2 : k + 1 - k = 1 := by omega
  rw [e2, List.drop_eq_getElem_cons lk, List.take_succ_cons, List.take_zero]
  have e3 : z.cps.toList[k] = c := by
    rw [List.getElem?_eq_getElem lk] at h
    exact Option.some.inj h
  rw [e3]
end WkD
/-! the steps over data that need no thought -/
local macro_rules | `(tactic| walk_at "gd") => `(tactic| repeat (first
  | ((with_reducible refine' WkD.w_var ?hv ?hn ?_); (case hv => exact rfl); (case hn => exact (fun z => nomatch z)))
  | with_reducible refine WkD.w_int ?_ | with_reducible refine WkD.w_str ?_ | with_reducible refine WkD.w_non ?_ | with_reducible refine WkD.w_bl ?_
  | with_reducible refine WkD.w_chain ?_ | with_reducible refine WkD.w_tyc ?_ | ((with_reducible refine' WkD.c_isi ?hu ?_); (case hu => decide))
  | with_reducible refine WkD.w_op ?_ | with_reducible refine WkD.w_un ?_ | with_reducible refine WkD.w_nil ?_ | with_reducible refine WkD.w_cons ?_ | ((with_reducible refine' WkD.w_isi2 ?ha ?hb ?_); (case ha => decide); (case hb => decide)) | with_reducible refine WkD.w_CB ?_ | with_reducible refine WkD.w_call ?_
  | with_reducible refine WkD.w_if ?_ | with_reducible refine WkD.w_andV ?_ | with_reducible refine WkD.w_orV ?_ | with_reducible refine WkD.w_notV ?_ | with_reducible refine WkD.w_test ?_ | with_reducible refine WkD.w_tB ?_ | with_reducible refine WkD.w_not ?_
  | with_reducible refine WkD.w_and ?_ | with_reducible refine WkD.w_or ?_ | with_reducible refine WkD.w_yes ?_ | with_reducible refine WkD.w_next ?_ | with_reducible refine WkD.w_seq ?_ | with_reducible refine WkD.w_ret ?_ | with_reducible refine WkD.w_retN ?_
  | with_reducible refine WkD.w_drop ?_ | with_reducible refine WkD.w_ifS ?_ | with_reducible refine WkD.w_asg ?_ | with_reducible refine WkD.w_sl ?_ | with_reducible refine WkD.w_po0 ?_ | with_reducible refine WkD.w_po1 ?_ | with_reducible refine WkD.e_si ?_ | with_reducible refine WkD.l_A ?_ | with_reducible refine WkD.l_L ?_ | with_reducible refine WkD.w_cont ?_ | with_reducible refine WkD.w_break ?_ | with_reducible refine WkD.w_gt2 ?_ | with_reducible refine WkD.w_gt3 ?_ | with_reducible refine WkD.w_gcons ?_ | with_reducible refine WkD.w_gnil ?_ | with_reducible refine WkD.w_name ?_ | with_reducible refine WkD.w_par ?_
  | with_reducible refine WkD.r_I0i ?_ | with_reducible refine WkD.r_I0b ?_ | with_reducible refine WkD.u_U ?_ | with_reducible refine WkD.r_eqI ?_ | with_reducible refine WkD.r_neI ?_ | with_reducible refine WkD.r_eqS ?_ | with_reducible refine WkD.r_eqB ?_
  | ((with_reducible refine' WkD.r_ix ?hi ?_); (case hi => exact rfl)) | ((with_reducible refine' WkD.r_ixl ?hi ?_); (case hi => exact rfl))
  | ((with_reducible refine' WkD.r_ixT ?hi ?_); (case hi => exact rfl)) | ((with_reducible refine' WkD.r_ixL ?hi ?_); (case hi => exact rfl))
  | with_reducible refine WkD.c_gcd ?_ | with_reducible refine WkD.c_abs ?_ | with_reducible refine WkD.c_int ?_ | with_reducible refine WkD.e_bool ?_ | with_reducible refine WkD.w_tup ?_ | with_reducible refine WkD.w_lst ?_ | with_reducible refine WkD.e_ab ?_ | with_reducible refine WkD.d0 ?_ | with_reducible refine WkD.d1 ?_ | with_reducible refine WkD.d2 ?_ | with_reducible refine WkD.d3 ?_ | with_reducible refine WkD.d4 ?_))

namespace K35
open PySem PySem.Spec PyProof.Rows L2 WkH WkE WkQ WkS WkF WkD WkN WkC
theorem made_rangeIf {S : Type} {F : Eff S} {K : PySem.W.Frag} {ρ : List Sl} {n : S} {Φ : Sl → S → Prop} {te : TE} {g : TG} {tt : TT} {vs : List Nat} {k : Nat} {keep : Nat → Bool} {out : Nat → PyData}
    (h : ∀ (D : Addr) (ys : List V) (x : Nat), x < k → wG (F.hide D ys) K g (.dat (.int (0 + (x : Int)))) (wipeR ρ vs) n fun ρ2 m => wT (F.hide D ys) K tt ρ2 m fun b k2 => b = keep x ∧ (keep x = true → wE (F.hide D ys) K te ρ2 k2 fun r k3 => r = .dat (out x) ∧ k3 = n) ∧ (keep x = false → k2 = n))
    (q : Φ (.dat (.list (((List.range k).filter keep).map out))) n) : Made F K (intsD 0 k) g tt te vs ρ n Φ :=
  made_if (xs := List.range k) (enc := fun (i : Nat) => .int (0 + (i : Int))) (fun D ys i x hx => h D ys x (by
    obtain ⟨h1, h2⟩ := List.getElem?_eq_some_iff.mp hx
    rw [List.getElem_range] at h2
    rw [List.length_range] at h1
    omega)) q
section
variable {P : Program} {w : World} {K : PySem.W.Frag} {mg : Str → Option Value} {base : Heap}
def twice (d : PyData) : List PyData := [d, d]
abbrev spSame (c : Nat) : Sp := spF K twice (fun d => okS d = true ∧ deep d < c) fun _ => .bool true
theorem filter_no {k : Nat} : (List.range k).filter (fun _ => false) = [] := List.filter_eq_nil_iff.mpr fun _ _ => by simp
theorem scL_same : FnScope ["given", "due", "k"] ["given", "due"] d_law_same.sco := ⟨rfl, rfl, rfl, by decide +kernel, rfl, by decide +kernel, by decide +kernel⟩
theorem ok_same {fd : FuncData} (F : Stands K d_law_same fd) (g : mg "_law_same" = some (.ref d_law_same.adr)) (bd : Binds K fd ["given", "due"] []) (T : Bg K mg) : ∀ c, FnOk P w K mg base CX0 (c + 1) d_law_same.adr fd ["given", "due"] (spSame (K := K) c)
  | 0 => fn_never fun vs H Q E h => by
    obtain ⟨_, _, _, _, _, _, hp, _⟩ := h
    exact absurd hp.2 (Nat.not_lt_zero _)
  | c + 1 => by
    have Fself : Fn P w K mg base CX0 (c + 1) "_law_same" ["given", "due"] (spSame (K := K) c) := Fn.mk' F g bd (ok_same F g bd T c)
    refine FunD.ok F scL_same (fun vs H Q E h => len_F h fun _ => rfl) (fun cdv A outer s H vs Q E hr h => ⟨_, PSs.nox (pss_cons (ps_if (PW.pt (pw_or (pt_cmpR op_isN (pv 1) pe_non (nomark _)) (pw_or1 (pt_val (pe_callB call_isi rfl T.isinstance WkB.b_isinstance (pa_cons (pv 1) (pa_cons (pe_bltn (v := .ty "bool") rfl T.bool WkB.b_bool rfl) pa_nil))))))) (pss_one (ps_ret (pe_ifExp (pt_cmpR op_isN (pv 1) pe_non (nomark _)) (pe_cmpR op_isN (pv 0) pe_non (nomark _)) (pe_and (pe_callB call_isi rfl T.isinstance WkB.b_isinstance (pa_cons (pv 0) (pa_cons (pe_bltn (v := .ty "bool") rfl T.bool WkB.b_bool rfl) pa_nil))) (pe_one (pe_cmpR op_eq (pe_cmpR op_is_bl (pv 0) pe_bl (nomark _)) (pe_cmpR op_is_bl (pv 1) pe_bl (nomark _)) (nomark _))))))) pss_nil)
  (pss_cons (ps_if (pt_val (pe_callB call_isi rfl T.isinstance WkB.b_isinstance (pa_cons (pv 1) (pa_cons (pe_bltn (v := .ty "int") rfl T.int WkB.b_int rfl) pa_nil)))) (pss_one (ps_ret (pe_and (pe_callB call_isi rfl T.isinstance WkB.b_isinstance (pa_cons (pv 0) (pa_cons (pe_bltn (v := .ty "int") rfl T.int WkB.b_int rfl) pa_nil))) (pe_and (pe_not (pe_callB call_isi rfl T.isinstance WkB.b_isinstance (pa_cons (pv 0) (pa_cons (pe_bltn (v := .ty "bool") rfl T.bool WkB.b_bool rfl) pa_nil)))) (pe_one (pe_cmpR op_eq (pe_op op_sub (pe_callTy call_intI rfl T.int WkB.b_int (pa_cons (pv 0) pa_nil)) (pv 1)) pe_int (nomark _))))))) pss_nil)
  (pss_cons (ps_if (pt_val (pe_callB call_isi rfl T.isinstance WkB.b_isinstance (pa_cons (pv 1) (pa_cons (pe_bltn (v := .ty "str") rfl T.str WkB.b_str rfl) pa_nil)))) (pss_one (ps_ret (pe_and (pe_callB call_isi rfl T.isinstance WkB.b_isinstance (pa_cons (pv 0) (pa_cons (pe_bltn (v := .ty "str") rfl T.str WkB.b_str rfl) pa_nil))) (pe_and (pe_cmpR op_eq (pe_callB (CallR.or call_len_seq call_len_str) rfl T.len WkB.b_len (pa_cons (pv 0) pa_nil)) (pe_callB (CallR.or call_len_seq call_len_str) rfl T.len WkB.b_len (pa_cons (pv 1) pa_nil)) (nomark _)) (pe_one (pe_cmpR (op_eqD (by have := hr.un; dsimp only [cxOf, Cx.nox]; omega)) (pe_lc (own := [("k", 2)]) (g := (gName 2)) rfl scL_same.nd (pi_range1 rfl T.range (pa_cons (pe_callB (CallR.or call_len_seq call_len_str) rfl T.len WkB.b_len (pa_cons (pv 1) pa_nil)) pa_nil)) (blkOk_by (own := [("k", 2)]) (N := ["given", "due", "k"]) (sc := d_law_same.sco) (by decide +kernel)) (fun _ _ _ _ _ => (pg_name (i := 2) scL_same.nd rfl (by first | exact Or.inl rfl | exact Or.inr rfl))) (fun _ _ _ _ _ => pts_one (pt_cmpR op_ne (pe_slice sl_str (pv 0) (po_some (pv 2)) (po_some (pe_op op_add (pv 2) pe_int))) (pe_ix (show IxR _ (rIx K) from ix_seq) (pv 1) (pv 2) (fun _ _ => rfl)) (nomark _))) (fun _ _ _ _ _ => (pv 2))) (pe_lst pa_nil) (nomark _))))))) pss_nil)
  (pss_cons (ps_if (PW.pt (pw_or (pt_cmpR op_ne (pe_callB call_isi rfl T.isinstance WkB.b_isinstance (pa_cons (pv 0) (pa_cons (pe_bltn (v := .ty "list") rfl T.list WkB.b_list rfl) pa_nil))) (pe_callB call_isi rfl T.isinstance WkB.b_isinstance (pa_cons (pv 1) (pa_cons (pe_bltn (v := .ty "list") rfl T.list WkB.b_list rfl) pa_nil))) (nomark _)) (pw_or1 (pt_cmpR op_ne (pe_callB call_isi rfl T.isinstance WkB.b_isinstance (pa_cons (pv 0) (pa_cons (pe_bltn (v := .ty "tuple") rfl T.tuple WkB.b_tuple rfl) pa_nil))) (pe_callB call_isi rfl T.isinstance WkB.b_isinstance (pa_cons (pv 1) (pa_cons (pe_bltn (v := .ty "tuple") rfl T.tuple WkB.b_tuple rfl) pa_nil))) (nomark _))))) (pss_one (ps_ret pe_bl)) pss_nil)
  (pss_cons (ps_if (pt_not (pt_val (pe_callB call_isiT rfl T.isinstance WkB.b_isinstance (pa_cons (pv 1) (pa_cons (pe_tup (pa_cons (pe_bltn (v := .ty "list") rfl T.list WkB.b_list rfl) (pa_cons (pe_bltn (v := .ty "tuple") rfl T.tuple WkB.b_tuple rfl) pa_nil))) pa_nil))))) (pss_one (ps_ret (pe_cmpR op_eq (pe_callB call_no rfl T.repr WkB.b_repr (pa_cons (pv 0) pa_nil)) (pe_callB call_no rfl T.repr WkB.b_repr (pa_cons (pv 1) pa_nil)) (nomark _)))) pss_nil)
  (pss_one (ps_ret (pe_and (pe_cmpR op_eq (pe_callB (CallR.or call_len_seq call_len_str) rfl T.len WkB.b_len (pa_cons (pv 0) pa_nil)) (pe_callB (CallR.or call_len_seq call_len_str) rfl T.len WkB.b_len (pa_cons (pv 1) pa_nil)) (nomark _)) (pe_one (pe_cmpR (op_eqD (by have := hr.un; dsimp only [cxOf, Cx.nox]; omega)) (pe_lc (own := [("k", 2)]) (g := (gName 2)) rfl scL_same.nd (pi_range1 rfl T.range (pa_cons (pe_callB (CallR.or call_len_seq call_len_str) rfl T.len WkB.b_len (pa_cons (pv 1) pa_nil)) pa_nil)) (blkOk_by (own := [("k", 2)]) (N := ["given", "due", "k"]) (sc := d_law_same.sco) (by decide +kernel)) (fun _ _ _ _ _ => (pg_name (i := 2) scL_same.nd rfl (by first | exact Or.inl rfl | exact Or.inr rfl))) (fun _ _ _ _ _ => pts_one (pt_not (pt_val (pe_fn Fself hr rfl (pa_cons (pe_ix (show IxR _ (rIx K) from ix_seq) (pv 0) (pv 2) (fun _ _ => rfl)) (pa_cons (pe_ix (show IxR _ (rIx K) from ix_seq) (pv 1) (pv 2) (fun _ _ => rfl)) pa_nil)) (hj := Nat.le_refl _))))) (fun _ _ _ _ _ => (pv 2))) (pe_lst pa_nil) (nomark _))))))))))), ?_⟩)
    refine body_F h fun F n d hp => ?_
    obtain ⟨ho, hd⟩ := hp
    have ho : okS d = true := ho
    have hd : deep d < c + 1 := hd
    try dsimp only [cxOf, Cx.nox, Cx.wish, twice]
    walk_at "gd"
    refine r_isN ?_
    walk_at "gd"
    refine ⟨fun h0 => ?_, fun h0 => ?_⟩
    · refine ⟨fun _ => ?_, fun z => nomatch z⟩
      walk_at "gd"
      refine r_isN ?_
      walk_at "gd"
      refine ⟨fun _ => ?_, fun z => by rw [h0] at z; cases z⟩
      walk_at "gd"
      refine r_isN ?_
      exact ⟨rfl, by rw [h0]⟩
    walk_at "gd"
    refine ⟨fun h1 => ?_, fun h1 => ?_⟩
    · obtain ⟨b, rfl⟩ : ∃ b, d = .bool b := by
        cases d <;> first | exact ⟨_, rfl⟩ | simp [isA, tyName] at h1
      walk_at "gd"
      refine r_isN ?_
      walk_at "gd"
      refine ⟨fun z => (by cases z), fun _ => ?_⟩
      walk_at "gd"
      refine ⟨fun _ => ?_, fun z => by simp [isA, tyName] at z⟩
      walk_at "gd"
      refine r_isB ?_
      walk_at "gd"
      refine r_isB ?_
      walk_at "gd"
      exact ⟨rfl, by simp⟩
    walk_at "gd"
    refine ⟨fun h2 => ?_, fun h2 => ?_⟩
    · obtain ⟨i, rfl⟩ : ∃ i, d = .int i := by
        cases d <;> first | exact ⟨_, rfl⟩ | simp [isA, tyName] at h1 h2
      walk_at "gd"
      refine ⟨fun _ => ?_, fun z => by simp [isA, tyName] at z⟩
      walk_at "gd"
      refine ⟨fun _ => ?_, fun z => by simp [isA, tyName] at z⟩
      walk_at "gd"
      exact ⟨rfl, by simp⟩
    walk_at "gd"
    refine ⟨fun h3 => ?_, fun h3 => ?_⟩
    · obtain ⟨z, rfl⟩ : ∃ z, d = .str z := by
        cases d <;> first | exact ⟨_, rfl⟩ | simp [isA, tyName] at h3
      have hz : z.length ≤ 1000 := by simpa [okS] using ho
      walk_at "gd"
      refine ⟨fun _ => ?_, fun z => by simp [isA, tyName] at z⟩
      walk_at "gd"
      refine c_r (c_lenS (by omega) ?_)
      walk_at "gd"
      refine c_r (c_lenS (by omega) ?_)
      walk_at "gd"
      refine ⟨fun _ => ?_, fun z => by simp at z⟩
      walk_at "gd"
      refine w_lcR1 ?_ (sets_name (by decide))
      walk_at "gd"
      refine c_r (c_lenS (by omega) ?_)
      walk_at "gd"
      refine ⟨_, rfl, by omega, by omega, by omega, ?_⟩
      rw [Int.toNat_natCast]
      refine made_rangeIf (keep := fun _ => false) (out := fun _ => .none) (fun D ys x hx => ?_) ?_
      · rw [Int.zero_add]
        have lx : x < z.cps.toList.length := by
          have el : z.length = z.cps.toList.length := (Array.length_toList).symm
          omega
        have ec : z.cps.toList[x]? = some z.cps.toList[x] := List.getElem?_eq_getElem lx
        walk_at "gd"
        refine l_S (by omega) ?_
        rw [cutS_one ec]
        walk_at "gd"
        refine r_ixS (by omega) (atI_nat ec) ?_
        refine r_neS ?_
        walk_at "gd"
        exact ⟨by simp, fun z => (nomatch z), fun _ => rfl⟩
      rw [filter_no]
      walk_at "gd"
      refine r_eqD rfl rfl rfl rfl ?_
      exact ⟨rfl, rfl⟩
    walk_at "gd"
    refine r_neB ?_
    walk_at "gd"
    refine ⟨fun z => by simp at z, fun _ => ?_⟩
    walk_at "gd"
    refine r_neB ?_
    walk_at "gd"
    refine ⟨fun z => by simp at z, fun _ => ?_⟩
    walk_at "gd"
    have hL : ∃ ds, (d = .list ds ∨ d = .tuple ds) := by
      cases d <;> first | exact ⟨_, .inl rfl⟩ | exact ⟨_, .inr rfl⟩ | simp [isA, tyName, WkD.isNon, okS] at h0 h1 h2 h3 ho
    obtain ⟨ds, hds⟩ := hL
    have is2 : (isA d "list" || isA d "tuple") = true := by rcases hds with rfl | rfl <;> rfl
    have hl : ds.length ≤ 1000 ∧ okSs ds = true := by rcases hds with rfl | rfl <;> simpa [okS] using ho
    have hdd : deeps ds < c := by rcases hds with rfl | rfl <;> (simp [deep] at hd; omega)
    refine ⟨d, rfl, _, rfl, ?_⟩
    rw [is2]
    refine ⟨fun z => by simp at z, fun _ => ?_⟩
    walk_at "gd"
    refine c_l (c_len hds ?_)
    walk_at "gd"
    refine c_l (c_len hds ?_)
    walk_at "gd"
    refine ⟨fun _ => ?_, fun z => by simp at z⟩
    walk_at "gd"
    refine w_lcR1 ?_ (sets_name (by decide))
    walk_at "gd"
    refine c_l (c_len hds ?_)
    walk_at "gd"
    refine ⟨_, rfl, by omega, by omega, by omega, ?_⟩
    rw [Int.toNat_natCast]
    refine made_rangeIf (keep := fun _ => false) (out := fun _ => .none) (fun D ys x hx => ?_) ?_
    · rw [Int.zero_add]
      have e1 : ds[x]? = some ds[x] := List.getElem?_eq_getElem hx
      have ix : ∀ {S : Type} {F' : Eff S} {n : S} {Φ : Sl → S → Prop}, Φ (.dat ds[x]) n → wR F' K (rIx K) (.dat d) (.dat (.int (x : Int))) n Φ := fun q => by
        rcases hds with rfl | rfl
        · exact r_ixl (atI_nat e1) q
        · exact r_ix (atI_nat e1) q
      walk_at "gd"
      refine ix ?_
      walk_at "gd"
      refine ix ?_
      walk_at "gd"
      refine c_fn (enc := twice) ds[x] ⟨okSs_mem hl.2 (List.getElem_mem hx), Nat.lt_of_le_of_lt (deeps_mem (List.getElem_mem hx)) hdd⟩ ?_
      walk_at "gd"
      exact ⟨rfl, fun z => (nomatch z), fun _ => rfl⟩
    rw [filter_no]
    walk_at "gd"
    refine r_eqD rfl rfl rfl rfl ?_
    exact ⟨rfl, rfl⟩
end
end K35
/-! xs.remove(d) over data; list(e), tuple(e), sum(e), xs * k, d not in xs over data; two cells at once. -/
namespace L2
open PySem PySem.Spec PyProof.Rows
/-- l.remove(y), y among the data ds -/
def rRemD (K : PySem.W.Frag) : V → List V → Hp → VK → Prop := fun x vs H Q => ∃ (l : Addr) (y : V) (d : PyData) (ds : List PyData) (xs : List V) (j : Nat), x = .ref l ∧ vs = [y] ∧ H l = some (.lst xs) ∧ DpAll K H xs ds ∧ Dp K H y d ∧
  SeqAt.shaped (.list ds) = true ∧ SeqAt.shaped d = true ∧ PyData.plainAll ds = true ∧ d.plain = true ∧ SeqAt.dataPlace ds d = some j ∧ Q .non (upd H l (.lst (xs.eraseIdx j)))
theorem mt_removeD {X : Cx} (hu : X.A.units + 65 < cLine) : MtR X "list.remove" (rRemD X.K) := by
  intro pins s σ H x vs v us Q I rx rv h
  obtain ⟨l, y, d, ds, xs, j, rfl, rfl, hH, ha, hy, sl, sd, pl, pd, hj, q⟩ := h
  cases rx
  obtain ⟨u, rfl, ru⟩ := rv.one
  obtain ⟨z, its, n, r, hl, e⟩ := I.lstM hH
  obtain ⟨as, r1⟩ := Dp.readsAll I ds _ its ha r
  obtain ⟨bs, r2⟩ := Dp.reads I d y u hy ru
  have room : X.A.units + 1 + min (PyData.depthAll ds) d.depth < cLine := room_in_shaped sd hu
  refine SeqAt.remove_list_data (vs := its.toArray) ⟨_, e, rfl, n, rfl⟩ (by simpa using r1) r2 pl pd room hj (by rw [List.size_toArray]; omega) ?_
  refine ⟨.non, _, I.lset (t' := s.toks) (its' := its.eraseIdx j) hH e ?_ (r.eraseIdx j) ?_, rfl, q⟩
  · show its.toArray.eraseIdxIfInBounds j = (its.eraseIdx j).toArray
    rw [List.eraseIdxIfInBounds_toArray]
  · have := len_erase xs j
    omega
end L2
namespace WkD
open PySem PySem.Spec PyProof.Rows L2 WkH WkQ WkS WkF
section
variable {S : Type} {F : Eff S} {K : PySem.W.Frag} {ρ : List Sl} {n : S} {Φ : Sl → S → Prop} {P : Po S} {te : TE} {t : TS} {i k : Nat} {ds es : List PyData} {d e : PyData}
theorem dpAll_sub {H : Hp} {vs : List V} {ds : List PyData} (h : DqAll K (F.st H) vs ds) (hd : PyData.hasDictAll ds = false) : DpAll K H vs ds := dpAll_of (h.mono Eff.sub) hd
theorem noDict_fr : ∀ rs : List Rat, PyData.hasDictAll (rs.map frD) = false
  | [] => rfl
  | r :: rs => by
    have := noDict_fr rs
    simp [PyData.hasDictAll, PyData.hasDict, frD, this]
theorem plain_fr : ∀ rs : List Rat, PyData.plainAll (rs.map frD) = true
  | [] => rfl
  | r :: rs => by
    have := plain_fr rs
    simp [PyData.plainAll, PyData.plain, frD, this]
theorem lay_fr : ∀ rs : List Rat, PyData.canLayAll0 (rs.map frD) = true ∧ PyData.depthAll (rs.map frD) ≤ 1
  | [] => ⟨by simp [PyData.canLayAll0], by simp [PyData.depthAll]⟩
  | r :: rs => by
    obtain ⟨h1, h2⟩ := lay_fr rs
    exact ⟨by simp [PyData.canLayAll0, PyData.canLay0, frD, h1], by simp [PyData.depthAll, PyData.depth, frD]; omega⟩
theorem shaped_frs (rs : List Rat) : SeqAt.shaped (.list (rs.map frD)) = true := by
  obtain ⟨h1, h2⟩ := lay_fr rs
  show (PyData.canLay0 (.list (rs.map frD)) && decide (PyData.depth (.list (rs.map frD)) ≤ 64)) = true
  rw [Bool.and_eq_true]
  refine ⟨by simpa [PyData.canLay0] using h1, decide_eq_true ?_⟩
  simp only [PyData.depth]
  omega
theorem eqv_frD (r s : Rat) : PyData.eqv (frD r) (frD s) = decide (r = s) := by
  cases e : PyData.eqv (frD r) (frD s) with
  | true =>
    refine (decide_eq_true ?_).symm
    have h : r.num = s.num ∧ (r.den : Int) = (s.den : Int) := by simpa [PyData.eqv, PyData.eqvAll, frD] using e
    exact Rat.ext h.1 (by omega)
  | false =>
    refine (decide_eq_false fun z => ?_).symm
    subst z
    simp [PyData.eqv, PyData.eqvAll, frD] at e
theorem place_fr {r : Rat} : ∀ {rs : List Rat}, r ∈ rs → ∃ j, SeqAt.dataPlace (rs.map frD) (frD r) = some j ∧ (rs.map frD).eraseIdx j = (rs.erase r).map frD
  | s :: rs, h => by
    by_cases z : s = r
    · subst z
      refine ⟨0, ?_, ?_⟩
      · unfold SeqAt.dataPlace
        rw [List.map_cons, List.findIdx?_cons, eqv_frD, decide_eq_true rfl]
        rfl
      · rw [List.map_cons, List.eraseIdx_cons_zero, List.erase_cons_head]
    · obtain ⟨j, h1, h2⟩ := place_fr (rs := rs) ((List.mem_cons.mp h).resolve_left fun y => z y.symm)
      refine ⟨j + 1, ?_, ?_⟩
      · unfold SeqAt.dataPlace at h1 ⊢
        rw [List.map_cons, List.findIdx?_cons, eqv_frD, decide_eq_false z, h1]
        rfl
      · rw [List.map_cons, List.eraseIdx_cons_succ, h2, List.erase_cons_tail (by simpa using z)]
        rfl
/-- x.remove(e), e a fraction among the fractions of x -/
theorem w_rem {D : Addr} {get : S → List PyData} {put : S → List PyData → S} (L : Lens F K D get put) (hi : ρ[i]? = some (.raw (.ref D))) (h : wE F K te ρ n fun r m => ∃ (rs : List Rat) (x : Rat), r = .dat (frD x) ∧ get m = rs.map frD ∧ x ∈ rs ∧ Φ (.dat .none) (put m ((rs.erase x).map frD))) :
    wE F K (tBM K "list" (rRemD K) (tVar i) (tCons te tNil)) ρ n Φ := fun σ H Q j rp q => by
  obtain ⟨v, ev, rv⟩ := rp.get hi (fun z => nomatch z)
  obtain rfl : v = .ref D := rv
  refine ⟨_, ev, lens_ty L j, ?_⟩
  refine h σ H _ j rp fun x H1 r m ⟨rs, y, er, eg, hy, p⟩ j1 s1 rx => ?_
  subst er
  obtain ⟨ws, hD, dq, st⟩ := L.at_ j1
  rw [eg] at dq st
  obtain ⟨jj, h1, h2⟩ := place_fr hy
  have ef : F.st (upd H1 D (.lst (ws.eraseIdx jj))) = F.st H1 := st_upd L.own
  refine ⟨D, x, frD y, rs.map frD, ws, jj, rfl, rfl, hD, dpAll_sub dq (noDict_fr rs), dp_of (Dq.sub rx) rfl, shaped_frs rs, rfl, plain_fr rs, rfl, h1, ?_⟩
  have dq' := DqAll.erase jj dq
  rw [h2] at dq'
  exact q _ _ _ _ p (L.set j1 dq' (steadys_of fun d hd => by
    obtain ⟨r, _, rfl⟩ := List.mem_map.mp hd
    rfl)) (by rw [ef]; exact s1) .non
/-- tuple(e) -/
theorem c_tupleOf (q : Φ (.dat (.tuple ds)) n) : wC F K (fun xs H Q => ∃ p ys, xs = [V.ref p] ∧ ((SqL K H p ys ∧ ∀ l, H l = none → Q (V.ref l) (upd H l (.tup ys))) ∨ (SqT K H p ys ∧ Q (V.ref p) H))) [.dat (.list ds)] n Φ := fun vs H Q jn ra k => by
  cases ra with
  | cons r1 ra =>
    cases ra
    cases r1 with
    | @lst a xs _ hs ha =>
      refine ⟨_, _, rfl, .inl ⟨SqL.of (Eff.sub _ _ hs), fun l hl => ?_⟩⟩
      have s2 := same_upd (o := .tup xs) hl
      exact k _ _ _ n q (Eff.keep s2 jn) (Eff.mono s2) (.tup (.inl (.inl (Eff.new jn hl))) (ha.mono (Eff.mono s2)))
theorem ints_of {G : Hp} : ∀ {vs : List V} {ns : List Int}, DqAll K G vs (ns.map .int) → vs = ns.map V.int
  | _, [], .nil => rfl
  | _ :: _, n :: ns, .cons h1 h2 => by
    cases h1
    rw [ints_of h2]
    rfl
theorem c_sum {ns : List Int} (q : Φ (.dat (.int ns.sum)) n) : wC F K (rSum K) [.dat (.list (ns.map .int))] n Φ := fun vs H Q jn ra k => by
  cases ra with
  | cons r1 ra =>
    cases ra
    cases r1 with
    | lst hs ha =>
      exact ⟨_, ns, rfl, by rw [← ints_of ha]; exact SqL.of (Eff.sub _ _ hs), k _ H _ n q jn (Same.refl _) (.int _)⟩
/-- x, y = list(e), [] ; t: two cells -/
theorem w_cells2 (h : wE F K te ρ n fun r m => ∃ ds, r = .dat (.list ds) ∧ steadys ds = true ∧ ∀ D1 D2, wS ((F.cell K D1).cell K D2) K t ((ρ.set i (.raw (.ref D1))).set k (.raw (.ref D2))) ((m, ds), []) ((P.cell D1 i).cell D2 k)) :
    wS F K (tSeq (tPar i k (tCons (tCB (fun xs H Q => ∃ p ys, xs = [V.ref p] ∧ (SqL K H p ys ∨ SqT K H p ys) ∧ ∀ l, H l = none → Q (V.ref l) (upd H l (.lst ys))) (tCons te tNil)) (tCons (tLst tNil) tNil))) t) ρ n P := fun σ H E j rp M => by
  refine h σ H _ j rp fun x H1 r m ⟨ds, e, st, hw⟩ j1 s1 rx => ?_
  subst e
  cases rx with
  | @lst a us _ hx ha =>
    refine ⟨a, us, rfl, .inl (SqL.of (Eff.sub _ _ hx)), fun D1 n1 => ?_⟩
    refine ⟨sz 0, fun D2 n2 => ⟨_, _, rfl, ?_⟩⟩
    have s2 : Same (F.st H1) ((F.cell K D1).st (upd H1 D1 (.lst us))) := cell_new n1
    have s3 : Same ((F.cell K D1).st (upd H1 D1 (.lst us))) (((F.cell K D1).cell K D2).st (upd (upd H1 D1 (.lst us)) D2 (.lst []))) := cell_new n2
    have J1 : (F.cell K D1).J (m, ds) (upd H1 D1 (.lst us)) := ⟨Eff.keep (same_upd n1) j1, Eff.fresh j1 n1, st, us, upd_same, ha.mono (Eff.mono (same_upd n1))⟩
    have J2 : ((F.cell K D1).cell K D2).J ((m, ds), []) (upd (upd H1 D1 (.lst us)) D2 (.lst [])) := ⟨Eff.keep (same_upd n2) J1, Eff.fresh J1 n2, rfl, [], upd_same, .nil⟩
    refine hw D1 D2 _ _ E J2 (((((rp.mono s1).mono s2).mono s3).set i (s := .raw (.ref D1)) rfl).set k (s := .raw (.ref D2)) rfl) ?_
    exact Meets.cell (Meets.cell M (s1.trans s2)) s3
end
end WkD
/-! the steps over data that need no thought -/
local macro_rules | `(tactic| walk_at "gd") => `(tactic| repeat (first
  | ((with_reducible refine' WkD.w_var ?hv ?hn ?_); (case hv => exact rfl); (case hn => exact (fun z => nomatch z)))
  | with_reducible refine WkD.w_int ?_ | with_reducible refine WkD.w_str ?_ | with_reducible refine WkD.w_non ?_ | with_reducible refine WkD.w_bl ?_
  | with_reducible refine WkD.w_chain ?_ | with_reducible refine WkD.w_tyc ?_ | ((with_reducible refine' WkD.c_isi ?hu ?_); (case hu => decide))
  | with_reducible refine WkD.w_op ?_ | with_reducible refine WkD.w_un ?_ | with_reducible refine WkD.w_nil ?_ | with_reducible refine WkD.w_cons ?_ | ((with_reducible refine' WkD.w_isi2 ?ha ?hb ?_); (case ha => decide); (case hb => decide)) | with_reducible refine WkD.w_CB ?_ | with_reducible refine WkD.w_call ?_
  | with_reducible refine WkD.w_if ?_ | with_reducible refine WkD.w_andV ?_ | with_reducible refine WkD.w_orV ?_ | with_reducible refine WkD.w_notV ?_ | with_reducible refine WkD.w_test ?_ | with_reducible refine WkD.w_tB ?_ | with_reducible refine WkD.w_not ?_
  | with_reducible refine WkD.w_and ?_ | with_reducible refine WkD.w_or ?_ | with_reducible refine WkD.w_yes ?_ | with_reducible refine WkD.w_next ?_ | with_reducible refine WkD.w_seq ?_ | with_reducible refine WkD.w_ret ?_ | with_reducible refine WkD.w_retN ?_
  | with_reducible refine WkD.w_drop ?_ | with_reducible refine WkD.w_ifS ?_ | with_reducible refine WkD.w_asg ?_ | with_reducible refine WkD.w_sl ?_ | with_reducible refine WkD.w_po0 ?_ | with_reducible refine WkD.w_po1 ?_ | with_reducible refine WkD.e_si ?_ | with_reducible refine WkD.l_A ?_ | with_reducible refine WkD.l_L ?_ | with_reducible refine WkD.w_cont ?_ | with_reducible refine WkD.w_break ?_ | with_reducible refine WkD.w_gt2 ?_ | with_reducible refine WkD.w_gt3 ?_ | with_reducible refine WkD.w_gcons ?_ | with_reducible refine WkD.w_gnil ?_ | with_reducible refine WkD.w_name ?_ | with_reducible refine WkD.w_par ?_
  | with_reducible refine WkD.r_I0i ?_ | with_reducible refine WkD.r_I0b ?_ | with_reducible refine WkD.u_U ?_ | with_reducible refine WkD.r_eqI ?_ | with_reducible refine WkD.r_neI ?_ | with_reducible refine WkD.r_eqS ?_ | with_reducible refine WkD.r_eqB ?_
  | ((with_reducible refine' WkD.r_ix ?hi ?_); (case hi => exact rfl)) | ((with_reducible refine' WkD.r_ixl ?hi ?_); (case hi => exact rfl))
  | ((with_reducible refine' WkD.r_ixT ?hi ?_); (case hi => exact rfl)) | ((with_reducible refine' WkD.r_ixL ?hi ?_); (case hi => exact rfl))
  | with_reducible refine WkD.c_gcd ?_ | with_reducible refine WkD.c_abs ?_ | with_reducible refine WkD.c_int ?_ | with_reducible refine WkD.e_bool ?_ | with_reducible refine WkD.w_tup ?_ | with_reducible refine WkD.w_lst ?_ | with_reducible refine WkD.e_ab ?_ | with_reducible refine WkD.d0 ?_ | with_reducible refine WkD.d1 ?_ | with_reducible refine WkD.d2 ?_ | with_reducible refine WkD.d3 ?_ | with_reducible refine WkD.d4 ?_))

namespace K35
open PySem PySem.Spec PyProof.Rows L2 WkH WkE WkQ WkS WkF WkD WkN WkC
section
variable {P : Program} {w : World} {K : PySem.W.Frag} {mg : Str → Option Value} {base : Heap}
def oneL (ds : List PyData) : List PyData := [.list ds]
abbrev spMixed : Sp := spDr K oneL (fun ds => steadys ds = true ∧ ds.length ≤ 100) (fun ds => ds.length) fun ds d => ∃ es, d = .list es ∧ es.length = ds.length ∧ ∀ x ∈ es, x ∈ ds
theorem scL_mixed : FnScope ["draw", "items", "turn", "left", "found"] ["draw", "items"] d_law_mixed.sco := ⟨rfl, rfl, rfl, by decide +kernel, rfl, by decide +kernel, by decide +kernel⟩
theorem ok_mixed {fd : FuncData} (F : Stands K d_law_mixed fd) (T : Bg K mg) (Ftk : Fn P w K mg base CX0 1 "_law_take" ["draw", "many"] WkD.spTake) : FnOk P w K mg base CX0 2 d_law_mixed.adr fd ["draw", "items"] (spMixed (K := K)) := by
  refine FunD.ok F scL_mixed (fun vs H Q E h => len_Dr h fun _ => rfl) (fun cdv A outer s H vs Q E hr h => ⟨_, PSs.nox (pss_cons (ps_par (i := 3) (j := 4) rfl scL_mixed.nd rfl rfl (by decide) rfl rfl (pa_cons (pe_callTy call_list_of rfl T.list WkB.b_list (pa_cons (pv 1) pa_nil)) (pa_cons (pe_lst pa_nil) pa_nil)) rfl)
  (pss_cons (ps_for PassesOwn.never rfl (pi_range1 rfl T.range (pa_cons (pe_callB call_len_seq rfl T.len WkB.b_len (pa_cons (pv 1) pa_nil)) pa_nil)) (pg_name (i := 2) scL_mixed.nd rfl (by first | exact Or.inl rfl | exact Or.inr rfl)) (pss_one (ps_expr (pe_bm PySem.F.plainAttrs_list PySem.F.slot_list_append PySem.F.type_list_append mt_append (pv 4) (pa_cons (pe_bm PySem.F.plainAttrs_list PySem.F.slot_list_pop PySem.F.type_list_pop mt_popAt (pv 3) (pa_cons (pe_fn Ftk hr rfl (pa_cons (pv 0) (pa_cons (pe_callB call_len_seq rfl T.len WkB.b_len (pa_cons (pv 3) pa_nil)) pa_nil))) pa_nil)) pa_nil)))))
  (pss_one (ps_ret (pv 4))))), ?_⟩)
  refine body_Dr h fun F n ds b cnt up L hp hc => ?_
  obtain ⟨hst, hl⟩ := hp
  try dsimp only [cxOf, Cx.nox, Cx.wish, oneL]
  refine w_cells2 ?_
  walk_at "gd"
  refine ⟨ds, rfl, hst, fun D1 D2 => ?_⟩
  walk_at "gd"
  refine w_forR1 ?_
  walk_at "gd"
  refine c_len (.inl rfl) ?_
  walk_at "gd"
  refine ⟨_, rfl, by omega, by omega, ?_⟩
  rw [Int.toNat_natCast]
  refine ⟨fun i ρ m => ∃ x les fes, ρ = [.raw (.ref b), .dat (.list ds), x, .raw (.ref D1), .raw (.ref D2)] ∧ m = ((upN up i n, les), fes) ∧ i ≤ ds.length ∧ les.length = ds.length - i ∧ fes.length = i ∧ (∀ y ∈ les, y ∈ ds) ∧ (∀ y ∈ fes, y ∈ ds), ⟨_, ds, [], rfl, rfl, Nat.zero_le _, rfl, rfl, fun _ h => h, fun _ h => by cases h⟩, fun i d ρ m hi hI => ?_, fun ρ m hI => ?_⟩
  · obtain ⟨x, les, fes, rfl, rfl, hil, l1, l2, m1, m2⟩ := hI
    have li : i < ds.length := by
      have := (List.getElem?_eq_some_iff.mp hi).1
      rwa [intsD_length] at this
    have hcnt := upN_cnt L i n
    walk_at "gd"
    refine w_app Lens.cell rfl ?_
    refine w_popAt (Lens.cell.lift) rfl ?_
    walk_at "gd"
    refine c_lenC Lens.cell.lift ?_
    walk_at "gd"
    refine c_take L.cell.cell (by show cnt (upN up i n) ≤ _; rw [hcnt]; omega) (by show (1 : Int) ≤ (les.length : Int); omega) (by show (les.length : Int) < _; omega) fun r r0 r1 => ?_
    have r1' : r < (les.length : Int) := r1
    have hk : r.toNat < les.length := by omega
    have e1 : les[r.toNat]? = some les[r.toNat] := List.getElem?_eq_getElem hk
    have er : r = ((r.toNat : Nat) : Int) := by omega
    refine ⟨r.toNat, les[r.toNat], by rw [← er], by omega, e1, ?_⟩
    have hmem := m1 _ (List.getElem_mem hk)
    refine ⟨_, rfl, steadys_mem hst hmem, by show fes.length < _; omega, ?_⟩
    refine ⟨_, les.eraseIdx r.toNat, fes ++ [les[r.toNat]], rfl, rfl, by omega, ?_, by rw [List.length_append]; simp; omega, fun y hy => m1 y (List.mem_of_mem_eraseIdx hy), fun y hy => ?_⟩
    · rw [List.length_eraseIdx_of_lt hk]
      omega
    · rcases List.mem_append.mp hy with h | h
      · exact m2 y h
      · have : y = les[r.toNat] := by simpa using h
        rw [this]
        exact hmem
  · obtain ⟨x, les, fes, rfl, rfl, hil, l1, l2, m1, m2⟩ := hI
    rw [intsD_length] at l2
    rw [intsD_length]
    walk_at "gd"
    refine .inr ⟨rfl, .inl ⟨ds.length, _, Nat.le_refl _, rfl, rfl, fes, rfl, l2, m2⟩⟩
end
end K35
/-! the steps over data that need no thought -/
local macro_rules | `(tactic| walk_at "gd") => `(tactic| repeat (first
  | ((with_reducible refine' WkD.w_var ?hv ?hn ?_); (case hv => exact rfl); (case hn => exact (fun z => nomatch z)))
  | with_reducible refine WkD.w_int ?_ | with_reducible refine WkD.w_str ?_ | with_reducible refine WkD.w_non ?_ | with_reducible refine WkD.w_bl ?_
  | with_reducible refine WkD.w_chain ?_ | with_reducible refine WkD.w_tyc ?_ | ((with_reducible refine' WkD.c_isi ?hu ?_); (case hu => decide))
  | with_reducible refine WkD.w_op ?_ | with_reducible refine WkD.w_un ?_ | with_reducible refine WkD.w_nil ?_ | with_reducible refine WkD.w_cons ?_ | ((with_reducible refine' WkD.w_isi2 ?ha ?hb ?_); (case ha => decide); (case hb => decide)) | with_reducible refine WkD.w_CB ?_ | with_reducible refine WkD.w_call ?_
  | with_reducible refine WkD.w_if ?_ | with_reducible refine WkD.w_andV ?_ | with_reducible refine WkD.w_orV ?_ | with_reducible refine WkD.w_notV ?_ | with_reducible refine WkD.w_test ?_ | with_reducible refine WkD.w_tB ?_ | with_reducible refine WkD.w_not ?_
  | with_reducible refine WkD.w_and ?_ | with_reducible refine WkD.w_or ?_ | with_reducible refine WkD.w_yes ?_ | with_reducible refine WkD.w_next ?_ | with_reducible refine WkD.w_seq ?_ | with_reducible refine WkD.w_ret ?_ | with_reducible refine WkD.w_retN ?_
  | with_reducible refine WkD.w_drop ?_ | with_reducible refine WkD.w_ifS ?_ | with_reducible refine WkD.w_asg ?_ | with_reducible refine WkD.w_sl ?_ | with_reducible refine WkD.w_po0 ?_ | with_reducible refine WkD.w_po1 ?_ | with_reducible refine WkD.e_si ?_ | with_reducible refine WkD.l_A ?_ | with_reducible refine WkD.l_L ?_ | with_reducible refine WkD.w_cont ?_ | with_reducible refine WkD.w_break ?_ | with_reducible refine WkD.w_gt2 ?_ | with_reducible refine WkD.w_gt3 ?_ | with_reducible refine WkD.w_gcons ?_ | with_reducible refine WkD.w_gnil ?_ | with_reducible refine WkD.w_name ?_ | with_reducible refine WkD.w_par ?_
  | with_reducible refine WkD.r_I0i ?_ | with_reducible refine WkD.r_I0b ?_ | with_reducible refine WkD.u_U ?_ | with_reducible refine WkD.r_eqI ?_ | with_reducible refine WkD.r_neI ?_ | with_reducible refine WkD.r_eqS ?_ | with_reducible refine WkD.r_eqB ?_
  | ((with_reducible refine' WkD.r_ix ?hi ?_); (case hi => exact rfl)) | ((with_reducible refine' WkD.r_ixl ?hi ?_); (case hi => exact rfl))
  | ((with_reducible refine' WkD.r_ixT ?hi ?_); (case hi => exact rfl)) | ((with_reducible refine' WkD.r_ixL ?hi ?_); (case hi => exact rfl))
  | with_reducible refine WkD.c_gcd ?_ | with_reducible refine WkD.c_abs ?_ | with_reducible refine WkD.c_int ?_ | with_reducible refine WkD.e_bool ?_ | with_reducible refine WkD.w_tup ?_ | with_reducible refine WkD.w_lst ?_ | with_reducible refine WkD.e_ab ?_ | with_reducible refine WkD.d0 ?_ | with_reducible refine WkD.d1 ?_ | with_reducible refine WkD.d2 ?_ | with_reducible refine WkD.d3 ?_ | with_reducible refine WkD.d4 ?_))



namespace K35
open PySem PySem.Spec PyProof.Rows L2 WkH WkE WkQ WkS WkF WkD WkN WkC
/-! ### the law's own order: different ones, the least one first -/
def uniqR (rs : List Rat) : List Rat := rs.foldl (fun l r => if r ∈ l then l else l ++ [r]) []
def minR : List Rat → Rat
  | [] => 0
  | r :: rs => rs.foldl (fun m w => if w < m then w else m) r
def selR : Nat → List Rat → List Rat
  | 0, _ => []
  | k + 1, l => minR l :: selR k (l.erase (minR l))
def lawAsc (rs : List Rat) : List Rat := selR (uniqR rs).length (uniqR rs)
theorem foldl_min : ∀ (rs : List Rat) (m : Rat), (rs.foldl (fun m w => if w < m then w else m) m = m ∨ rs.foldl (fun m w => if w < m then w else m) m ∈ rs) ∧ rs.foldl (fun m w => if w < m then w else m) m ≤ m ∧ ∀ r ∈ rs, rs.foldl (fun m w => if w < m then w else m) m ≤ r
  | [], m => ⟨.inl rfl, Rat.le_refl, fun _ h => nomatch h⟩
  | w :: rs, m => by
    obtain ⟨h1, h2, h3⟩ := foldl_min rs (if w < m then w else m)
    rw [List.foldl_cons]
    have le1 : (if w < m then w else m) ≤ m := by split <;> grind
    have le2 : (if w < m then w else m) ≤ w := by split <;> grind
    refine ⟨?_, Rat.le_trans h2 le1, fun r hr => ?_⟩
    · rcases h1 with h1 | h1
      · rw [h1]
        split
        · exact .inr (List.mem_cons_self ..)
        · exact .inl rfl
      · exact .inr (List.mem_cons_of_mem _ h1)
    · rcases List.mem_cons.mp hr with rfl | hr
      · exact Rat.le_trans h2 le2
      · exact h3 r hr
theorem minR_mem : ∀ {l : List Rat}, l ≠ [] → minR l ∈ l
  | [], h => absurd rfl h
  | r :: rs, _ => by
    rcases (foldl_min rs r).1 with h | h
    · show rs.foldl _ r ∈ _
      rw [h]
      exact List.mem_cons_self ..
    · exact List.mem_cons_of_mem _ h
theorem minR_le : ∀ {l : List Rat} {r : Rat}, r ∈ l → minR l ≤ r
  | r :: rs, x, h => by
    rcases List.mem_cons.mp h with rfl | h
    · exact (foldl_min rs x).2.1
    · exact (foldl_min rs r).2.2 x h
theorem uniq_go : ∀ (rs l : List Rat), l.Nodup → (rs.foldl (fun l r => if r ∈ l then l else l ++ [r]) l).Nodup ∧ ∀ x, x ∈ rs.foldl (fun l r => if r ∈ l then l else l ++ [r]) l ↔ x ∈ rs ∨ x ∈ l
  | [], l, h => ⟨h, fun x => by simp⟩
  | r :: rs, l, h => by
    rw [List.foldl_cons]
    by_cases z : r ∈ l
    · rw [if_pos z]
      obtain ⟨h1, h2⟩ := uniq_go rs l h
      refine ⟨h1, fun x => ?_⟩
      rw [h2, List.mem_cons]
      constructor
      · rintro (y | y)
        · exact .inl (.inr y)
        · exact .inr y
      · rintro ((rfl | y) | y)
        · exact .inr z
        · exact .inl y
        · exact .inr y
    · rw [if_neg z]
      obtain ⟨h1, h2⟩ := uniq_go rs (l ++ [r]) (List.nodup_append.mpr ⟨h, by simp, fun a ha b hb e => by
        have : b = r := by simpa using hb
        subst this
        exact z (e ▸ ha)⟩)
      refine ⟨h1, fun x => ?_⟩
      rw [h2, List.mem_cons, List.mem_append, List.mem_singleton]
      constructor
      · rintro (y | y | y)
        · exact .inl (.inr y)
        · exact .inr y
        · exact .inl (.inl y)
      · rintro ((y | y) | y)
        · exact .inr (.inr y)
        · exact .inl y
        · exact .inr (.inl y)
theorem uniq_len (rs : List Rat) : ∀ l : List Rat, (rs.foldl (fun l r => if r ∈ l then l else l ++ [r]) l).length ≤ rs.length + l.length := by
  induction rs with
  | nil => simp
  | cons r rs ih =>
    intro l
    rw [List.foldl_cons]
    have := ih (if r ∈ l then l else l ++ [r])
    split at this
    · rw [List.length_cons]
      rename_i z
      rw [if_pos z]
      omega
    · rw [List.length_append, List.length_singleton] at this
      rename_i z
      rw [if_neg z, List.length_cons]
      omega
theorem selR_spec : ∀ (k : Nat) (l : List Rat), l.length = k → l.Nodup → (selR k l).length = k ∧ (∀ x, x ∈ selR k l ↔ x ∈ l) ∧ (selR k l).Pairwise (· < ·)
  | 0, l, h, _ => by
    have : l = [] := List.length_eq_zero_iff.mp h
    subst this
    exact ⟨rfl, fun _ => Iff.rfl, .nil⟩
  | k + 1, l, h, nd => by
    have hne : l ≠ [] := fun z => by rw [z] at h; cases h
    have hm := minR_mem hne
    obtain ⟨h1, h2, h3⟩ := selR_spec k (l.erase (minR l)) (by rw [List.length_erase_of_mem hm]; omega) (nd.erase _)
    refine ⟨by show _ + 1 = _; rw [h1], fun x => ?_, List.pairwise_cons.mpr ⟨fun x hx => ?_, h3⟩⟩
    · show x ∈ minR l :: _ ↔ _
      rw [List.mem_cons, h2, nd.mem_erase_iff]
      constructor
      · rintro (rfl | ⟨_, h⟩)
        · exact hm
        · exact h
      · intro hx
        by_cases z : x = minR l
        · exact .inl z
        · exact .inr ⟨z, hx⟩
    · rw [h2, nd.mem_erase_iff] at hx
      have := minR_le hx.2
      have ne := hx.1
      grind
theorem lawAsc_spec (rs : List Rat) : (lawAsc rs).length ≤ rs.length ∧ (∀ x, x ∈ lawAsc rs ↔ x ∈ rs) ∧ (lawAsc rs).Pairwise (· < ·) := by
  obtain ⟨u1, u2⟩ := uniq_go rs [] List.nodup_nil
  obtain ⟨h1, h2, h3⟩ := selR_spec (uniqR rs).length (uniqR rs) rfl u1
  refine ⟨?_, fun x => ?_, h3⟩
  · show (selR _ _).length ≤ _
    rw [h1]
    have := uniq_len rs []
    simpa [uniqR] using this
  · show x ∈ selR _ _ ↔ _
    rw [h2]
    show x ∈ rs.foldl _ [] ↔ _
    rw [u2]
    simp
section
variable {P : Program} {w : World} {K : PySem.W.Frag} {mg : Str → Option Value} {base : Heap}
abbrev spLawAsc : Sp := spF K listR (fun rs => rs.length ≤ 64 ∧ ∀ r ∈ rs, Bits 4000 r) fun rs => .list ((lawAsc rs).map frD)
theorem any_eqv {r : Rat} : ∀ l : List Rat, (l.map frD).any (fun z => PyData.eqv z (frD r)) = decide (r ∈ l)
  | [] => by simp
  | s :: l => by
    rw [List.map_cons, List.any_cons, any_eqv l, eqv_frD]
    by_cases h : r = s
    · subst h
      simp
    · have h' : ¬ s = r := fun z => h z.symm
      simp [h, h']
theorem scL_ascending : FnScope ["worths", "worth", "turn", "left", "found", "least"] ["worths"] d_law_ascending.sco := ⟨rfl, rfl, rfl, by decide +kernel, rfl, by decide +kernel, by decide +kernel⟩
theorem ok_lascending {fd : FuncData} (F : Stands K d_law_ascending fd) (T : Bg K mg) (Fb : Fn P w K mg base CX0 1 "_law_less" ["one", "other"] (spBelow (K := K))) : FnOk P w K mg base CX0 2 d_law_ascending.adr fd ["worths"] (spLawAsc (K := K)) := by
  refine FunD.ok F scL_ascending (fun vs H Q E h => len_F h fun _ => rfl) (fun cdv A outer s H vs Q E hr h => ⟨_, PSs.nox (pss_cons (ps_par (i := 3) (j := 4) rfl scL_ascending.nd rfl rfl (by decide) rfl rfl (pa_cons (pe_lst pa_nil) (pa_cons (pe_lst pa_nil) pa_nil)) rfl)
  (pss_cons (ps_for PassesOwn.never rfl (pi_list (pv 0)) (pg_name (i := 1) scL_ascending.nd rfl (by first | exact Or.inl rfl | exact Or.inr rfl)) (pss_one (ps_set (i := 3) scL_ascending.nd rfl (by first | exact Or.inl rfl | exact Or.inr rfl) (pe_op op_cat (pv 3) (pe_op op_rep (pe_lst (pa_cons (pv 1) pa_nil)) (pe_callTy call_int1 rfl T.int WkB.b_int (pa_cons (pe_cmpR (op_notInD (by have := hr.un; dsimp only [cxOf, Cx.nox]; omega)) (pv 1) (pv 3) rfl) pa_nil)))))))
  (pss_cons (ps_for PassesOwn.never rfl (pi_range1 rfl T.range (pa_cons (pe_callB call_len_seq rfl T.len WkB.b_len (pa_cons (pv 3) pa_nil)) pa_nil)) (pg_name (i := 2) scL_ascending.nd rfl (by first | exact Or.inl rfl | exact Or.inr rfl)) (pss_cons (ps_set (i := 5) scL_ascending.nd rfl (by first | exact Or.inl rfl | exact Or.inr rfl) (pe_ix (show IxR _ (rIx K) from ix_seq) (pv 3) pe_int (fun _ _ => rfl)))
  (pss_cons (ps_for PassesOwn.never rfl (pi_list (pv 3)) (pg_name (i := 1) scL_ascending.nd rfl (by first | exact Or.inl rfl | exact Or.inr rfl)) (pss_one (ps_set (i := 5) scL_ascending.nd rfl (by first | exact Or.inl rfl | exact Or.inr rfl) (pe_ifExp (pt_val (pe_fn Fb hr rfl (pa_cons (pv 1) (pa_cons (pv 5) pa_nil)))) (pv 1) (pv 5)))))
  (pss_cons (ps_expr (pe_bm PySem.F.plainAttrs_list PySem.F.slot_list_remove PySem.F.type_list_remove (mt_removeD (by have := hr.un; dsimp only [cxOf, Cx.nox]; omega)) (pv 3) (pa_cons (pv 5) pa_nil)))
  (pss_one (ps_expr (pe_bm PySem.F.plainAttrs_list PySem.F.slot_list_append PySem.F.type_list_append mt_append (pv 4) (pa_cons (pv 5) pa_nil))))))))
  (pss_one (ps_ret (pv 4)))))), ?_⟩)
  obtain ⟨S, F, n, rs, jn, dq, ⟨hl, hB⟩, q⟩ := h
  have hl : rs.length ≤ 64 := hl
  have hB : ∀ r ∈ rs, Bits 4000 r := hB
  obtain ⟨v, rfl, dv⟩ := dq1 dq
  cases dv with
  | @lst a ws _ hx ha =>
    try dsimp only [cxOf, Cx.nox, Cx.wish]
    with_reducible refine e_seq ?_
    walk_at "go"
    refine ⟨sz 0, fun D1 n1 => ?_⟩
    walk_at "go"
    refine ⟨sz 0, fun D2 n2 => ?_⟩
    walk_at "go"
    have s1 := same_upd (o := .lst []) n1
    have s2 := same_upd (o := .lst []) n2
    have n2' : H D2 = none := by
      by_cases z : D2 = D1
      · rw [z]
        exact n1
      · rw [upd_ne z] at n2
        exact n2
    have ne : D1 ≠ D2 := fun z => by rw [← z, upd_same] at n2; cases n2
    have J0 : (F.cell K D2).J (n, []) (upd (upd H D1 (.lst [])) D2 (.lst [])) := ⟨Eff.keep (s1.trans s2) jn, Eff.fresh jn n2', rfl, [], upd_same, .nil⟩
    have S0 : Same (F.st H) ((F.cell K D2).st (upd (upd H D1 (.lst [])) D2 (.lst []))) := (Eff.mono s1).trans (cell_new n2)
    have vis : ∀ {D : Addr} {H' : Hp}, H D = none → F.st H D = none := fun {D H'} h => by
      unfold Eff.st
      split
      · rfl
      · exact h
    have D1v : (F.cell K D2).st (upd (upd H D1 (.lst [])) D2 (.lst [])) D1 = some (.lst []) := by
      rw [cell_ne ne, Eff.st_ne (Eff.fresh jn n1), upd_ne ne, upd_same]
    refine ⟨.ref a, rfl, a, rfl, ⟨ws, SqL.of (Eff.sub _ _ (cell_sub _ _ (S0 _ _ hx)))⟩, ?_⟩
    refine for_list (xs := ws) (fun i σ' H' => ∃ D us x, (F.cell K D2).J (n, []) H' ∧ Same (F.st H) ((F.cell K D2).st H') ∧ F.st H D = none ∧ (F.cell K D2).st H' D = some (.lst us) ∧ DqAll K ((F.cell K D2).st H') us ((uniqR (rs.take i)).map frD) ∧
      σ' = [some (.ref a), x, none, some (.ref D), some (.ref D2), none]) ⟨D1, [], none, J0, S0, vis (H' := H) n1, D1v, .nil, rfl⟩ (fun i σ' H' _ ⟨_, _, _, _, s, _⟩ => SqL.of (Eff.sub _ _ (s _ _ hx))) (fun i x σ' H' hi ⟨D, us, y, J, s, nD, hD, du, eσ⟩ => ?_) fun σ' H' ⟨D, us, y, J, s, nD, hD, du, eσ⟩ => ?_
    · subst eσ
      obtain ⟨d, hd', dx⟩ := ha.getV hi
      obtain ⟨r, hr', rfl⟩ := get_map hd'
      have dx1 := dx.mono s
      cases dx1 with
      | @tup b bs _ hb1 hb2 =>
        have ul : us.length ≤ 64 := by
          rw [du.length, List.length_map]
          have := uniq_len (rs.take i) []
          rw [List.length_take] at this
          simp at this
          unfold uniqR
          omega
        walk_at "go"
        refine ⟨sz 1, fun p np => ?_⟩
        have sp1 := same_upd (o := .lst [V.ref b]) np
        have Jp := Eff.keep sp1 J
        have e1 := Eff.mono (F := F.cell K D2) sp1
        walk_at "go"
        refine ⟨frD r, (uniqR (rs.take i)).map frD, dp_of (Dq.sub (F := F.cell K D2) (.tup (SqT.mono e1 hb1) (hb2.mono e1))) rfl, dp_of (Dq.sub (F := F.cell K D2) (.lst (e1 _ _ hD) (du.mono e1))) (by simpa [PyData.hasDict] using noDict_fr _), rfl, shaped_frs _, ?_⟩
        rw [any_eqv]
        refine .inr ⟨_, rfl, ?_⟩
        obtain ⟨zs, ez, lz⟩ : ∃ zs : List V, (List.replicate (if (!decide (r ∈ uniqR (rs.take i))) = true then (1 : Int) else 0).toNat [V.ref b]).flatten = zs ∧ (r ∈ uniqR (rs.take i) → zs = []) ∧ (r ∉ uniqR (rs.take i) → zs = [V.ref b]) := ⟨_, rfl, fun h => by simp [h], fun h => by simp [h]⟩
        have lz1 : zs.length ≤ 1 := by
          by_cases h : r ∈ uniqR (rs.take i)
          · rw [lz.1 h]
            simp
          · rw [lz.2 h]
            simp
        refine ⟨p, _, _, rfl, rfl, upd_same, by split <;> decide, by split <;> decide, ?_, fun p2 np2 => ?_⟩
        · split
          · exact sz 1
          · exact sz 0
        · rw [ez]
          have sp2 := same_upd (o := .lst zs) np2
          have e2 := Eff.mono (F := F.cell K D2) sp2
          refine ⟨D, p2, us, zs, rfl, rfl, Eff.sub _ _ (e2 _ _ (e1 _ _ hD)), upd_same, sz _ (by omega), fun p3 np3 => ?_⟩
          have sp3 := same_upd (o := .lst (us ++ zs)) np3
          have e3 := Eff.mono (F := F.cell K D2) sp3
          have Jq := Eff.keep sp2 Jp
          walk_at "go"
          have e13 := e1.trans (e2.trans e3)
          refine ⟨p3, us ++ zs, some (.ref b), Eff.keep sp3 Jq, s.trans e13, ?_, Eff.new Jq np3, ?_, rfl⟩
          · cases z : F.st H p3 with
            | none => rfl
            | some u =>
              have := Eff.sub _ _ (e2 _ _ (e1 _ _ (s _ _ z)))
              rw [np3] at this
              cases this
          · have eu : uniqR (rs.take (i + 1)) = if r ∈ uniqR (rs.take i) then uniqR (rs.take i) else uniqR (rs.take i) ++ [r] := by
              unfold uniqR
              rw [List.take_add_one, hr', List.foldl_append]
              rfl
            have fin : ∀ G : Hp, DqAll K G us ((uniqR (rs.take i)).map frD) → Dq K G (.ref b) (frD r) → DqAll K G (us ++ zs) ((uniqR (rs.take (i + 1))).map frD) := fun G g1 g2 => by
              rw [eu]
              by_cases h : r ∈ uniqR (rs.take i)
              · rw [if_pos h, lz.1 h, List.append_nil]
                exact g1
              · rw [if_neg h, lz.2 h, List.map_append]
                exact g1.append (.cons g2 .nil)
            exact fin _ (du.mono e13) (.tup (SqT.mono e13 hb1) (hb2.mono e13))
    · subst eσ
      have el : ws.length = rs.length := by rw [ha.length, List.length_map]
      rw [el, List.take_length] at du
      have nOwn : ¬ (F.cell K D2).own D := fun z => by
        rw [Eff.st_own z] at hD
        cases hD
      have hD' : H' D = some (.lst us) := Eff.sub _ _ hD
      have J3 : ((F.cell K D2).cell K D).J ((n, []), (uniqR rs).map frD) H' := ⟨J, nOwn, steadys_fr _, us, hD', du⟩
      have S3 : Same (F.st H) (((F.cell K D2).cell K D).st H') := fun b u e => by
        have : b ≠ D := fun z => by
          subst z
          rw [nD] at e
          cases e
        rw [cell_ne this]
        exact s _ _ e
      have S4 := Dq.mono S3 (.lst hx ha)
      dsimp only
      refine use_S (F := (F.cell K D2).cell K D) (n := ((n, []), (uniqR rs).map frD)) (ρ := [.dat (.list (rs.map frD)), .no, .no, .raw (.ref D), .raw (.ref D2), .no]) (P := { nx := fun _ _ => False, rt := fun r m => r = .raw (.ref D2) ∧ m.1 = (n, (lawAsc rs).map frD) }) J3
        (.cons ⟨_, rfl, S4⟩ (.cons True.intro (.cons True.intro (.cons rfl (.cons rfl (.cons True.intro .nil)))))) ?_ ⟨fun _ _ _ _ z => z.elim, fun v H2 r m ⟨er, em⟩ j2 s2 rv => ?_, fun _ _ _ _ z => z.elim, fun _ _ _ _ z => z.elim⟩
      · have uB : ∀ r ∈ uniqR rs, Bits 4000 r := fun r hr => hB r (by
          have := ((uniq_go rs [] List.nodup_nil).2 r).mp hr
          simpa using this)
        have ul : (uniqR rs).length ≤ 64 := by
          have := uniq_len rs []
          simp at this
          unfold uniqR
          omega
        walk_at "gd"
        refine w_forR1 ?_
        walk_at "gd"
        refine c_lenC Lens.cell ?_
        rw [List.length_map]
        walk_at "gd"
        refine ⟨_, rfl, by omega, by omega, ?_⟩
        rw [Int.toNat_natCast]
        refine ⟨fun t ρ m => ∃ (x y z : Sl) (l fs : List Rat), ρ = [.dat (.list (rs.map frD)), x, y, .raw (.ref D), .raw (.ref D2), z] ∧ m = ((n, fs.map frD), l.map frD) ∧ t + l.length = (uniqR rs).length ∧ fs.length = t ∧ (∀ r ∈ l, Bits 4000 r) ∧ fs ++ selR l.length l = lawAsc rs, ⟨_, _, _, uniqR rs, [], rfl, rfl, by omega, rfl, uB, rfl⟩, fun t d ρ m hi hI => ?_, fun ρ m hI => ?_⟩
        · obtain ⟨x, y, z, l, fs, rfl, rfl, h1, h2, h3, h4⟩ := hI
          have lt : t < (uniqR rs).length := by
            have := (List.getElem?_eq_some_iff.mp hi).1
            rwa [intsD_length] at this
          obtain ⟨l0, l', rfl⟩ : ∃ l0 l', l = l0 :: l' := by
            cases l with
            | nil => simp at h1; omega
            | cons l0 l' => exact ⟨_, _, rfl⟩
          have hm := minR_mem (l := l0 :: l') (fun z => nomatch z)
          walk_at "gd"
          refine r_ixC Lens.cell (atI_map (i := 0) (xs := l0 :: l') (f := frD) (x := l0) rfl) ?_
          walk_at "gd"
          refine fixS Lens.cell fun ws2 => ?_
          refine w_forF rfl ⟨fun k ρ m => ∃ x' : Sl, ρ = [.dat (.list (rs.map frD)), x', _, .raw (.ref D), .raw (.ref D2), .dat (frD (((l0 :: l').take k).foldl (fun m w => if w < m then w else m) l0))] ∧ m = ((n, fs.map frD), (l0 :: l').map frD), ⟨_, rfl, rfl⟩, fun k d2 ρ m hk hK => ?_, fun ρ m hK => ?_⟩
          · obtain ⟨x', rfl, rfl⟩ := hK
            obtain ⟨r, hr', rfl⟩ := get_map hk
            have hacc : Bits 4000 (((l0 :: l').take k).foldl (fun m w => if w < m then w else m) l0) := by
              rcases (foldl_min ((l0 :: l').take k) l0).1 with e | e
              · rw [e]
                exact h3 _ (List.mem_cons_self ..)
              · exact h3 _ (List.mem_of_mem_take e)
            have est : ((l0 :: l').take (k + 1)).foldl (fun m w => if w < m then w else m) l0 = if r < (((l0 :: l').take k).foldl (fun m w => if w < m then w else m) l0) then r else (((l0 :: l').take k).foldl (fun m w => if w < m then w else m) l0) := by
              rw [List.take_add_one, hr', List.foldl_append]
              rfl
            generalize ((l0 :: l').take k).foldl (fun m w => if w < m then w else m) l0 = acc at hacc est ⊢
            walk_at "gd"
            refine c_fn (enc := twoR) (r, acc) ⟨h3 _ (List.mem_of_getElem? hr'), hacc⟩ ?_
            walk_at "gd"
            refine ⟨fun z => ?_, fun z => ?_⟩
            · have z : r < acc := of_decide_eq_true z
              walk_at "gd"
              refine ⟨.dat (frD r), ?_, rfl⟩
              rw [est, if_pos z]
              rfl
            · have z : ¬ r < acc := of_decide_eq_false z
              walk_at "gd"
              refine ⟨.dat (frD r), ?_, rfl⟩
              rw [est, if_neg z]
              rfl
          · obtain ⟨x', rfl, rfl⟩ := hK
            rw [List.length_map, List.take_length]
            have em : (l0 :: l').foldl (fun m w => if w < m then w else m) l0 = minR (l0 :: l') := by
              show l'.foldl _ (if l0 < l0 then l0 else l0) = l'.foldl _ l0
              rw [if_neg (Rat.lt_irrefl)]
            rw [em]
            walk_at "gd"
            refine w_rem Lens.cell rfl ?_
            walk_at "gd"
            refine ⟨l0 :: l', minR (l0 :: l'), rfl, rfl, hm, ?_⟩
            walk_at "gd"
            refine w_app Lens.cell.lift rfl ?_
            walk_at "gd"
            refine ⟨frD (minR (l0 :: l')), rfl, rfl, by show (fs.map frD).length < _; rw [List.length_map]; omega, ?_⟩
            have hel : ((l0 :: l').erase (minR (l0 :: l'))).length = l'.length := by
              rw [List.length_erase_of_mem hm]
              rfl
            refine ⟨_, _, _, (l0 :: l').erase (minR (l0 :: l')), fs ++ [minR (l0 :: l')], rfl, ?_, ?_, ?_, fun r hr => h3 r (List.mem_of_mem_erase hr), ?_⟩
            · simp
            · rw [hel]
              rw [List.length_cons] at h1
              omega
            · rw [List.length_append, h2]
              rfl
            · rw [hel, ← h4, List.append_assoc]
              rfl
        · obtain ⟨x, y, z, l, fs, rfl, rfl, h1, h2, h3, h4⟩ := hI
          rw [intsD_length] at h1
          have : l = [] := List.length_eq_zero_iff.mp (by omega)
          subst this
          have h4' : fs = lawAsc rs := by rw [← h4]; exact (List.append_nil _).symm
          subst h4'
          walk_at "gd"
          exact ⟨rfl, rfl⟩
      · subst er
        obtain rfl : v = .ref D2 := rv
        have jj := j2.1
        rw [em] at jj
        exact q _ H2 jj.1 (S3.trans (s2.trans (cell_sub.trans cell_sub))) (cell_list jj)
end
end K35
/-! the steps over data that need no thought -/
local macro_rules | `(tactic| walk_at "gd") => `(tactic| repeat (first
  | ((with_reducible refine' WkD.w_var ?hv ?hn ?_); (case hv => exact rfl); (case hn => exact (fun z => nomatch z)))
  | with_reducible refine WkD.w_int ?_ | with_reducible refine WkD.w_str ?_ | with_reducible refine WkD.w_non ?_ | with_reducible refine WkD.w_bl ?_
  | with_reducible refine WkD.w_chain ?_ | with_reducible refine WkD.w_tyc ?_ | ((with_reducible refine' WkD.c_isi ?hu ?_); (case hu => decide))
  | with_reducible refine WkD.w_op ?_ | with_reducible refine WkD.w_un ?_ | with_reducible refine WkD.w_nil ?_ | with_reducible refine WkD.w_cons ?_ | ((with_reducible refine' WkD.w_isi2 ?ha ?hb ?_); (case ha => decide); (case hb => decide)) | with_reducible refine WkD.w_CB ?_ | with_reducible refine WkD.w_call ?_
  | with_reducible refine WkD.w_if ?_ | with_reducible refine WkD.w_andV ?_ | with_reducible refine WkD.w_orV ?_ | with_reducible refine WkD.w_notV ?_ | with_reducible refine WkD.w_test ?_ | with_reducible refine WkD.w_tB ?_ | with_reducible refine WkD.w_not ?_
  | with_reducible refine WkD.w_and ?_ | with_reducible refine WkD.w_or ?_ | with_reducible refine WkD.w_yes ?_ | with_reducible refine WkD.w_next ?_ | with_reducible refine WkD.w_seq ?_ | with_reducible refine WkD.w_ret ?_ | with_reducible refine WkD.w_retN ?_
  | with_reducible refine WkD.w_drop ?_ | with_reducible refine WkD.w_ifS ?_ | with_reducible refine WkD.w_asg ?_ | with_reducible refine WkD.w_sl ?_ | with_reducible refine WkD.w_po0 ?_ | with_reducible refine WkD.w_po1 ?_ | with_reducible refine WkD.e_si ?_ | with_reducible refine WkD.l_A ?_ | with_reducible refine WkD.l_L ?_ | with_reducible refine WkD.w_cont ?_ | with_reducible refine WkD.w_break ?_ | with_reducible refine WkD.w_gt2 ?_ | with_reducible refine WkD.w_gt3 ?_ | with_reducible refine WkD.w_gcons ?_ | with_reducible refine WkD.w_gnil ?_ | with_reducible refine WkD.w_name ?_ | with_reducible refine WkD.w_par ?_
  | with_reducible refine WkD.r_I0i ?_ | with_reducible refine WkD.r_I0b ?_ | with_reducible refine WkD.u_U ?_ | with_reducible refine WkD.r_eqI ?_ | with_reducible refine WkD.r_neI ?_ | with_reducible refine WkD.r_eqS ?_ | with_reducible refine WkD.r_eqB ?_
  | ((with_reducible refine' WkD.r_ix ?hi ?_); (case hi => exact rfl)) | ((with_reducible refine' WkD.r_ixl ?hi ?_); (case hi => exact rfl))
  | ((with_reducible refine' WkD.r_ixT ?hi ?_); (case hi => exact rfl)) | ((with_reducible refine' WkD.r_ixL ?hi ?_); (case hi => exact rfl))
  | with_reducible refine WkD.c_gcd ?_ | with_reducible refine WkD.c_abs ?_ | with_reducible refine WkD.c_int ?_ | with_reducible refine WkD.e_bool ?_ | with_reducible refine WkD.w_tup ?_ | with_reducible refine WkD.w_lst ?_ | with_reducible refine WkD.e_ab ?_ | with_reducible refine WkD.d0 ?_ | with_reducible refine WkD.d1 ?_ | with_reducible refine WkD.d2 ?_ | with_reducible refine WkD.d3 ?_ | with_reducible refine WkD.d4 ?_))

namespace K35
open PySem PySem.Spec PyProof.Rows L2 WkH WkE WkQ WkS WkF WkD WkN WkC
section
variable {P : Program} {w : World} {K : PySem.W.Frag} {mg : Str → Option Value} {base : Heap}
/-- the law's own boxes -/
structure LB (b : List (Rat × Rat)) : Prop where
  box : IsBox b
  ex : ∃ S, SzB 6 S b
  w : ∀ q ∈ b, In 6 64 q.1
/-! the chances of weights -/
def wsum (ws : List Nat) : Nat := ws.foldr (· + ·) 0
theorem ints_sum : ∀ ws : List Nat, (ws.map fun k => ((k : Nat) : Int)).sum = (wsum ws : Int)
  | [] => rfl
  | k :: ws => by
    rw [List.map_cons, List.sum_cons, ints_sum ws]
    show (k : Int) + (wsum ws : Int) = ((k + wsum ws : Nat) : Int)
    omega
theorem wsum_le : ∀ {ws : List Nat} {m : Nat}, (∀ k ∈ ws, k ≤ m) → wsum ws ≤ ws.length * m
  | [], _, _ => Nat.zero_le _
  | k :: ws, m, h => by
    have h1 := h k (List.mem_cons_self ..)
    have h2 := wsum_le fun x hx => h x (List.mem_cons_of_mem _ hx)
    show k + wsum ws ≤ _
    rw [List.length_cons, Nat.succ_mul]
    omega
theorem wsum_mem : ∀ {ws : List Nat} {k : Nat}, k ∈ ws → k ≤ wsum ws
  | j :: ws, k, h => by
    show k ≤ j + wsum ws
    rcases List.mem_cons.mp h with rfl | h
    · omega
    · have := wsum_mem h
      omega
def boxOn (S : Nat) (rs : List Rat) (ws : List Nat) : List (Rat × Rat) := List.zipWith (fun r (k : Nat) => (r, Rat.divInt (k : Int) (S : Int))) rs ws
theorem frac_of {S k : Nat} (hS : 0 < S) : (0 : Rat) < (S : Rat) ∧ Rat.divInt (k : Int) (S : Int) * (S : Rat) = (k : Rat) := by
  have p : (0 : Rat) < (S : Rat) := Rat.natCast_pos.mpr hS
  refine ⟨p, ?_⟩
  have e : ((S : Int) : Rat) = (S : Rat) := Rat.intCast_natCast S
  have e' : ((k : Int) : Rat) = (k : Rat) := Rat.intCast_natCast k
  have hS' : (S : Rat) ≠ 0 := fun z => by rw [z] at p; exact absurd p (by decide)
  rw [Rat.divInt_eq_div, e, e', Rat.div_mul_cancel hS']
theorem chance_on {S : Nat} (hS : 0 < S) : ∀ {rs : List Rat} {ws : List Nat}, rs.length = ws.length → K35M.chance (boxOn S rs ws) * (S : Rat) = (wsum ws : Rat)
  | [], [], _ => by
    show (0 : Rat) * _ = _
    rw [Rat.zero_mul]
    rfl
  | r :: rs, k :: ws, h => by
    have ih := chance_on hS (rs := rs) (ws := ws) (by simpa using h)
    show K35M.chance ((r, Rat.divInt (k : Int) (S : Int)) :: boxOn S rs ws) * (S : Rat) = _
    rw [K35M.chance_cons, Rat.add_mul, ih]
    show Rat.divInt (k : Int) (S : Int) * (S : Rat) + (wsum ws : Rat) = _
    rw [(frac_of hS).2]
    show (k : Rat) + (wsum ws : Rat) = ((k + wsum ws : Nat) : Rat)
    rw [Rat.natCast_add]
theorem LB.on {rs : List Rat} {ws : List Nat} (hl : rs.length = ws.length) (h1 : 1 ≤ rs.length) (h5 : rs.length ≤ 5) (hw : ∀ k ∈ ws, 1 ≤ k ∧ k ≤ 1000000000) (up : rs.Pairwise (· < ·)) (hi : ∀ r ∈ rs, In 6 64 r) : LB (boxOn (wsum ws) rs ws) := by
  have hS : 0 < wsum ws := by
    cases ws with
    | nil => rw [hl] at h1; cases h1
    | cons k ws =>
      have := (hw k (List.mem_cons_self ..)).1
      show 0 < k + wsum ws
      omega
  have hS2 : wsum ws ≤ 5 * 1000000000 := Nat.le_trans (wsum_le fun k hk => (hw k hk).2) (Nat.mul_le_mul (by omega) (Nat.le_refl _))
  have len : (boxOn (wsum ws) rs ws).length = rs.length := by
    unfold boxOn
    rw [List.length_zipWith]
    omega
  have mem : ∀ q ∈ boxOn (wsum ws) rs ws, q.1 ∈ rs ∧ ∃ k ∈ ws, q.2 = Rat.divInt (k : Int) (wsum ws : Int) := fun q hq => by
    obtain ⟨i, hi, e⟩ := List.mem_iff_getElem.mp hq
    unfold boxOn at e hi
    rw [List.getElem_zipWith] at e
    subst e
    exact ⟨List.getElem_mem _, _, List.getElem_mem _, rfl⟩
  have hSI : (0 : Int) < (wsum ws : Int) := by omega
  refine ⟨⟨by omega, by omega, fun q hq => ?_, fun i q r hq hr => ?_, ?_⟩, ⟨wsum ws, by decide, Nat.lt_of_le_of_lt hS2 (by decide), by decide, hS, by omega, fun q hq => ?_, fun q hq => ?_⟩, fun q hq => hi _ (mem q hq).1⟩
  · obtain ⟨_, k, hk, e⟩ := mem q hq
    obtain ⟨p, m⟩ := frac_of (k := k) hS
    have kp : (0 : Rat) < (k : Rat) := Rat.natCast_pos.mpr (hw k hk).1
    rw [e]
    refine Classical.byContradiction fun z => ?_
    have z' : Rat.divInt (k : Int) (wsum ws : Int) ≤ 0 := Rat.not_lt.mp z
    have := Rat.mul_le_mul_of_nonneg_right z' (Rat.le_of_lt p)
    rw [m, Rat.zero_mul] at this
    exact absurd kp (Rat.not_lt.mpr this)
  · unfold boxOn at hq hr
    obtain ⟨l1, e1⟩ := List.getElem?_eq_some_iff.mp hq
    obtain ⟨l2, e2⟩ := List.getElem?_eq_some_iff.mp hr
    rw [List.getElem_zipWith] at e1 e2
    subst e1
    subst e2
    exact List.pairwise_iff_getElem.mp up i (i + 1) _ _ (Nat.lt_succ_self i)
  · have h := chance_on hS hl
    obtain ⟨p, m⟩ := frac_of (k := wsum ws) hS
    have p' : (wsum ws : Rat) ≠ 0 := fun z => by rw [z] at p; exact absurd p (by decide)
    have e := Rat.mul_div_cancel (a := K35M.chance (boxOn (wsum ws) rs ws)) p'
    rw [← e, h]
    have o := Rat.mul_div_cancel (a := 1) p'
    rwa [Rat.one_mul] at o
  · exact (hi _ (mem q hq).1).mono (by decide) (Nat.dvd_refl _) (by decide)
  · obtain ⟨_, k, hk, e⟩ := mem q hq
    obtain ⟨p, m⟩ := frac_of (k := k) hS
    rw [e]
    refine ⟨hS, den_divInt_dvd _ hS, ?_, ?_⟩
    · refine Rat.le_trans (b := 0) (by decide +kernel) (Rat.divInt_nonneg (by omega) (by omega))
    · refine Rat.le_of_mul_le_mul_right (c := (wsum ws : Rat)) ?_ p
      rw [m]
      show (k : Rat) ≤ ((1 : Nat) : Rat) * _
      rw [show ((1 : Nat) : Rat) = 1 from rfl, Rat.one_mul]
      exact Rat.natCast_le_natCast.mpr (wsum_mem hk)
theorem LB.ws_pos {rs : List Rat} {ws : List Nat} (hl : rs.length = ws.length) (h1 : 1 ≤ rs.length) (hw : ∀ k ∈ ws, 1 ≤ k ∧ k ≤ 1000000000) : 0 < wsum ws := by
  cases ws with
  | nil => rw [hl] at h1; cases h1
  | cons k ws =>
    have := (hw k (List.mem_cons_self ..)).1
    show 0 < k + wsum ws
    omega
theorem draw_all : ∀ r < 15, ∀ t < 3, (Rat.divInt (((r : Nat) : Int) + -4) (1 + ((t : Nat) : Int))).den ∣ 6 ∧ -((64 : Nat) : Rat) ≤ Rat.divInt (((r : Nat) : Int) + -4) (1 + ((t : Nat) : Int)) ∧ Rat.divInt (((r : Nat) : Int) + -4) (1 + ((t : Nat) : Int)) ≤ ((64 : Nat) : Rat) := by decide +kernel
theorem draw_in {r t : Int} (r0 : 0 ≤ r) (r1 : r < 15) (t0 : 0 ≤ t) (t1 : t < 3) : In 6 64 (Rat.divInt (r + -4) (1 + t)) := by
  obtain ⟨a, rfl⟩ := Int.eq_ofNat_of_zero_le r0
  obtain ⟨c, rfl⟩ := Int.eq_ofNat_of_zero_le t0
  obtain ⟨h1, h2, h3⟩ := draw_all a (by omega) c (by omega)
  exact ⟨by decide, h1, h2, h3⟩
def encMB (q : Nat × Int) : List PyData := [.int (q.1 : Int), .int q.2]
abbrev spLawBox : Sp := spDr K encMB (fun q => 1 ≤ q.1 ∧ q.1 ≤ 5 ∧ q.2 = -4) (fun q => 4 * q.1) fun q d => ∃ b, d = boxD b ∧ LB b
theorem scL_box : FnScope ["draw", "many", "low", "worths", "weights", "worth", "k"] ["draw", "many", "low"] d_law_box.sco := ⟨rfl, rfl, rfl, by decide +kernel, rfl, by decide +kernel, by decide +kernel⟩
theorem ok_lbox {fd : FuncData} (F : Stands K d_law_box fd) (T : Bg K mg) (Ftk : Fn P w K mg base CX0 1 "_law_take" ["draw", "many"] WkD.spTake) (Fr : Fn P w K mg base CX0 1 "_law_low" ["top", "base"] (spReduced (K := K))) (Fa : Fn P w K mg base CX0 2 "_law_ascending" ["worths"] (spLawAsc (K := K))) :
    FnOk P w K mg base CX0 3 d_law_box.adr fd ["draw", "many", "low"] (spLawBox (K := K)) := by
  refine FunD.ok F scL_box (fun vs H Q E h => len_Dr h fun _ => rfl) (fun cdv A outer s H vs Q E hr h => ⟨_, PSs.nox (pss_cons (ps_set (i := 3) scL_box.nd rfl (by first | exact Or.inl rfl | exact Or.inr rfl) (pe_fn Fa hr rfl (pa_cons (pe_lc (own := [("k", 6)]) (g := (gName 6)) rfl scL_box.nd (pi_range1 rfl T.range (pa_cons (pv 1) pa_nil)) (blkOk_by (own := [("k", 6)]) (N := ["draw", "many", "low", "worths", "weights", "worth", "k"]) (sc := d_law_box.sco) (by decide +kernel)) (fun _ _ _ _ _ => (pg_name (i := 6) scL_box.nd rfl (by first | exact Or.inl rfl | exact Or.inr rfl))) (fun _ _ _ _ _ => pts_nil) (fun _ _ _ _ _ => (pe_fn Fr hr rfl (pa_cons (pe_op op_add (pe_fn Ftk hr rfl (pa_cons (pv 0) (pa_cons pe_int pa_nil))) (pv 2)) (pa_cons (pe_op op_add pe_int (pe_fn Ftk hr rfl (pa_cons (pv 0) (pa_cons pe_int pa_nil)))) pa_nil))))) pa_nil)))
  (pss_cons (ps_set (i := 4) scL_box.nd rfl (by first | exact Or.inl rfl | exact Or.inr rfl) (pe_lc (own := [("worth", 5)]) (g := (gName 5)) rfl scL_box.nd (pi_list (pv 3)) (blkOk_by (own := [("worth", 5)]) (N := ["draw", "many", "low", "worths", "weights", "worth", "k"]) (sc := d_law_box.sco) (by decide +kernel)) (fun _ _ _ _ _ => (pg_name (i := 5) scL_box.nd rfl (by first | exact Or.inl rfl | exact Or.inr rfl))) (fun _ _ _ _ _ => pts_nil) (fun _ _ _ _ _ => (pe_op op_add pe_int (pe_fn Ftk hr rfl (pa_cons (pv 0) (pa_cons (pe_ix (show IxR _ (rIx K) from ix_seq) (pe_lst (pa_cons pe_int (pa_cons pe_int (pa_cons (pe_op op_pow pe_int pe_int) pa_nil)))) (pe_fn Ftk hr rfl (pa_cons (pv 0) (pa_cons pe_int pa_nil))) (fun _ _ => rfl)) pa_nil)))))))
  (pss_one (ps_ret (pe_callTy call_tuple_of rfl T.tuple WkB.b_tuple (pa_cons (pe_lc (own := [("k", 6)]) (g := (gName 6)) rfl scL_box.nd (pi_range1 rfl T.range (pa_cons (pe_callB call_len_seq rfl T.len WkB.b_len (pa_cons (pv 3) pa_nil)) pa_nil)) (blkOk_by (own := [("k", 6)]) (N := ["draw", "many", "low", "worths", "weights", "worth", "k"]) (sc := d_law_box.sco) (by decide +kernel)) (fun _ _ _ _ _ => (pg_name (i := 6) scL_box.nd rfl (by first | exact Or.inl rfl | exact Or.inr rfl))) (fun _ _ _ _ _ => pts_nil) (fun _ _ _ _ _ => (pe_tup (pa_cons (pe_ix (show IxR _ (rIx K) from ix_seq) (pv 3) (pv 6) (fun _ _ => rfl)) (pa_cons (pe_fn Fr hr rfl (pa_cons (pe_ix (show IxR _ (rIx K) from ix_seq) (pv 4) (pv 6) (fun _ _ => rfl)) (pa_cons (pe_callB (show CallR _ _ (rSum K) from cr_sum rfl) rfl T.sum WkB.b_sum (pa_cons (pv 4) pa_nil)) pa_nil))) pa_nil))))) pa_nil)))))), ?_⟩)
  refine body_Dr h fun F n q b cnt up L hp hc => ?_
  obtain ⟨many, low⟩ := q
  obtain ⟨m1, m5, rfl⟩ := hp
  have m1 : 1 ≤ many := m1
  have m5 : many ≤ 5 := m5
  have hc : cnt n + 4 * many ≤ 100000 := hc
  try dsimp only [cxOf, Cx.nox, Cx.wish, encMB]
  walk_at "gd"
  refine w_lcR1 ?_ (sets_name (by decide))
  walk_at "gd"
  refine ⟨_, rfl, by omega, by omega, by omega, ?_⟩
  rw [Int.toNat_natCast]
  refine ⟨fun i acc m => ∃ rs : List Rat, acc = rs.map frD ∧ rs.length = i ∧ (∀ r ∈ rs, In 6 64 r) ∧ m = upN up (2 * i) n, ⟨[], rfl, rfl, (fun _ h => by cases h), rfl⟩, fun D ys i d acc m nD hi hl hI => ?_, fun acc m hI hl => ?_⟩
  · obtain ⟨rs, rfl, hrl, hin, rfl⟩ := hI
    have li : i < many := by
      have := (List.getElem?_eq_some_iff.mp hi).1
      rwa [intsD_length] at this
    have hcnt := upN_cnt L (2 * i) n
    walk_at "gd"
    refine ⟨fun _ => ?_, (fun z => nomatch z)⟩
    walk_at "gd"
    refine c_take (L.hide nD) (many := 15) (by rw [hcnt]; omega) (by decide) (by decide) fun r r0 r1 => ?_
    walk_at "gd"
    have hcnt2 : cnt (up (upN up (2 * i) n)) = cnt n + (2 * i + 1) := upN_cnt L (2 * i + 1) n
    refine c_take (L.hide nD) (many := 3) (by rw [hcnt2]; omega) (by decide) (by decide) fun t t0 t1 => ?_
    walk_at "gd"
    have t0' : (0 : Int) < 1 + t := by omega
    refine c_fn (enc := twoI) (r + -4, 1 + t) ⟨t0', Nat.lt_of_lt_of_le (show _ < 2 ^ 10 by show (r + -4).natAbs < 1024; omega) (Nat.pow_le_pow_right (by decide) (by decide)), Nat.lt_of_lt_of_le (show _ < 2 ^ 10 by show (1 + t).natAbs < 1024; omega) (Nat.pow_le_pow_right (by decide) (by decide))⟩ ?_
    refine ⟨_, rfl, rs ++ [Rat.divInt (r + -4) (1 + t)], by rw [List.map_append]; rfl, by rw [List.length_append, hrl]; rfl, fun x hx => ?_, ?_⟩
    · rcases List.mem_append.mp hx with h | h
      · exact hin x h
      · obtain rfl : x = Rat.divInt (r + -4) (1 + t) := by simpa using h
        exact draw_in r0 r1 t0 t1
    · show up (up (upN up (2 * i) n)) = upN up (2 * (i + 1)) n
      rfl
  · obtain ⟨rs, rfl, hrl, hin, rfl⟩ := hI
    rw [intsD_length] at hrl
    walk_at "gd"
    refine c_fn (enc := listR) rs ⟨by omega, fun r hr => (hin r hr).bits (by decide +kernel) (by decide +kernel)⟩ ?_
    obtain ⟨al, am, ap⟩ := lawAsc_spec rs
    have al1 : 1 ≤ (lawAsc rs).length := by
      cases rs with
      | nil => simp at hrl; omega
      | cons r rs =>
        have := (am r).mpr (List.mem_cons_self ..)
        exact List.length_pos_of_mem this
    have ain : ∀ r ∈ lawAsc rs, In 6 64 r := fun r hr => hin r ((am r).mp hr)
    generalize lawAsc rs = as at al al1 am ap ain ⊢
    walk_at "gd"
    refine w_lcL ?_ (sets_name (by decide))
    walk_at "gd"
    refine ⟨_, rfl, by rw [List.length_map]; omega, ?_⟩
    refine ⟨fun i acc m => ∃ ws : List Nat, acc = ws.map (fun k => PyData.int ((k : Nat) : Int)) ∧ ws.length = i ∧ (∀ k ∈ ws, 1 ≤ k ∧ k ≤ 1000000000) ∧ m = upN up (2 * i + 2 * many) n, ⟨[], rfl, rfl, (fun _ h => by cases h), by rw [intsD_length, Nat.mul_zero, Nat.zero_add]⟩, fun D ys i d acc m nD hi hl hI => ?_, fun acc m hI hl => ?_⟩
    · obtain ⟨ws, rfl, hwl, hw, rfl⟩ := hI
      have li : i < as.length := by
        have := (List.getElem?_eq_some_iff.mp hi).1
        rwa [List.length_map] at this
      have hcnt := upN_cnt L (2 * i + 2 * many) n
      walk_at "gd"
      refine ⟨fun _ => ?_, (fun z => nomatch z)⟩
      walk_at "gd"
      refine r_I ?hp ?_
      case hp => exact ⟨by decide, by decide, by decide⟩
      walk_at "gd"
      refine c_take (L.hide nD) (many := 3) (by rw [hcnt]; omega) (by decide) (by decide) fun r r0 r1 => ?_
      have hcnt2 : cnt (up (upN up (2 * i + 2 * many) n)) = cnt n + (2 * i + 2 * many + 1) := upN_cnt L (2 * i + 2 * many + 1) n
      obtain ⟨M, hM, M1, M2⟩ : ∃ M : Int, atI [PyData.int 4, .int 4, .int 1000000000] r = some (.int M) ∧ 1 ≤ M ∧ M ≤ 1000000000 := by
        have : r = 0 ∨ r = 1 ∨ r = 2 := by omega
        rcases this with rfl | rfl | rfl
        · exact ⟨4, rfl, by decide, by decide⟩
        · exact ⟨4, rfl, by decide, by decide⟩
        · exact ⟨1000000000, rfl, by decide, by decide⟩
      refine r_ixl hM ?_
      walk_at "gd"
      refine c_take (L.hide nD) (many := M) (by rw [hcnt2]; omega) M1 (by omega) fun t t0 t1 => ?_
      walk_at "gd"
      refine ⟨_, rfl, ws ++ [(1 + t).toNat], ?_, by rw [List.length_append, hwl]; rfl, fun x hx => ?_, ?_⟩
      · rw [List.map_append]
        show _ ++ [PyData.int (1 + t)] = _ ++ [PyData.int (((1 + t).toNat : Nat) : Int)]
        have : (((1 + t).toNat : Nat) : Int) = 1 + t := by omega
        rw [this]
      · rcases List.mem_append.mp hx with h | h
        · exact hw x h
        · obtain rfl : x = (1 + t).toNat := by simpa using h
          omega
      · show up (up (upN up (2 * i + 2 * many) n)) = upN up (2 * (i + 1) + 2 * many) n
        have : 2 * (i + 1) + 2 * many = 2 * i + 2 * many + 2 := by omega
        rw [this]
        rfl
    · obtain ⟨ws, rfl, hwl, hw, rfl⟩ := hI
      rw [List.length_map] at hwl hl
      walk_at "gd"
      refine w_lcR1 ?_ (sets_name (by decide))
      walk_at "gd"
      refine c_len (.inl rfl) ?_
      walk_at "gd"
      rw [List.length_map]
      refine ⟨_, rfl, by omega, by omega, by omega, ?_⟩
      rw [Int.toNat_natCast]
      have lb := LB.on (rs := as) (ws := ws) hwl.symm al1 (by omega) hw ap ain
      have hS := LB.ws_pos (rs := as) (ws := ws) hwl.symm al1 hw
      have hS2 : wsum ws ≤ 5 * 1000000000 := Nat.le_trans (wsum_le fun k hk => (hw k hk).2) (Nat.mul_le_mul (by omega) (Nat.le_refl _))
      refine made_range (out := fun i => rowD (as.getD i 0, Rat.divInt ((ws.getD i 0 : Nat) : Int) (wsum ws : Int))) (fun D ys i hi => ?_) ?_
      · rw [Int.zero_add]
        have e1 : as[i]? = some (as.getD i 0) := by rw [List.getD_eq_getElem?_getD, List.getElem?_eq_getElem hi]; rfl
        have e2 : ws[i]? = some (ws.getD i 0) := by rw [List.getD_eq_getElem?_getD, List.getElem?_eq_getElem (by omega)]; rfl
        have hk := hw _ (List.mem_of_getElem? e2)
        walk_at "gd"
        refine r_ixl (atI_map e1) ?_
        walk_at "gd"
        refine r_ixl (atI_map (f := fun k => PyData.int ((k : Nat) : Int)) e2) ?_
        walk_at "gd"
        have em : ws.map (fun k => PyData.int ((k : Nat) : Int)) = (ws.map fun k => ((k : Nat) : Int)).map .int := by rw [List.map_map]; rfl
        rw [em]
        refine c_sum ?_
        rw [ints_sum]
        walk_at "gd"
        refine c_fn (enc := twoI) ((ws.getD i 0 : Nat), (wsum ws : Nat)) ⟨by show (0 : Int) < (wsum ws : Int); omega, Nat.lt_of_lt_of_le (show _ < 2 ^ 40 by show ((ws.getD i 0 : Nat) : Int).natAbs < _; rw [Int.natAbs_natCast]; omega) (Nat.pow_le_pow_right (by decide) (by decide)), Nat.lt_of_lt_of_le (show _ < 2 ^ 40 by show ((wsum ws : Nat) : Int).natAbs < _; rw [Int.natAbs_natCast]; omega) (Nat.pow_le_pow_right (by decide) (by decide))⟩ ?_
        walk_at "gd"
        exact ⟨rfl, rfl⟩
      · have eb : (List.range as.length).map (fun i => rowD (as.getD i 0, Rat.divInt ((ws.getD i 0 : Nat) : Int) (wsum ws : Int))) = (boxOn (wsum ws) as ws).map rowD := by
          refine List.ext_getElem? fun i => ?_
          rw [List.getElem?_map, List.getElem?_map]
          unfold boxOn
          rw [List.getElem?_zipWith]
          by_cases hi : i < as.length
          · rw [List.getElem?_range hi]
            have e1 : as[i]? = some (as.getD i 0) := by rw [List.getD_eq_getElem?_getD, List.getElem?_eq_getElem hi]; rfl
            have e2 : ws[i]? = some (ws.getD i 0) := by rw [List.getD_eq_getElem?_getD, List.getElem?_eq_getElem (by omega)]; rfl
            rw [e1, e2]
            rfl
          · rw [List.getElem?_eq_none (by rw [List.length_range]; omega), List.getElem?_eq_none (show as.length ≤ i by omega)]
            rfl
        rw [eb]
        walk_at "gd"
        refine c_tupleOf ?_
        refine ⟨2 * as.length + 2 * many, _, by show _ ≤ 4 * many; omega, rfl, rfl, _, rfl, lb⟩
end
end K35
/-! Values that may be shown: their numbers small, their text not long; copies, empty dicts, tuples joined. -/
namespace WkD
open PySem PySem.Spec PyProof.Rows L2 WkH WkQ WkS WkF
mutual
/-- small numbers, no dict but the empty one -/
def nice : PyData → Bool
  | .int i => decide (i.natAbs < 2 ^ 100)
  | .list ds => nices ds
  | .tuple ds => nices ds
  | .dict kvs => kvs.isEmpty
  | _ => true
def nices : List PyData → Bool
  | [] => true
  | d :: ds => nice d && nices ds
end
mutual
/-- no less than the length of its text -/
def wt : PyData → Nat
  | .int _ => 32
  | .list ds => wts ds + 3
  | .tuple ds => wts ds + 3
  | d => d.shown.length
def wts : List PyData → Nat
  | [] => 0
  | d :: ds => wt d + 2 + wts ds
end
theorem int_text {i : Int} (h : i.natAbs < 2 ^ 100) : (PyData.shown (.int i)).length ≤ 32 := by
  simp only [PyData.shown]
  rw [PySem.ofString_length]
  exact int_text_length_le10 (k := 31) (by decide) (Nat.lt_trans h (by decide))
mutual
theorem shown_wt : ∀ {d : PyData}, nice d = true → d.shown.length ≤ wt d
  | .none, _ => Nat.le_refl _
  | .bool b, _ => Nat.le_refl _
  | .str x, _ => Nat.le_refl _
  | .dict kvs, _ => Nat.le_refl _
  | .int i, h => int_text (by simpa [nice] using h)
  | .list ds, h => by
    have ih := shown_wts (ds := ds) (by simpa [nice] using h)
    have l := listText_len_le (PyData.shownAll ds)
    simp only [PyData.shown, wt]
    omega
  | .tuple ds, h => by
    have ih := shown_wts (ds := ds) (by simpa [nice] using h)
    have l := tupleText_len_le (PyData.shownAll ds)
    simp only [PyData.shown, wt]
    omega
theorem shown_wts : ∀ {ds : List PyData}, nices ds = true → ((PyData.shownAll ds).map (·.length)).sum + 2 * (PyData.shownAll ds).length ≤ wts ds
  | [], _ => Nat.le_refl _
  | d :: ds, h => by
    have h' : nice d = true ∧ nices ds = true := by simpa [nices] using h
    have i1 := shown_wt h'.1
    have i2 := shown_wts h'.2
    simp only [PyData.shownAll, wts, List.map_cons, List.sum_cons, List.length_cons]
    omega
end
theorem log_small {k : Nat} (h : k < 2 ^ 100) : k.log2 < 1920 := by
  by_cases z : k = 0
  · subst z
    decide
  · exact Nat.lt_of_lt_of_le ((Nat.log2_lt z).mpr h) (by decide)
mutual
theorem nice_show : ∀ {d : PyData}, nice d = true → d.showable = true
  | .none, _ => rfl
  | .bool b, _ => rfl
  | .str x, _ => rfl
  | .dict [], _ => rfl
  | .dict (_ :: _), h => by simp [nice] at h
  | .int i, h => decide_eq_true (log_small (by simpa [nice] using h))
  | .list ds, h => nices_show (ds := ds) (by simpa [nice] using h)
  | .tuple ds, h => nices_show (ds := ds) (by simpa [nice] using h)
theorem nices_show : ∀ {ds : List PyData}, nices ds = true → PyData.showableAll ds = true
  | [], _ => rfl
  | d :: ds, h => by
    have h' : nice d = true ∧ nices ds = true := by simpa [nices] using h
    have i1 := nice_show h'.1
    have i2 := nices_show h'.2
    simp [PyData.showableAll, i1, i2]
end
mutual
theorem nice_small : ∀ {d : PyData}, nice d = true → small d = true
  | .none, _ => rfl
  | .bool b, _ => rfl
  | .str x, _ => rfl
  | .dict _, _ => rfl
  | .int i, h => h
  | .list ds, h => nices_small (ds := ds) (by simpa [nice] using h)
  | .tuple ds, h => nices_small (ds := ds) (by simpa [nice] using h)
theorem nices_small : ∀ {ds : List PyData}, nices ds = true → smalls ds = true
  | [], _ => rfl
  | d :: ds, h => by
    have h' : nice d = true ∧ nices ds = true := by simpa [nices] using h
    have i1 := nice_small h'.1
    have i2 := nices_small h'.2
    simp [smalls, i1, i2]
end
theorem nices_of : ∀ {ds : List PyData}, (∀ d ∈ ds, nice d = true) → nices ds = true
  | [], _ => rfl
  | d :: ds, h => by
    have h1 := h d (List.mem_cons_self ..)
    have h2 := nices_of (ds := ds) fun x hx => h x (List.mem_cons_of_mem _ hx)
    simp [nices, h1, h2]
theorem nices_mem : ∀ {ds : List PyData} {d : PyData}, nices ds = true → d ∈ ds → nice d = true
  | e :: ds, d, h, m => by
    have h' : nice e = true ∧ nices ds = true := by simpa [nices] using h
    rcases List.mem_cons.mp m with rfl | m
    · exact h'.1
    · exact nices_mem h'.2 m
theorem wts_of {M : Nat} : ∀ {ds : List PyData}, (∀ d ∈ ds, wt d ≤ M) → wts ds ≤ ds.length * (M + 2)
  | [], _ => Nat.zero_le _
  | d :: ds, h => by
    have h1 := h d (List.mem_cons_self ..)
    have h2 := wts_of (ds := ds) fun x hx => h x (List.mem_cons_of_mem _ hx)
    rw [List.length_cons, Nat.succ_mul]
    simp only [wts]
    omega
theorem wts_append : ∀ {ds es : List PyData}, wts (ds ++ es) = wts ds + wts es
  | [], es => by simp [wts]
  | d :: ds, es => by
    have := wts_append (ds := ds) (es := es)
    simp only [List.cons_append, wts]
    omega
theorem depthAll_of {M : Nat} : ∀ {ds : List PyData}, (∀ d ∈ ds, PyData.depth d ≤ M) → PyData.depthAll ds ≤ M
  | [], _ => Nat.zero_le _
  | d :: ds, h => by
    have h1 := h d (List.mem_cons_self ..)
    have h2 := depthAll_of (ds := ds) fun x hx => h x (List.mem_cons_of_mem _ hx)
    simp only [PyData.depthAll]
    omega
theorem depthAll_mem {M : Nat} : ∀ {ds : List PyData} {d : PyData}, PyData.depthAll ds ≤ M → d ∈ ds → PyData.depth d ≤ M
  | e :: ds, d, h, m => by
    simp only [PyData.depthAll] at h
    rcases List.mem_cons.mp m with rfl | m
    · omega
    · exact depthAll_mem (ds := ds) (by omega) m
/-- a value that repr shows, whose list, if it is one, holds what stays as it is -/
structure Val (d : PyData) : Prop where
  n : nice d = true
  dp : PyData.depth d ≤ 10
  w : wt d ≤ 40000
  st : ∀ ds, d = .list ds → steadys ds = true
/-- Val by computing -/
def valB (d : PyData) : Bool := nice d && decide (PyData.depth d ≤ 10) && decide (wt d ≤ 40000) && match d with
  | .list ds => steadys ds
  | _ => true
theorem Val.of {d : PyData} (h : valB d = true) : Val d := by
  unfold valB at h
  simp only [Bool.and_eq_true, decide_eq_true_eq] at h
  obtain ⟨⟨⟨h1, h2⟩, h3⟩, h4⟩ := h
  refine ⟨h1, h2, h3, fun ds e => ?_⟩
  subst e
  exact h4
section
variable {S : Type} {F : Eff S} {K : PySem.W.Frag} {ρ : List Sl} {n : S} {Φ : Sl → S → Prop}
/-- list(e), a copy -/
theorem c_listOf {d : PyData} {ds : List PyData} (hd : d = .list ds ∨ d = .tuple ds) (q : Φ (.dat (.list ds)) n) : wC F K (fun xs H Q => ∃ p ys, xs = [V.ref p] ∧ (SqL K H p ys ∨ SqT K H p ys) ∧ ∀ l, H l = none → Q (V.ref l) (upd H l (.lst ys))) [.dat d] n Φ := fun vs H Q jn ra k => by
  cases ra with
  | cons r1 ra =>
    cases ra
    have fin : ∀ {xs : List V}, DqAll K (F.st H) xs ds → ∀ l, H l = none → Q (V.ref l) (upd H l (.lst xs)) := fun {xs} ha l hl => by
      have s2 := same_upd (o := .lst xs) hl
      exact k _ _ _ n q (Eff.keep s2 jn) (Eff.mono s2) (.lst (Eff.new jn hl) (ha.mono (Eff.mono s2)))
    rcases hd with rfl | rfl
    · cases r1 with
      | @lst a xs _ hs ha => exact ⟨_, _, rfl, .inl (SqL.of (Eff.sub _ _ hs)), fin ha⟩
    · cases r1 with
      | @tup a xs _ hs ha => exact ⟨_, _, rfl, .inr (SqT.mono Eff.sub hs), fin ha⟩
/-- {} -/
theorem w_dnewD (q : Φ (.dat (.dict [])) n) : wE F K tDNewK ρ n Φ := fun σ H Q j rp k p hp => by
  have s2 := same_upd (o := .dK []) hp
  exact k _ _ _ n q (Eff.keep s2 j) (Eff.mono s2) (.dic (kvs := []) (Eff.new j hp) rfl .nil)
/-- t + u -/
theorem r_catT {ds es : List PyData} (hl : ds.length + es.length ≤ 100000) (q : Φ (.dat (.tuple (ds ++ es))) n) : wR F K (rCatA K) (.dat (.tuple ds)) (.dat (.tuple es)) n Φ := fun x y H Q jn rx ry k => by
  cases rx with
  | @tup a xs _ hs ha =>
    cases ry with
    | @tup b ys _ hs' ha' =>
      refine ⟨a, b, xs, ys, rfl, rfl, SqT.mono Eff.sub hs, SqT.mono Eff.sub hs', sz _ (by rw [ha.length, ha'.length]; exact hl), fun z => ?_, fun z1 z2 => ?_, fun z1 z2 p hp => ?_⟩
      · subst z
        cases ha
        exact k _ H _ n q jn (Same.refl _) (.tup hs' ha')
      · subst z2
        cases ha'
        rw [List.append_nil] at q
        exact k _ H _ n q jn (Same.refl _) (.tup hs ha)
      · have s2 := same_upd (o := .tup (xs ++ ys)) hp
        exact k _ _ _ n q (Eff.keep s2 jn) (Eff.mono s2) (.tup (.inl (.inl (Eff.new jn hp))) ((ha.append ha').mono (Eff.mono s2)))
end
end WkD
/-! the steps over data that need no thought -/
local macro_rules | `(tactic| walk_at "gd") => `(tactic| repeat (first
  | ((with_reducible refine' WkD.w_var ?hv ?hn ?_); (case hv => exact rfl); (case hn => exact (fun z => nomatch z)))
  | with_reducible refine WkD.w_int ?_ | with_reducible refine WkD.w_str ?_ | with_reducible refine WkD.w_non ?_ | with_reducible refine WkD.w_bl ?_
  | with_reducible refine WkD.w_chain ?_ | with_reducible refine WkD.w_tyc ?_ | ((with_reducible refine' WkD.c_isi ?hu ?_); (case hu => decide))
  | with_reducible refine WkD.w_op ?_ | with_reducible refine WkD.w_un ?_ | with_reducible refine WkD.w_nil ?_ | with_reducible refine WkD.w_cons ?_ | ((with_reducible refine' WkD.w_isi2 ?ha ?hb ?_); (case ha => decide); (case hb => decide)) | with_reducible refine WkD.w_CB ?_ | with_reducible refine WkD.w_call ?_
  | with_reducible refine WkD.w_if ?_ | with_reducible refine WkD.w_andV ?_ | with_reducible refine WkD.w_orV ?_ | with_reducible refine WkD.w_notV ?_ | with_reducible refine WkD.w_test ?_ | with_reducible refine WkD.w_tB ?_ | with_reducible refine WkD.w_not ?_
  | with_reducible refine WkD.w_and ?_ | with_reducible refine WkD.w_or ?_ | with_reducible refine WkD.w_yes ?_ | with_reducible refine WkD.w_next ?_ | with_reducible refine WkD.w_seq ?_ | with_reducible refine WkD.w_ret ?_ | with_reducible refine WkD.w_retN ?_
  | with_reducible refine WkD.w_drop ?_ | with_reducible refine WkD.w_ifS ?_ | with_reducible refine WkD.w_asg ?_ | with_reducible refine WkD.w_sl ?_ | with_reducible refine WkD.w_po0 ?_ | with_reducible refine WkD.w_po1 ?_ | with_reducible refine WkD.e_si ?_ | with_reducible refine WkD.l_A ?_ | with_reducible refine WkD.l_L ?_ | with_reducible refine WkD.w_cont ?_ | with_reducible refine WkD.w_break ?_ | with_reducible refine WkD.w_gt2 ?_ | with_reducible refine WkD.w_gt3 ?_ | with_reducible refine WkD.w_gcons ?_ | with_reducible refine WkD.w_gnil ?_ | with_reducible refine WkD.w_name ?_ | with_reducible refine WkD.w_par ?_
  | with_reducible refine WkD.r_I0i ?_ | with_reducible refine WkD.r_I0b ?_ | with_reducible refine WkD.u_U ?_ | with_reducible refine WkD.r_eqI ?_ | with_reducible refine WkD.r_neI ?_ | with_reducible refine WkD.r_eqS ?_ | with_reducible refine WkD.r_eqB ?_
  | ((with_reducible refine' WkD.r_ix ?hi ?_); (case hi => exact rfl)) | ((with_reducible refine' WkD.r_ixl ?hi ?_); (case hi => exact rfl))
  | ((with_reducible refine' WkD.r_ixT ?hi ?_); (case hi => exact rfl)) | ((with_reducible refine' WkD.r_ixL ?hi ?_); (case hi => exact rfl))
  | with_reducible refine WkD.c_gcd ?_ | with_reducible refine WkD.c_abs ?_ | with_reducible refine WkD.c_int ?_ | with_reducible refine WkD.e_bool ?_ | with_reducible refine WkD.w_tup ?_ | with_reducible refine WkD.w_lst ?_ | with_reducible refine WkD.e_ab ?_ | with_reducible refine WkD.d0 ?_ | with_reducible refine WkD.d1 ?_ | with_reducible refine WkD.d2 ?_ | with_reducible refine WkD.d3 ?_ | with_reducible refine WkD.d4 ?_))

namespace K35
open PySem PySem.Spec PyProof.Rows L2 WkH WkE WkQ WkS WkF WkD WkN WkC
section
variable {P : Program} {w : World} {K : PySem.W.Frag} {mg : Str → Option Value} {base : Heap}
/-- a value that is no box, and that may be shown -/
def NoBox (d : PyData) : Prop := isBox d = false ∧ Val d
def encB (b : List (Rat × Rat)) : List PyData := [boxD b]
abbrev spBadBox : Sp := spDr K encB LB (fun _ => 1) fun _ d => NoBox d
def badA (b : List (Rat × Rat)) (q0 : Rat × Rat) : List PyData :=
  [.none, .int 7, .dict [], .str (Str.ofString "box"), .tuple [], .list (b.map rowD), .tuple (b.map rowD ++ [.none]), .tuple [rowD q0, rowD q0],
    .tuple [.tuple [.tuple [.int 1, .int 2], .tuple [.int 1, .int 2]]], .tuple [.tuple [.tuple [.int 2, .int 4], .tuple [.int 1, .int 1]]],
    .tuple [.tuple [.tuple [.int 1, .int 1], .tuple [.int 0, .int 1]], .tuple [.tuple [.int 2, .int 1], .tuple [.int 1, .int 1]]], .tuple [.tuple [.tuple [.int 1, .int 1], .tuple [.int 1, .int 1], .int 0]]]
def badC (b : List (Rat × Rat)) : List PyData :=
  [.tuple [.tuple [.tuple [.int 2, .int 1], .tuple [.int 1, .int 2]], .tuple [.tuple [.int 1, .int 1], .tuple [.int 1, .int 2]]], .tuple [.tuple [.int 1, .tuple [.int 1, .int 1]]], .tuple [.tuple [.tuple [.int 1, .int 1], .int 1]],
    .tuple [.list [.tuple [.int 1, .int 1], .tuple [.int 1, .int 1]]], .tuple [.tuple [.tuple [.int 1, .int 1], .tuple [.int 3, .int 2]], .tuple [.tuple [.int 2, .int 1], .tuple [.int (-1), .int 2]]], .list [boxD b]]
theorem no_row {ds : List PyData} {x : PyData} (hx : x ∈ ds) (h : isRow x = false) : isBox (.tuple ds) = false := isBox_no fun b e hb => by
  injection e with e
  subst e
  obtain ⟨q, hq, rfl⟩ := List.mem_map.mp hx
  rw [isRow_of (hb.pos q hq)] at h
  cases h
theorem two_asc {p q : Rat × Rat} (h : ¬ p.1 < q.1) : isBox (.tuple [rowD p, rowD q]) = false := isBox_no fun b e hb => by
  have : b = [p, q] := boxD_inj e.symm
  subst this
  exact h (hb.up 0 p q rfl rfl)
theorem row_nice {b : List (Rat × Rat)} (hp : LB b) {q : Rat × Rat} (hq : q ∈ b) : nice (rowD q) = true ∧ PyData.depth (rowD q) = 2 ∧ wt (rowD q) = 149 := by
  obtain ⟨S, z⟩ := hp.ex
  have b1 : Bits 100 q.1 := (hp.w q hq).bits (by decide) (by decide)
  have b2 : Bits 100 q.2 := (z.c4 hq).mono (by decide)
  refine ⟨?_, rfl, rfl⟩
  have h1 := b1.n
  have h2 := b1.d
  have h3 := b2.n
  have h4 := b2.d
  simp [nice, nices, frD, h1, h2, h3, h4]
theorem rows_val {b : List (Rat × Rat)} (hp : LB b) : nices (b.map rowD) = true ∧ PyData.depthAll (b.map rowD) ≤ 2 ∧ wts (b.map rowD) ≤ 32 * 151 ∧ steadys (b.map rowD) = true := by
  have l2 := hp.box.l2
  have go : ∀ d ∈ b.map rowD, nice d = true ∧ PyData.depth d = 2 ∧ wt d = 149 := fun d hd => by
    obtain ⟨q, hq, rfl⟩ := List.mem_map.mp hd
    exact row_nice hp hq
  refine ⟨nices_of fun d hd => (go d hd).1, depthAll_of fun d hd => Nat.le_of_eq (go d hd).2.1, ?_, steadys_of fun d hd => ?_⟩
  · refine Nat.le_trans (wts_of (M := 149) fun d hd => Nat.le_of_eq (go d hd).2.2) ?_
    rw [List.length_map]
    exact Nat.mul_le_mul l2 (Nat.le_refl _)
  · obtain ⟨q, hq, rfl⟩ := List.mem_map.mp hd
    rfl
theorem bad_all {b' : List (Rat × Rat)} {q0 : Rat × Rat} (hp : LB (q0 :: b')) : ∀ d ∈ badA (q0 :: b') q0 ++ badC (q0 :: b'), NoBox d := by
  obtain ⟨n1, n2, n3, n4⟩ := rows_val hp
  obtain ⟨m1, m2, m3⟩ := row_nice hp (List.mem_cons_self ..)
  have no : ∀ {d : PyData}, (∀ b, d = boxD b → False) → isBox d = false := fun h => isBox_no fun b e _ => h b e
  have cons : ∀ {d : PyData} {ds : List PyData}, isBox d = false → valB d = true → (∀ x ∈ ds, NoBox x) → ∀ x ∈ d :: ds, NoBox x := fun h1 h2 h3 => List.forall_mem_cons.mpr ⟨⟨h1, Val.of h2⟩, h3⟩
  have consV : ∀ {d : PyData} {ds : List PyData}, isBox d = false → Val d → (∀ x ∈ ds, NoBox x) → ∀ x ∈ d :: ds, NoBox x := fun h1 h2 h3 => List.forall_mem_cons.mpr ⟨⟨h1, h2⟩, h3⟩
  have nil : ∀ x ∈ ([] : List PyData), NoBox x := fun _ h => by cases h
  refine List.forall_mem_append.mpr ⟨?_, ?_⟩
  · refine cons (no fun _ e => by cases e) (by decide +kernel) ?_
    refine cons (no fun _ e => by cases e) (by decide +kernel) ?_
    refine cons (no fun _ e => by cases e) (by decide +kernel) ?_
    refine cons (no fun _ e => by cases e) (by decide +kernel) ?_
    refine cons (isBox_no fun b e hb => ?_) (by decide +kernel) ?_
    · injection e with e
      have : b = [] := List.map_eq_nil_iff.mp e.symm
      subst this
      exact absurd hb.l1 (by decide)
    refine consV (no fun _ e => by cases e) ⟨n1, by show PyData.depthAll _ + 1 ≤ _; omega, by show wts _ + 3 ≤ _; omega, fun ds e => ?_⟩ ?_
    · injection e with e
      subst e
      exact n4
    refine consV (no_row (x := .none) (List.mem_append.mpr (.inr (List.mem_cons_self ..))) rfl) ⟨nices_of fun d hd => ?_, ?_, ?_, fun ds e => by cases e⟩ ?_
    · rcases List.mem_append.mp hd with h | h
      · exact nices_mem n1 h
      · obtain rfl : d = .none := by simpa using h
        rfl
    · show PyData.depthAll _ + 1 ≤ _
      have : PyData.depthAll ((q0 :: b').map rowD ++ [.none]) ≤ 2 := depthAll_of fun d hd => by
        rcases List.mem_append.mp hd with h | h
        · exact depthAll_mem n2 h
        · obtain rfl : d = .none := by simpa using h
          exact Nat.zero_le _
      omega
    · show wts _ + 3 ≤ _
      rw [wts_append]
      have : wts [PyData.none] = 6 := by decide +kernel
      omega
    refine consV (two_asc (Rat.lt_irrefl)) ⟨by show (nice (rowD q0) && (nice (rowD q0) && true)) = true; rw [m1]; rfl, ?_, ?_, fun ds e => by cases e⟩ ?_
    · show max _ (max _ _) + 1 ≤ _
      rw [m2]
      decide
    · show (wt (rowD q0) + 2 + (wt (rowD q0) + 2 + 0)) + 3 ≤ _
      rw [m3]
      decide
    refine cons (isBox_no fun b e hb => ?_) (by decide +kernel) ?_
    · have : b = [(⟨1, 2, by decide, by decide⟩, ⟨1, 2, by decide, by decide⟩)] := boxD_inj e.symm
      subst this
      exact absurd hb.one (by decide +kernel)
    refine cons (no_row (List.mem_cons_self ..) (by decide +kernel)) (by decide +kernel) ?_
    refine cons (no_row (List.mem_cons_self ..) (by decide +kernel)) (by decide +kernel) ?_
    exact cons (no_row (List.mem_cons_self ..) (by decide +kernel)) (by decide +kernel) nil
  · refine cons (two_asc (p := (⟨2, 1, by decide, by decide⟩, ⟨1, 2, by decide, by decide⟩)) (q := (⟨1, 1, by decide, by decide⟩, ⟨1, 2, by decide, by decide⟩)) (by decide +kernel)) (by decide +kernel) ?_
    refine cons (no_row (List.mem_cons_self ..) (by decide +kernel)) (by decide +kernel) ?_
    refine cons (no_row (List.mem_cons_self ..) (by decide +kernel)) (by decide +kernel) ?_
    refine cons (no_row (List.mem_cons_self ..) (by decide +kernel)) (by decide +kernel) ?_
    refine cons (no_row (x := .tuple [.tuple [.int 2, .int 1], .tuple [.int (-1), .int 2]]) (List.mem_cons_of_mem _ (List.mem_cons_self ..)) (by decide +kernel)) (by decide +kernel) ?_
    refine consV (no fun _ e => by cases e) ⟨?_, ?_, ?_, fun ds e => ?_⟩ nil
    · show (nices ((q0 :: b').map rowD) && true) = true
      rw [n1]
      rfl
    · show max (PyData.depthAll _ + 1) 0 + 1 ≤ _
      omega
    · show (wts _ + 3) + 2 + 0 + 3 ≤ _
      omega
    · injection e with e
      subst e
      simp only [steadys, steady, n4, Bool.and_self]
theorem scL_bad_box : FnScope ["draw", "one", "found"] ["draw", "one"] d_law_bad_box.sco := ⟨rfl, rfl, rfl, by decide +kernel, rfl, by decide +kernel, by decide +kernel⟩
theorem ok_lbad_box {fd : FuncData} (F : Stands K d_law_bad_box fd) (T : Bg K mg) (Ftk : Fn P w K mg base CX0 1 "_law_take" ["draw", "many"] WkD.spTake) :
    FnOk P w K mg base CX0 2 d_law_bad_box.adr fd ["draw", "one"] (spBadBox (K := K)) := by
  refine FunD.ok F scL_bad_box (fun vs H Q E h => len_Dr h fun _ => rfl) (fun cdv A outer s H vs Q E hr h => ⟨_, PSs.nox (pss_cons (ps_set (i := 2) scL_bad_box.nd rfl (by first | exact Or.inl rfl | exact Or.inr rfl) (pe_lst (pa_cons pe_non (pa_cons pe_int (pa_cons pe_dnewK (pa_cons pe_str (pa_cons (pe_tup pa_nil) (pa_cons (pe_callTy call_list_of rfl T.list WkB.b_list (pa_cons (pv 1) pa_nil)) (pa_cons (pe_op op_catA (pv 1) (pe_tup (pa_cons pe_non pa_nil))) (pa_cons (pe_tup (pa_cons (pe_ix (show IxR _ (rIx K) from ix_seq) (pv 1) pe_int (fun _ _ => rfl)) (pa_cons (pe_ix (show IxR _ (rIx K) from ix_seq) (pv 1) pe_int (fun _ _ => rfl)) pa_nil))) (pa_cons (pe_tup (pa_cons (pe_tup (pa_cons (pe_tup (pa_cons pe_int (pa_cons pe_int pa_nil))) (pa_cons (pe_tup (pa_cons pe_int (pa_cons pe_int pa_nil))) pa_nil))) pa_nil)) (pa_cons (pe_tup (pa_cons (pe_tup (pa_cons (pe_tup (pa_cons pe_int (pa_cons pe_int pa_nil))) (pa_cons (pe_tup (pa_cons pe_int (pa_cons pe_int pa_nil))) pa_nil))) pa_nil)) (pa_cons (pe_tup (pa_cons (pe_tup (pa_cons (pe_tup (pa_cons pe_int (pa_cons pe_int pa_nil))) (pa_cons (pe_tup (pa_cons pe_int (pa_cons pe_int pa_nil))) pa_nil))) (pa_cons (pe_tup (pa_cons (pe_tup (pa_cons pe_int (pa_cons pe_int pa_nil))) (pa_cons (pe_tup (pa_cons pe_int (pa_cons pe_int pa_nil))) pa_nil))) pa_nil))) (pa_cons (pe_tup (pa_cons (pe_tup (pa_cons (pe_tup (pa_cons pe_int (pa_cons pe_int pa_nil))) (pa_cons (pe_tup (pa_cons pe_int (pa_cons pe_int pa_nil))) (pa_cons pe_int pa_nil)))) pa_nil)) pa_nil))))))))))))))
  (pss_cons (ps_set (i := 2) scL_bad_box.nd rfl (by first | exact Or.inl rfl | exact Or.inr rfl) (pe_op op_cat (pv 2) (pe_lst (pa_cons (pe_tup (pa_cons (pe_tup (pa_cons (pe_tup (pa_cons pe_int (pa_cons pe_int pa_nil))) (pa_cons (pe_tup (pa_cons pe_int (pa_cons pe_int pa_nil))) pa_nil))) (pa_cons (pe_tup (pa_cons (pe_tup (pa_cons pe_int (pa_cons pe_int pa_nil))) (pa_cons (pe_tup (pa_cons pe_int (pa_cons pe_int pa_nil))) pa_nil))) pa_nil))) (pa_cons (pe_tup (pa_cons (pe_tup (pa_cons pe_int (pa_cons (pe_tup (pa_cons pe_int (pa_cons pe_int pa_nil))) pa_nil))) pa_nil)) (pa_cons (pe_tup (pa_cons (pe_tup (pa_cons (pe_tup (pa_cons pe_int (pa_cons pe_int pa_nil))) (pa_cons pe_int pa_nil))) pa_nil)) (pa_cons (pe_tup (pa_cons (pe_lst (pa_cons (pe_tup (pa_cons pe_int (pa_cons pe_int pa_nil))) (pa_cons (pe_tup (pa_cons pe_int (pa_cons pe_int pa_nil))) pa_nil))) pa_nil)) (pa_cons (pe_tup (pa_cons (pe_tup (pa_cons (pe_tup (pa_cons pe_int (pa_cons pe_int pa_nil))) (pa_cons (pe_tup (pa_cons pe_int (pa_cons pe_int pa_nil))) pa_nil))) (pa_cons (pe_tup (pa_cons (pe_tup (pa_cons pe_int (pa_cons pe_int pa_nil))) (pa_cons (pe_tup (pa_cons (pe_un un_neg pe_int) (pa_cons pe_int pa_nil))) pa_nil))) pa_nil))) (pa_cons (pe_lst (pa_cons (pv 1) pa_nil)) pa_nil)))))))))
  (pss_one (ps_ret (pe_ix (show IxR _ (rIx K) from ix_seq) (pv 2) (pe_fn Ftk hr rfl (pa_cons (pv 0) (pa_cons (pe_callB call_len_seq rfl T.len WkB.b_len (pa_cons (pv 2) pa_nil)) pa_nil))) (fun _ _ => rfl)))))), ?_⟩)
  refine body_Dr h fun F n b a cnt up L hp hc => ?_
  have hp : LB b := hp
  have hc : cnt n + 1 ≤ 100000 := hc
  try dsimp only [cxOf, Cx.nox, Cx.wish, encB]
  walk_at "gd"
  obtain ⟨q0, b', rfl⟩ : ∃ q0 b', b = q0 :: b' := by
    cases b with
    | nil => exact absurd hp.box.l1 (by decide)
    | cons q0 b' => exact ⟨q0, b', rfl⟩
  have l2 := hp.box.l2
  refine w_dnewD ?_
  walk_at "gd"
  refine c_listOf (.inr rfl) ?_
  walk_at "gd"
  refine r_catT (by show ((q0 :: b').map rowD).length + 1 ≤ _; rw [List.length_map]; omega) ?_
  walk_at "gd"
  refine r_ix (atI_map (i := 0) (xs := q0 :: b') (f := rowD) (x := q0) rfl) ?_
  walk_at "gd"
  refine r_ix (atI_map (i := 0) (xs := q0 :: b') (f := rowD) (x := q0) rfl) ?_
  walk_at "gd"
  refine ⟨badA (q0 :: b') q0, rfl, (show 12 ≤ 100000 by decide), ?_⟩
  walk_at "gd"
  refine ⟨badC (q0 :: b'), rfl, (show 6 ≤ 100000 by decide), ?_⟩
  refine r_cat (show 12 + 6 ≤ 100000 by decide) ?_
  walk_at "gd"
  refine c_len (.inl rfl) ?_
  walk_at "gd"
  refine c_take L (many := 18) (by omega) (by decide) (by decide) fun r r0 r1 => ?_
  have hr : r.toNat < (badA (q0 :: b') q0 ++ badC (q0 :: b')).length := by
    show r.toNat < 18
    omega
  have e1 := List.getElem?_eq_getElem hr
  have er : r = ((r.toNat : Nat) : Int) := by omega
  rw [er]
  refine r_ixl (atI_nat e1) ?_
  exact ⟨1, _, Nat.le_refl _, rfl, rfl, bad_all hp _ (List.getElem_mem hr)⟩
end
end K35
/-! try with several clauses `except C as n`, one of which takes whatever the body lets out; calls by keywords alone. -/
namespace WkT
open PySem PySem.Spec PyProof.Rows L2 WkH
/-- a clause: its class, the slot of its name, its suite -/
structure Cl where
  c : Value
  i : Nat
  ts : Addr → Value → Option Addr → TS
/-- the ways out of a suite: its name is gone -/
def offE (D : Ends) (i : Nat) : Ends where
  nx := fun σ H => D.nx (σ.set i none) H
  rt := D.rt
  bk := fun σ H => D.bk (σ.set i none) H
  ct := fun σ H => D.ct (σ.set i none) H
/-- what the clauses wish of an exception -/
def wCls (K : PySem.W.Frag) (D : Ends) : List Cl → WX
  | [] => fun _ _ _ _ => False
  | k :: r => fun cls d σ H => ∃ b, PySem.W.exmOne K cls k.c = some b ∧ (b = true → ∀ a, H a = none → k.ts a cls d (offE D k.i) (σ.set k.i (some (.ref a))) H) ∧ (b = false → wCls K D r cls d σ H)
inductive ClsOk (X : Cx) : List ExceptHandler → List Cl → Prop
  | nil : ClsOk X [] []
  | cons {x n : Str} {c : Value} {i : Nat} {ts : Addr → Value → Option Addr → TS} {b₁ : Stmt} {bs : List Stmt} {p1 p2 : Pos} {hds : List ExceptHandler} {l : List Cl} (hi : X.N[i]? = some n) (hl : X.env.kindOf n = some .local) (hc : Names X x c)
      (hb : ∀ (a : Addr) (oe : Obj) (cls : Value) (d : Option Addr) (pn : List (Addr × Obj)), Zc cls d oe → (∃ vs, oe.data = .fields vs) → PSs (X.suite a ((a, oe) :: pn)) (b₁ :: bs) (ts a cls d)) (r : ClsOk X hds l) :
      ClsOk X (.ExceptHandler (some (.Name x p1)) (some n) (b₁ :: bs) p2 :: hds) (⟨c, i, ts⟩ :: l)
section
variable {X : Cx} {bd : List Stmt} {hd : ExceptHandler} {hds : List ExceptHandler} {l : List Cl} {pos : Pos} {tb : WX → TS}
theorem not_frame {B h : Heap} {l : List Env} {a : Addr} {o : Obj} {vs : Array Value} (ff : h.FunFrames B l) (e : h.get? a = some o) (dd : o.data = .fields vs) : a ∉ frs l := fun hm => by
  obtain ⟨_, u, e', no⟩ := ff.mem hm
  cases e.symm.trans e'
  exact no _ dd
/-- the clauses, asked one after the other -/
theorem asked_ok {D : Ends} {pins : List (Addr × Obj)} {σ : L2.St} {H : Hp} {B : Heap} {a : Addr} {oe : Obj} {vs : Array Value} {cls : Value} {d : Option Addr} {s0 sI : Shared} {h3 : Heap} (hs : X.stack = X.env :: X.outer) (hf : X.env.frame = some X.env.locals) (hN : X.N.Nodup) (ok : X.Ok)
    (J : Inv X pins σ H sI) (nb : ∀ b o, sI.heap.get? b = some o → b ∉ frs X.stack → B.get? b = some o) (up3 : sI.heap.UpToSlots h3) (os : s0.os = sI.os) (ag : AllBare s0.gens) (fly : HandSPX.FlyingZ B (X.env :: X.outer) a (Zc cls d) h3)
    (he : h3.get? a = some oe) (hz : Zc cls d oe) (hd : oe.data = .fields vs) (na : H a = none) (nL : a ≠ X.env.locals) (nF : a ∉ X.fs) (ok' : ClsOk X hds l) (wish : wCls X.K D l cls d σ H) :
    wpAny (model X.prog X.w) X.A (handleBy (.ref a) X.env hds) (SP X pins D) X.xe { s0 with heap := h3 } := by
  have J3 : Inv X pins σ H { s0 with heap := h3 } := J.landed nb fly.1 up3 os ag
  have S3 := J3.suite he hd na nL nF
  induction ok' with
  | nil => exact wish.elim
  | @cons x n c i ts b₁ bs p1 p2 hds l hi hl hc hb _ ih =>
    obtain ⟨b, eb, yes, no⟩ := wish
    refine wpAny_handleBy_cons (codeAny_handlers_test ?_) (fun z => nomatch z)
    have look : PySem.W.Looks (model X.prog X.w) h3 (typeOf (.ref a)) cls := fun A' Q' E' s' kk qq => wpAny_typeOf_ref (kk _ _ he) (by rw [hz.1]; exact qq)
    have tells := PySem.W.exm_one (M := model X.prog X.w) J3.kIn look eb
    have named : ∀ {Q' : Value → Shared → Prop} {E' : Value → Shared → Prop}, Q' c { s0 with heap := h3 } → wpAny (model X.prog X.w) (X.A.mark (some (.ref a))) (eval (.Name x p1) X.env) Q' E' { s0 with heap := h3 } := by
      intro Q' E' qq
      obtain ⟨g1, g2, g3 | ⟨g3, g4, g5⟩⟩ := hc
      · exact ld_glob (X := X.suite a ((a, oe) :: (X.pn ++ pins))) S3 g1 g3 qq g2
      · exact ld_blt (X := X.suite a ((a, oe) :: (X.pn ++ pins))) S3 g1 g3 g4 qq g5 g2
    refine named (tells.here ?_)
    match b, yes, no with
    | false, _, no => exact ih (no rfl)
    | true, yes, _ =>
      refine codeAny_handlers_suite_as (HandSPX.lands_againZ fly fun h4 fly4 up4 => ?_)
      have J4 : Inv X pins σ H { s0 with heap := h4 } := J.landed nb fly4.1 (up3.trans up4) os ag
      obtain ⟨o4, v4, he4, hz4, hd4⟩ := fly4.there
      have S4 := J4.suite he4 hd4 na nL nF
      refine store_ok (X := X.suite a ((a, o4) :: (X.pn ++ pins))) (v := .ref a) S4 hN hi (.inl hl) rfl (fun s5 S5 => ?_) (.inr hl)
      refine wpAny_mono ((hb a o4 cls d (X.pn ++ pins) hz4 ⟨_, hd4⟩).run [] s5 _ H _ S5 (yes rfl a na)) (fun f s6 out => ?_) (fun _ _ z => z.elim)
      have off : ∀ {σ6 : L2.St} {H6 : Hp} {R : Shared → Prop}, Inv (X.suite a ((a, o4) :: (X.pn ++ pins))) [] σ6 H6 s6 → (∀ s7, Inv X pins (σ6.set i none) H6 s7 → R s7) →
          wpAny (model X.prog X.w) X.A (do bindName X.env n .none; unbindBehindTheSuite X.env n p2) (fun _ s7 => R s7) X.xe s6 := fun {_ _ _} S6 rest => gone_ok (S6.unsuite ok) hN hi hl rest
      match f, out with
      | .next, ⟨_, _, S6, q6⟩ => exact off S6 fun s7 J7 => ⟨_, _, J7, q6⟩
      | .brk, ⟨_, _, S6, q6⟩ => exact off S6 fun s7 J7 => ⟨_, _, J7, q6⟩
      | .cont, ⟨_, _, S6, q6⟩ => exact off S6 fun s7 J7 => ⟨_, _, J7, q6⟩
      | .ret u, ⟨_, _, _, S6, r6, q6⟩ => exact off S6 fun s7 J7 => ⟨_, _, _, J7, r6, q6⟩
theorem ps_try_cls (hs : X.stack = X.env :: X.outer) (hf : X.env.frame = some X.env.locals) (hN : X.N.Nodup)
    (hb : ∀ (W : WX) (pn : List (Addr × Obj)) (xe : Value → Shared → Prop), Takes (X.tr pn xe) W → PassesOwn (model X.prog X.w) X.A X.env xe → PSs (X.tr pn xe) bd (tb W)) (ok' : ClsOk X (hd :: hds) l) :
    PS X (.Try bd (hd :: hds) [] [] pos) (fun D σ H => tb (wCls X.K D l) D σ H) := by
  refine ⟨fun pins s σ H D I want => ?_⟩
  have ok := I.ok
  have fr : X.A.frames = some (X.env :: X.outer) := ok.frames.trans (congrArg some hs)
  let catch_ : Value → Shared → Prop := fun e s₁ => wpAny (model X.prog X.w) X.A (noteFrame e X.env) (fun _ s₂ => wpAny (model X.prog X.w) X.A (setFlight e none) (fun _ s₃ => wpAny (model X.prog X.w) X.A (handleBy e X.env (hd :: hds)) (SP X pins D) X.xe s₃) X.xe s₂) X.xe s₁
  have takes : Takes (X.tr (X.pn ++ pins) catch_) (wCls X.K D l) := fun u s' xx => by
    obtain ⟨a, B, sI, pins', σ', H', cls, d, rfl, J', nb, up, sky, na, os, ag, wish⟩ := xx
    have J : Inv X pins σ' H' sI := J'.ofTry ok
    have sky' : Sky B (X.env :: X.outer) a (Zc cls d) X.env.locals s'.heap := hs ▸ sky
    show wpAny (model X.prog X.w) X.A (noteFrame (.ref a) X.env) _ _ _
    refine Sky.land Zc.steady fr hf sky' fun h3 fly up3 => ?_
    obtain ⟨oe, vs, he, hz, hd'⟩ := fly.there
    have nfr := not_frame fly.2.2.1 he hd'
    have nL : a ≠ X.env.locals := fun z => nfr (List.mem_filterMap.mpr ⟨X.env, List.mem_cons_self, by rw [hf, z]⟩)
    have nF : a ∉ X.fs := fun hm => by
      obtain ⟨e, h1, h2⟩ := List.mem_filterMap.mp hm
      exact nfr (List.mem_filterMap.mpr ⟨e, List.mem_cons_of_mem _ h1, h2⟩)
    exact asked_ok hs hf hN ok J nb (up.trans up3) os ag fly he hz hd' na nL nF ok' wish
  refine wpAny_Try_except (wpAny_mono ((hb (wCls X.K D l) (X.pn ++ pins) catch_ takes PassesOwn.looking).run [] s σ H D (I.toTry _) want) (fun f s1 out => ?_) (fun _ _ z => z))
  match f, out with
  | .next, ⟨σ', H', J', q⟩ => exact wpAny_execs_nil ⟨σ', H', J'.ofTry ok, q⟩
  | .brk, ⟨σ', H', J', q⟩ => exact ⟨σ', H', J'.ofTry ok, q⟩
  | .cont, ⟨σ', H', J', q⟩ => exact ⟨σ', H', J'.ofTry ok, q⟩
  | .ret u, ⟨v, σ', H', J', r, q⟩ => exact ⟨v, σ', H', J'.ofTry ok, r, q⟩
end
/-! ### calls by keywords alone, whose exceptions are wished for at the slots -/
section
variable {X : Cx} {CX : CXT} {k : Nat} {f : Addr} {fd : FuncData} {ps ks : List Str} {sp : Sp} {E : L2.St → XK} {x : Str} {p pos : Pos} {kws : List Keyword} {tk : TA} {g : List Value → List Value → List Value} {gV : List V → List V → List V}
def tCallKS (sp : Sp) (gV : List V → List V → List V) (E : L2.St → XK) (tk : TA) : TE := fun σ H Q => tk σ H fun zs H1 => sp (gV [] zs) H1 Q (E σ)
theorem pe_callKS (F : FnOk X.prog X.w X.K X.mg X.base CX k f fd ps sp) (hr : Room k X.A) (hg : Gl X x) (hm : X.mg x = some (.ref f)) (hk : PySem.W.keepIn X.K (.ref f) = true) (hb : KBinds X.K fd ps ks g gV) (hx : ∀ σ, PassesAt CX X σ (E σ)) (hkw : PK X kws tk)
    (hall : (backToKw pos (keywordEach kws X.env)).all (·.1.isSome) = true := by rfl) (hks : (backToKw pos (keywordEach kws X.env)).filterMap (·.1) = ks := by rfl) (hdb : (x == ("__debug__" : Str)) = false := by decide)
    (hpl : ((backTo pos (starEach [] X.env)).any (·.1) || (backToKw pos (keywordEach kws X.env)).any (·.1.isNone)) = false := by rfl) : PE X (.Call (.Name x p) [] kws pos) (tCallKS sp gV E tk) := by
  refine ⟨fun pins s σ H Q I h => ?_⟩
  refine wpAny_Call_Name_kw (ld_glob I hg hm ?_ hdb)
  refine PySem.W.callWith_KW0 (h₀ := X.base) I.ok.mod.kin hk hall (thn (hkw.run pos pins s σ H _ I h) fun ws s2 ⟨zs, H2, I2, rz, q⟩ => ⟨I2.kIn, ?_⟩) hpl
  rw [hks]
  have r2 := hb.rel (vs := []) (us := []) .nil rz
  have len : (g [] ws).length = ps.length := r2.length.symm.trans (F.len _ _ _ _ q)
  refine wpAny_call (codeAny_mono (F.run X.A X.stack s2 H2 ⟨[], ks.zip ws⟩ (g [] ws) (gV [] zs) Q (E σ) hr I2.env0 (hb.to s2 [] ws I2.kIn len) r2 q) fun r s' out => ?_)
  match r, out with
  | .error e, out => exact hx σ pins H2 s2 e s' I2 out
  | .ok (.ret u), out => exact I2.after out
  | .ok .next, out => exact out.elim
  | .ok .brk, out => exact out.elim
  | .ok .cont, out => exact out.elim
end
/-! ### a def by its name, its arguments by keywords, the last parameter first -/
def revW : List Value → List Value → List Value
  | [], ws => ws.reverse
  | _ :: _, _ => []
def revV : List V → List V → List V
  | [], zs => zs.reverse
  | _ :: _, _ => []
structure FnK (P : Program) (w : World) (K : PySem.W.Frag) (mg : Str → Option Value) (base : Heap) (CX : CXT) (k : Nat) (x : Str) (ps : List Str) (sp : Sp) : Prop where
  ex : ∃ f fd, mg x = some (.ref f) ∧ PySem.W.keepIn K (.ref f) = true ∧ KBinds K fd ps ps.reverse revW revV ∧ FnOk P w K mg base CX k f fd ps sp
theorem kb_of {K : PySem.W.Frag} {d : DefL} {fd : FuncData} {ps : List Str} (F : Stands K d fd) (hp : ps ≠ [])
    (h : ∀ (kV doc pm : Value) (an : Option Addr) (cdv ct : Value) (ws : List Value), ws.length = ps.length → bindArgs (PySem.W.fnOf d.nm d.qual d.pars d.bod d.sco .none kV doc pm an cdv ct) ⟨[], ps.reverse.zip ws⟩ = pure (ps.zip ws.reverse)) : KBinds K fd ps ps.reverse revW revV := by
  refine ⟨fun s us ws _ hl => ?_, fun r rz => ?_⟩
  · obtain ⟨oc, od, dV, kV, doc, pm, an, cdv, ct, osl, rfl, lk, hcd, hD, hK⟩ := F.ex
    rcases hD with ⟨_, rfl⟩ | ⟨e, _⟩
    · cases us with
      | nil => exact .of_eq (h kV doc pm an cdv ct ws (by simpa [revW] using hl))
      | cons u us =>
        have : ps.length = 0 := hl.symm
        exact absurd (List.length_eq_zero_iff.mp this) hp
    · exact absurd rfl e
  · cases r with
    | nil => exact rz.reverse
    | cons _ _ => exact .nil
section
variable {X : Cx} {CX : CXT} {k j : Nat} {ps : List Str} {sp : Sp} {E : L2.St → XK} {x : Str} {p pos : Pos} {kws : List Keyword} {tk : TA}
theorem pe_fnK (F : FnK X.prog X.w X.K X.mg X.base CX k x ps sp) (hx : ∀ σ, PassesAt CX X σ (E σ)) (hr : Room j X.A) (hg : Gl X x) (hkw : PK X kws tk) (hj : k ≤ j := by decide)
    (hall : (backToKw pos (keywordEach kws X.env)).all (·.1.isSome) = true := by rfl) (hks : (backToKw pos (keywordEach kws X.env)).filterMap (·.1) = ps.reverse := by rfl) (hdb : (x == ("__debug__" : Str)) = false := by decide)
    (hpl : ((backTo pos (starEach [] X.env)).any (·.1) || (backToKw pos (keywordEach kws X.env)).any (·.1.isNone)) = false := by rfl) : PE X (.Call (.Name x p) [] kws pos) (tCallKS sp revV E tk) := by
  obtain ⟨f, fd, g, kp, b, ok⟩ := F.ex
  exact pe_callKS ok (hr.mono hj) hg g kp b hx hkw hall hks hdb hpl
end
end WkT
/-! the steps over data that need no thought -/
local macro_rules | `(tactic| walk_at "gd") => `(tactic| repeat (first
  | ((with_reducible refine' WkD.w_var ?hv ?hn ?_); (case hv => exact rfl); (case hn => exact (fun z => nomatch z)))
  | with_reducible refine WkD.w_int ?_ | with_reducible refine WkD.w_str ?_ | with_reducible refine WkD.w_non ?_ | with_reducible refine WkD.w_bl ?_
  | with_reducible refine WkD.w_chain ?_ | with_reducible refine WkD.w_tyc ?_ | ((with_reducible refine' WkD.c_isi ?hu ?_); (case hu => decide))
  | with_reducible refine WkD.w_op ?_ | with_reducible refine WkD.w_un ?_ | with_reducible refine WkD.w_nil ?_ | with_reducible refine WkD.w_cons ?_ | ((with_reducible refine' WkD.w_isi2 ?ha ?hb ?_); (case ha => decide); (case hb => decide)) | with_reducible refine WkD.w_CB ?_ | with_reducible refine WkD.w_call ?_
  | with_reducible refine WkD.w_if ?_ | with_reducible refine WkD.w_andV ?_ | with_reducible refine WkD.w_orV ?_ | with_reducible refine WkD.w_notV ?_ | with_reducible refine WkD.w_test ?_ | with_reducible refine WkD.w_tB ?_ | with_reducible refine WkD.w_not ?_
  | with_reducible refine WkD.w_and ?_ | with_reducible refine WkD.w_or ?_ | with_reducible refine WkD.w_yes ?_ | with_reducible refine WkD.w_next ?_ | with_reducible refine WkD.w_seq ?_ | with_reducible refine WkD.w_ret ?_ | with_reducible refine WkD.w_retN ?_
  | with_reducible refine WkD.w_drop ?_ | with_reducible refine WkD.w_ifS ?_ | with_reducible refine WkD.w_asg ?_ | with_reducible refine WkD.w_sl ?_ | with_reducible refine WkD.w_po0 ?_ | with_reducible refine WkD.w_po1 ?_ | with_reducible refine WkD.e_si ?_ | with_reducible refine WkD.l_A ?_ | with_reducible refine WkD.l_L ?_ | with_reducible refine WkD.w_cont ?_ | with_reducible refine WkD.w_break ?_ | with_reducible refine WkD.w_gt2 ?_ | with_reducible refine WkD.w_gt3 ?_ | with_reducible refine WkD.w_gcons ?_ | with_reducible refine WkD.w_gnil ?_ | with_reducible refine WkD.w_name ?_ | with_reducible refine WkD.w_par ?_
  | with_reducible refine WkD.r_I0i ?_ | with_reducible refine WkD.r_I0b ?_ | with_reducible refine WkD.u_U ?_ | with_reducible refine WkD.r_eqI ?_ | with_reducible refine WkD.r_neI ?_ | with_reducible refine WkD.r_eqS ?_ | with_reducible refine WkD.r_eqB ?_
  | ((with_reducible refine' WkD.r_ix ?hi ?_); (case hi => exact rfl)) | ((with_reducible refine' WkD.r_ixl ?hi ?_); (case hi => exact rfl))
  | ((with_reducible refine' WkD.r_ixT ?hi ?_); (case hi => exact rfl)) | ((with_reducible refine' WkD.r_ixL ?hi ?_); (case hi => exact rfl))
  | with_reducible refine WkD.c_gcd ?_ | with_reducible refine WkD.c_abs ?_ | with_reducible refine WkD.c_int ?_ | with_reducible refine WkD.e_bool ?_ | with_reducible refine WkD.w_tup ?_ | with_reducible refine WkD.w_lst ?_ | with_reducible refine WkD.e_ab ?_ | with_reducible refine WkD.d0 ?_ | with_reducible refine WkD.d1 ?_ | with_reducible refine WkD.d2 ?_ | with_reducible refine WkD.d3 ?_ | with_reducible refine WkD.d4 ?_))



namespace K35
open PySem PySem.Spec PyProof.Rows L2 WkH WkE WkQ WkS WkF WkD WkN WkC WkT WkP
def errs : List Addr := [91, 129, 72, 110]
/-- the four classes of errors -/
structure Ex4 (K : PySem.W.Frag) (mg : Str → Option Value) : Prop where
  gW : mg "WorkError" = some (.ref 52)
  xf : ∀ C ∈ errs, XfC K C
  ok : ∀ C ∈ errs, PySem.W.kitOne K (.ref C) (.ref 52) = some true
  ex : ∀ C ∈ errs, ∀ D ∈ errs, PySem.W.exmOne K (.ref C) (.ref D) = some (decide (C = D))
section
variable {P : Program} {w : World} {K : PySem.W.Frag} {mg : Str → Option Value} {base : Heap}
def tsO (K : PySem.W.Frag) (word : Str) (C : Addr) (a : Addr) (cls : Value) (d : Option Addr) (oe : Obj) : TS := tRet (tLst (tCons (tC (.str word)) (tCons (tXf a cls d C "given" (tVar 3)) (tCons (tCB (rIsiW (PinE (a, oe)) K) (tCons (tVar 3) (tCons (tC (.ref 52)) tNil))) tNil))))
def tsK (K : PySem.W.Frag) (word : Str) (C : Addr) (a : Addr) (cls : Value) (d : Option Addr) : TS := fun D σ H => ∀ oe, (Zc cls d oe ∧ ∃ vs, oe.data = .fields vs) → tsO K word C a cls d oe D σ H
abbrev gD (ds : List PyData) (i : Nat) : PyData := ds.getD i .none
abbrev gV (xs : List V) (i : Nat) : V := xs.getD i .non
def needW (way : Nat) : Nat := if way = 1 then 3 else if way = 0 ∨ way = 2 then 2 else 4
noncomputable def badW (way : Nat) (ds : List PyData) : Option (Addr × Nat) := if way = 0 ∨ way = 2 then bad2 (gD ds 0, gD ds 1) else if way = 1 then bad3 (gD ds 0, gD ds 1, gD ds 2) else bad4 (gD ds 0, gD ds 1, gD ds 2, gD ds 3)
noncomputable def outW (way : Nat) (ds : List PyData) : PyData := if way = 0 then out_bar (gD ds 0, gD ds 1) else if way = 1 then out_search_worth (gD ds 0, gD ds 1, gD ds 2) else if way = 2 then out_mean_draws (gD ds 0, gD ds 1)
  else if way = 3 then out_few_draws (gD ds 0, gD ds 1, gD ds 2, gD ds 3) else out_few_without (gD ds 0, gD ds 1, gD ds 2, gD ds 3)
def wordOf (C : Addr) : Str := if C = 91 then "box" else if C = 129 then "cost" else if C = 72 then "sure" else "count"
def spCalled (K : PySem.W.Frag) : Sp := fun vs H Q _ => ∃ (S : Type) (F : Eff S) (n : S) (way : Nat) (ds : List PyData) (by_ : Bool), F.J n H ∧ DqAll K (F.st H) vs [.int (way : Int), .list ds, .bool by_] ∧ way < 5 ∧ needW way ≤ ds.length ∧ (∀ d ∈ ds, small d = true) ∧ Szd (gD ds 0) ∧
  (badW way ds = none → ∀ v H', F.J n H' → Same (F.st H) (F.st H') → Dq K (F.st H') v (.list [.str "done", outW way ds]) → Q v H') ∧
  ∀ C k, badW way ds = some (C, k) → ∀ l H' a xs u, F.J n H' → Same (F.st H) (F.st H') → vs = [.int (way : Int), .ref a, .bl by_] → F.st H a = some (.lst xs) → xs[k]? = some u → F.st H l = none → F.st H' l = some (.lst [.str (wordOf C), u, .bl true]) → Q (.ref l) H'
theorem arg_at {G : Hp} {xs : List V} {ds : List PyData} (h : DqAll K G xs ds) {i : Nat} (hi : i < ds.length) : xs[i]? = some (gV xs i) ∧ atI xs (i : Int) = some (gV xs i) ∧ Dq K G (gV xs i) (gD ds i) ∧ gD ds i ∈ ds := by
  have e : ds[i]? = some (gD ds i) := by show ds[i]? = some (ds.getD i .none); rw [List.getD_eq_getElem?_getD, List.getElem?_eq_getElem hi]; rfl
  obtain ⟨v, hv, q⟩ := h.get e
  have : gV xs i = v := by show xs.getD i .non = v; rw [List.getD_eq_getElem?_getD, hv]; rfl
  rw [this]
  exact ⟨hv, atI_nat hv, q, List.mem_of_getElem? e⟩
theorem e_ixs {a : Addr} {xs : List V} {i : Int} {x : V} {H : Hp} {Q : VK} (hS : H a = some (.lst xs)) (h : atI xs i = some x) (q : Q x H) : rIx K (.ref a) (.int i) H Q := .inl ⟨a, xs, i, x, rfl, rfl, SqL.of hS, h, q⟩
abbrev cls4 (K : PySem.W.Frag) : List Cl := [⟨.ref 91, 3, tsK K "box" 91⟩, ⟨.ref 129, 3, tsK K "cost" 129⟩, ⟨.ref 72, 3, tsK K "sure" 72⟩, ⟨.ref 110, 3, tsK K "count" 110⟩]
theorem suite_ok (R : Er P w K mg base) (C4 : Ex4 K mg) {word : Str} {C : Addr} (hC : C ∈ errs) (ask : AskC K C) {D : Ends} {x y z t : Option V} {H : Hp} {d a : Addr} {v : V} (hd : H d = some (.xd [("given", v)])) (q : ∀ l, H l = none → D.rt (.ref l) (upd H l (.lst [.str word, v, .bl true]))) : tsK K word C a (.ref C) (some d) (offE D 3) [x, y, z, some (.ref a)] H := by
  intro oe ⟨hz, hf⟩
  have pin : PinE (a, oe) H a C := ⟨rfl, hz.1, hf, fun d' hd' => by
    have e : some d = some d' := hz.2.symm.trans hd'
    cases e
    exact ⟨_, hd⟩⟩
  unfold tsO
  with_reducible refine e_ret ?_
  walk_at "go"
  refine ⟨.ref a, rfl, rfl, rfl, d, _, v, rfl, hd, rfl, ?_⟩
  walk_at "go"
  refine ⟨a, C, .ref 52, .ref 52, true, rfl, .own _, ask, pin, C4.ok C hC, ?_⟩
  walk_at "go"
  exact ⟨sz 3 (by decide), q⟩
theorem caught (R : Er P w K mg base) (C4 : Ex4 K mg) {C : Addr} (hC : C ∈ errs) {D : Ends} {x y z t : Option V} {H : Hp} {d : Addr} {v : V} (hd : H d = some (.xd [("given", v)])) (q : ∀ l, H l = none → D.rt (.ref l) (upd H l (.lst [.str (wordOf C), v, .bl true]))) : wCls K D (cls4 K) (.ref C) (some d) [x, y, z, t] H := by
  have h1 := C4.ex C hC 91 (by decide)
  have h2 := C4.ex C hC 129 (by decide)
  have h3 := C4.ex C hC 72 (by decide)
  have h4 := C4.ex C hC 110 (by decide)
  simp only [errs, List.mem_cons, List.mem_nil_iff, or_false] at hC
  rcases hC with rfl | rfl | rfl | rfl
  · exact ⟨true, h1, fun _ a _ => suite_ok R C4 (by decide) R.box.ask (t := t) hd q, fun z => nomatch z⟩
  · exact ⟨false, h1, (fun z => nomatch z), fun _ => ⟨true, h2, fun _ a _ => suite_ok R C4 (by decide) R.cost.ask (t := t) hd q, fun z => nomatch z⟩⟩
  · exact ⟨false, h1, (fun z => nomatch z), fun _ => ⟨false, h2, (fun z => nomatch z), fun _ => ⟨true, h3, fun _ a _ => suite_ok R C4 (by decide) R.sure.ask (t := t) hd q, fun z => nomatch z⟩⟩⟩
  · exact ⟨false, h1, (fun z => nomatch z), fun _ => ⟨false, h2, (fun z => nomatch z), fun _ => ⟨false, h3, (fun z => nomatch z), fun _ => ⟨true, h4, fun _ a _ => suite_ok R C4 (by decide) R.count.ask (t := t) hd q, fun z => nomatch z⟩⟩⟩⟩
theorem len_called {vs : List V} {H : Hp} {Q : VK} {E : XK} (h : spCalled K vs H Q E) : vs.length = 3 := by
  obtain ⟨_, _, _, _, _, _, _, dq, _⟩ := h
  exact dq.length
theorem bad_errs {way : Nat} {ds : List PyData} {C : Addr} {k : Nat} (h : badW way ds = some (C, k)) : C ∈ errs := by
  have b0 : ∀ {d : PyData}, badBox d = some (C, k) → C ∈ errs := fun {d} h => by
    unfold badBox at h
    split at h
    · cases h
    · injection h with h
      injection h with h _
      subst h
      decide
  have b2 : ∀ {q : PyData × PyData}, bad2 q = some (C, k) → C ∈ errs := fun {q} h => by
    obtain ⟨d0, d1⟩ := q
    unfold bad2 at h
    cases e : badBox d0 with
    | some z =>
      simp only [e] at h
      exact b0 (by rw [e, h])
    | none =>
      simp only [e] at h
      split at h
      · cases h
      · injection h with h
        injection h with h _
        subst h
        decide
  have b3 : ∀ {q : PyData × PyData × PyData}, bad3 q = some (C, k) → C ∈ errs := fun {q} h => by
    obtain ⟨d0, d1, d2⟩ := q
    unfold bad3 at h
    cases e : bad2 (d0, d1) with
    | some z =>
      simp only [e] at h
      exact b2 (by rw [e, h])
    | none =>
      simp only [e] at h
      split at h
      · cases h
      · injection h with h
        injection h with h _
        subst h
        decide
  have b4 : ∀ {q : PyData × PyData × PyData × PyData}, bad4 q = some (C, k) → C ∈ errs := fun {q} h => by
    obtain ⟨d0, d1, d2, d3⟩ := q
    unfold bad4 at h
    cases e : bad3 (d0, d1, d2) with
    | some z =>
      simp only [e] at h
      exact b3 (by rw [e, h])
    | none =>
      simp only [e] at h
      split at h
      · cases h
      · injection h with h
        injection h with h _
        subst h
        decide
  unfold badW at h
  split at h
  · exact b2 h
  · split at h
    · exact b3 h
    · exact b4 h
theorem fin_called {S α : Type} {F : Eff S} {n : S} {H : Hp} {Q : VK} {enc : α → List PyData} {pre : α → Prop} {out : α → PyData} {bad : α → Option (Addr × Nat)} {a : Addr} {xs : List V} {ds : List PyData} {way : Nat} {by_ : Bool} {x y z t : Option V} (R : Er P w K mg base) (C4 : Ex4 K mg) (jn : F.J n H) (hx : F.st H a = some (.lst xs)) (ha : DqAll K (F.st H) xs ds)
    (m : Nat) (hm : m ≤ ds.length) (q : α) (henc : enc q = (List.range m).map (gD ds)) (hpre : pre q) (hbw : badW way ds = bad q) (how : outW way ds = out q) (hok : badW way ds = none → ∀ v H', F.J n H' → Same (F.st H) (F.st H') → Dq K (F.st H') v (.list [.str "done", outW way ds]) → Q v H')
    (hbad : ∀ C k, badW way ds = some (C, k) → ∀ l H' a' xs' u, F.J n H' → Same (F.st H) (F.st H') → [V.int (way : Int), .ref a, .bl by_] = [.int (way : Int), .ref a', .bl by_] → F.st H a' = some (.lst xs') → xs'[k]? = some u → F.st H l = none → F.st H' l = some (.lst [.str (wordOf C), u, .bl true]) → Q (.ref l) H') :
    spX K enc pre out bad ((List.range m).map (gV xs)) H (fun v H1 => [V.str "done", v].length ≤ sizeLine ∧ ∀ p, H1 p = none → Q (.ref p) (upd H1 p (.lst [V.str "done", v]))) (WE (wCls K { nx := fun _ H' => Q V.non H', rt := Q } (cls4 K)) [x, y, z, t]) := by
  refine ⟨S, F, n, q, jn, ?_, hpre, fun hb v H1 j1 s1 rv => ⟨sz 2 (by decide), fun l hl => ?_⟩, fun C k hb d v H1 j1 s1 hv hd => ?_⟩
  · rw [henc]
    have go : ∀ k, k ≤ m → DqAll K (F.st H) ((List.range k).map (gV xs)) ((List.range k).map (gD ds)) := fun k => by
      induction k with
      | zero => exact fun _ => .nil
      | succ k ih =>
        intro hk
        rw [List.range_succ, List.map_append, List.map_append]
        exact (ih (by omega)).append (.cons (arg_at ha (by omega)).2.2.1 .nil)
    exact go m (Nat.le_refl _)
  · have s2 := same_upd (o := .lst [V.str "done", v]) hl
    have e2 := Eff.mono (F := F) s2
    refine hok (hbw.trans hb) (.ref l) _ (Eff.keep s2 j1) (s1.trans e2) (.lst (Eff.new j1 hl) (.cons (.str _) (.cons ?_ .nil)))
    rw [how]
    exact rv.mono e2
  · refine caught R C4 (bad_errs (hbw.trans hb)) (Eff.sub _ _ hd) fun l hl => ?_
    have s2 := same_upd (o := .lst [V.str (wordOf C), v, .bl true]) hl
    refine hbad C k (hbw.trans hb) l _ a xs v (Eff.keep s2 j1) (s1.trans (Eff.mono s2)) rfl hx ?_ (by
      cases z : F.st H l with
      | none => rfl
      | some u =>
        have := Eff.sub _ _ (s1 _ _ z)
        rw [hl] at this
        cases this) (Eff.new j1 hl)
    rw [List.getElem?_map] at hv
    cases e : (List.range m)[k]? with
    | none =>
      rw [e] at hv
      cases hv
    | some i =>
      rw [e] at hv
      injection hv with hv
      have hk := (List.getElem?_eq_some_iff.mp e).1
      have ei : i = k := by
        have := (List.getElem?_eq_some_iff.mp e).2
        rw [List.getElem_range] at this
        exact this.symm
      subst ei
      rw [List.length_range] at hk
      rw [← hv]
      exact (arg_at ha (by omega)).1
theorem e_callKS {sp : Sp} {gv : List V → List V → List V} {E : L2.St → XK} {tk : TA} {σ : L2.St} {H : Hp} {Q : VK} (q : tk σ H fun zs H1 => sp (gv [] zs) H1 Q (E σ)) : tCallKS sp gv E tk σ H Q := q
theorem scL_called : FnScope ["way", "args", "by_name", "e"] ["way", "args", "by_name"] d_law_called.sco := ⟨rfl, rfl, rfl, by decide +kernel, rfl, by decide +kernel, by decide +kernel⟩
theorem ok_lcalled {fd : FuncData} (F : Stands K d_law_called fd) (T : Bg K mg) (R : Er P w K mg base) (C4 : Ex4 K mg) (Fb : Fn P w K mg base (L2.CX P w) 7 "bar" ["box", "cost"] (sp_bar (K := K))) (Fs : Fn P w K mg base (L2.CX P w) 8 "search_worth" ["box", "cost", "worth"] (sp_search_worth (K := K)))
    (Fm : Fn P w K mg base (L2.CX P w) 7 "mean_draws" ["box", "cost"] (sp_mean_draws (K := K))) (Ff : Fn P w K mg base (L2.CX P w) 9 "few_draws" ["box", "cost", "worth", "count"] (sp_few_draws (K := K))) (Fw : Fn P w K mg base (L2.CX P w) 9 "few_without" ["box", "cost", "worth", "count"] (sp_few_without (K := K)))
    (Kb : FnK P w K mg base (L2.CX P w) 7 "bar" ["box", "cost"] (sp_bar (K := K))) (Ks : FnK P w K mg base (L2.CX P w) 8 "search_worth" ["box", "cost", "worth"] (sp_search_worth (K := K)))
    (Km : FnK P w K mg base (L2.CX P w) 7 "mean_draws" ["box", "cost"] (sp_mean_draws (K := K))) (Kf : FnK P w K mg base (L2.CX P w) 9 "few_draws" ["box", "cost", "worth", "count"] (sp_few_draws (K := K))) (Kw : FnK P w K mg base (L2.CX P w) 9 "few_without" ["box", "cost", "worth", "count"] (sp_few_without (K := K))) :
    FnOk P w K mg base CX0 10 d_law_called.adr fd ["way", "args", "by_name"] (spCalled K) := by
  refine FunD.ok F scL_called (fun vs H Q E h => len_called h) (fun cdv A outer s H vs Q E hr h => ⟨_, PSs.nox (pss_one (WkT.ps_try_cls rfl rfl scL_called.nd (fun W pn xe tk _ => (pss_cons (ps_if (pt_cmpR op_eq (pv 0) pe_int (nomark _)) (pss_one (ps_ret (pe_lst (pa_cons pe_str (pa_cons (pe_ifExp (pt_val (pv 2)) (WkT.pe_fnK Kb (fun σ => passAt tk σ) hr rfl (pk_cons (pe_ix (show IxR _ (rIx K) from ix_seq) (pv 1) pe_int (fun _ _ => rfl)) (pk_cons (pe_ix (show IxR _ (rIx K) from ix_seq) (pv 1) pe_int (fun _ _ => rfl)) pk_nil))) (pe_fnS Fb (fun σ => passAt tk σ) hr rfl (pa_cons (pe_ix (show IxR _ (rIx K) from ix_seq) (pv 1) pe_int (fun _ _ => rfl)) (pa_cons (pe_ix (show IxR _ (rIx K) from ix_seq) (pv 1) pe_int (fun _ _ => rfl)) pa_nil)))) pa_nil))))) pss_nil)
  (pss_cons (ps_if (pt_cmpR op_eq (pv 0) pe_int (nomark _)) (pss_one (ps_ret (pe_lst (pa_cons pe_str (pa_cons (pe_ifExp (pt_val (pv 2)) (WkT.pe_fnK Ks (fun σ => passAt tk σ) hr rfl (pk_cons (pe_ix (show IxR _ (rIx K) from ix_seq) (pv 1) pe_int (fun _ _ => rfl)) (pk_cons (pe_ix (show IxR _ (rIx K) from ix_seq) (pv 1) pe_int (fun _ _ => rfl)) (pk_cons (pe_ix (show IxR _ (rIx K) from ix_seq) (pv 1) pe_int (fun _ _ => rfl)) pk_nil)))) (pe_fnS Fs (fun σ => passAt tk σ) hr rfl (pa_cons (pe_ix (show IxR _ (rIx K) from ix_seq) (pv 1) pe_int (fun _ _ => rfl)) (pa_cons (pe_ix (show IxR _ (rIx K) from ix_seq) (pv 1) pe_int (fun _ _ => rfl)) (pa_cons (pe_ix (show IxR _ (rIx K) from ix_seq) (pv 1) pe_int (fun _ _ => rfl)) pa_nil))))) pa_nil))))) pss_nil)
  (pss_cons (ps_if (pt_cmpR op_eq (pv 0) pe_int (nomark _)) (pss_one (ps_ret (pe_lst (pa_cons pe_str (pa_cons (pe_ifExp (pt_val (pv 2)) (WkT.pe_fnK Km (fun σ => passAt tk σ) hr rfl (pk_cons (pe_ix (show IxR _ (rIx K) from ix_seq) (pv 1) pe_int (fun _ _ => rfl)) (pk_cons (pe_ix (show IxR _ (rIx K) from ix_seq) (pv 1) pe_int (fun _ _ => rfl)) pk_nil))) (pe_fnS Fm (fun σ => passAt tk σ) hr rfl (pa_cons (pe_ix (show IxR _ (rIx K) from ix_seq) (pv 1) pe_int (fun _ _ => rfl)) (pa_cons (pe_ix (show IxR _ (rIx K) from ix_seq) (pv 1) pe_int (fun _ _ => rfl)) pa_nil)))) pa_nil))))) pss_nil)
  (pss_cons (ps_if (pt_cmpR op_eq (pv 0) pe_int (nomark _)) (pss_one (ps_ret (pe_lst (pa_cons pe_str (pa_cons (pe_ifExp (pt_val (pv 2)) (WkT.pe_fnK Kf (fun σ => passAt tk σ) hr rfl (pk_cons (pe_ix (show IxR _ (rIx K) from ix_seq) (pv 1) pe_int (fun _ _ => rfl)) (pk_cons (pe_ix (show IxR _ (rIx K) from ix_seq) (pv 1) pe_int (fun _ _ => rfl)) (pk_cons (pe_ix (show IxR _ (rIx K) from ix_seq) (pv 1) pe_int (fun _ _ => rfl)) (pk_cons (pe_ix (show IxR _ (rIx K) from ix_seq) (pv 1) pe_int (fun _ _ => rfl)) pk_nil))))) (pe_fnS Ff (fun σ => passAt tk σ) hr rfl (pa_cons (pe_ix (show IxR _ (rIx K) from ix_seq) (pv 1) pe_int (fun _ _ => rfl)) (pa_cons (pe_ix (show IxR _ (rIx K) from ix_seq) (pv 1) pe_int (fun _ _ => rfl)) (pa_cons (pe_ix (show IxR _ (rIx K) from ix_seq) (pv 1) pe_int (fun _ _ => rfl)) (pa_cons (pe_ix (show IxR _ (rIx K) from ix_seq) (pv 1) pe_int (fun _ _ => rfl)) pa_nil)))))) pa_nil))))) pss_nil)
  (pss_one (ps_ret (pe_lst (pa_cons pe_str (pa_cons (pe_ifExp (pt_val (pv 2)) (WkT.pe_fnK Kw (fun σ => passAt tk σ) hr rfl (pk_cons (pe_ix (show IxR _ (rIx K) from ix_seq) (pv 1) pe_int (fun _ _ => rfl)) (pk_cons (pe_ix (show IxR _ (rIx K) from ix_seq) (pv 1) pe_int (fun _ _ => rfl)) (pk_cons (pe_ix (show IxR _ (rIx K) from ix_seq) (pv 1) pe_int (fun _ _ => rfl)) (pk_cons (pe_ix (show IxR _ (rIx K) from ix_seq) (pv 1) pe_int (fun _ _ => rfl)) pk_nil))))) (pe_fnS Fw (fun σ => passAt tk σ) hr rfl (pa_cons (pe_ix (show IxR _ (rIx K) from ix_seq) (pv 1) pe_int (fun _ _ => rfl)) (pa_cons (pe_ix (show IxR _ (rIx K) from ix_seq) (pv 1) pe_int (fun _ _ => rfl)) (pa_cons (pe_ix (show IxR _ (rIx K) from ix_seq) (pv 1) pe_int (fun _ _ => rfl)) (pa_cons (pe_ix (show IxR _ (rIx K) from ix_seq) (pv 1) pe_int (fun _ _ => rfl)) pa_nil)))))) pa_nil)))))))))) (.cons (i := 3) (ts := (tsK K "box" 91)) rfl rfl ⟨rfl, by decide, .inl R.box.g⟩ (fun a oe cls d pn hz hf => (pss_any (ts := fun oe => tsO K "box" 91 a cls d oe) oe ⟨hz, hf⟩ (pss_one (ps_ret (pe_lst (pa_cons pe_str (pa_cons (pe_xf (C4.xf 91 (by decide)) R.box.no hz hf (pv 3)) (pa_cons (pe_callB (call_isiP (p := (a, oe)) (List.mem_cons_self ..)) rfl T.isinstance WkB.b_isinstance (pa_cons (pv 3) (pa_cons (pe_glob (v := .ref 52) rfl C4.gW rfl) pa_nil))) pa_nil)))))))) (.cons (i := 3) (ts := (tsK K "cost" 129)) rfl rfl ⟨rfl, by decide, .inl R.cost.g⟩ (fun a oe cls d pn hz hf => (pss_any (ts := fun oe => tsO K "cost" 129 a cls d oe) oe ⟨hz, hf⟩ (pss_one (ps_ret (pe_lst (pa_cons pe_str (pa_cons (pe_xf (C4.xf 129 (by decide)) R.cost.no hz hf (pv 3)) (pa_cons (pe_callB (call_isiP (p := (a, oe)) (List.mem_cons_self ..)) rfl T.isinstance WkB.b_isinstance (pa_cons (pv 3) (pa_cons (pe_glob (v := .ref 52) rfl C4.gW rfl) pa_nil))) pa_nil)))))))) (.cons (i := 3) (ts := (tsK K "sure" 72)) rfl rfl ⟨rfl, by decide, .inl R.sure.g⟩ (fun a oe cls d pn hz hf => (pss_any (ts := fun oe => tsO K "sure" 72 a cls d oe) oe ⟨hz, hf⟩ (pss_one (ps_ret (pe_lst (pa_cons pe_str (pa_cons (pe_xf (C4.xf 72 (by decide)) R.sure.no hz hf (pv 3)) (pa_cons (pe_callB (call_isiP (p := (a, oe)) (List.mem_cons_self ..)) rfl T.isinstance WkB.b_isinstance (pa_cons (pv 3) (pa_cons (pe_glob (v := .ref 52) rfl C4.gW rfl) pa_nil))) pa_nil)))))))) (.cons (i := 3) (ts := (tsK K "count" 110)) rfl rfl ⟨rfl, by decide, .inl R.count.g⟩ (fun a oe cls d pn hz hf => (pss_any (ts := fun oe => tsO K "count" 110 a cls d oe) oe ⟨hz, hf⟩ (pss_one (ps_ret (pe_lst (pa_cons pe_str (pa_cons (pe_xf (C4.xf 110 (by decide)) R.count.no hz hf (pv 3)) (pa_cons (pe_callB (call_isiP (p := (a, oe)) (List.mem_cons_self ..)) rfl T.isinstance WkB.b_isinstance (pa_cons (pv 3) (pa_cons (pe_glob (v := .ref 52) rfl C4.gW rfl) pa_nil))) pa_nil)))))))) .nil)))))), ?_⟩)
  obtain ⟨S, F, n, way, ds, by_, jn, dq, hw, hn, hsm, hsz, hok, hbad⟩ := h
  obtain ⟨v0, v1, v2, rfl, q0, q1, q2⟩ := dq3 dq
  cases q0
  cases q2
  cases q1 with
  | @lst a xs _ hx ha =>
    have hH : H a = some (.lst xs) := Eff.sub _ _ hx
    obtain rfl | rfl | rfl | rfl | rfl : way = 0 ∨ way = 1 ∨ way = 2 ∨ way = 3 ∨ way = 4 := by omega
    · have hn : 2 ≤ ds.length := hn
      try dsimp only [cxOf, Cx.nox, Cx.wish]
      walk_at "go"
      refine e_yes rfl ?_
      walk_at "go"
      refine e_ite (fun hb => ?_) (fun hb => ?_)
      · subst hb
        with_reducible refine e_callKS ?_
        walk_at "go"
        refine e_ixs hH (show atI xs ((1 : Nat) : Int) = _ from (arg_at ha (i := 1) (by omega)).2.1) ?_
        walk_at "go"
        refine e_ixs hH (show atI xs ((0 : Nat) : Int) = _ from (arg_at ha (i := 0) (by omega)).2.1) ?_
        walk_at "go"
        exact fin_called (way := 0) (enc := enc2) R C4 jn hx ha 2 (by omega) (gD ds 0, gD ds 1) rfl ⟨⟨hsm _ (arg_at ha (i := 0) (by omega)).2.2.2, hsm _ (arg_at ha (i := 1) (by omega)).2.2.2⟩, hsz⟩ rfl rfl hok hbad
      · have hb : by_ = false := by simpa using hb
        subst hb
        with_reducible refine e_callS ?_
        walk_at "go"
        refine e_ixs hH (show atI xs ((0 : Nat) : Int) = _ from (arg_at ha (i := 0) (by omega)).2.1) ?_
        walk_at "go"
        refine e_ixs hH (show atI xs ((1 : Nat) : Int) = _ from (arg_at ha (i := 1) (by omega)).2.1) ?_
        walk_at "go"
        exact fin_called (way := 0) (enc := enc2) R C4 jn hx ha 2 (by omega) (gD ds 0, gD ds 1) rfl ⟨⟨hsm _ (arg_at ha (i := 0) (by omega)).2.2.2, hsm _ (arg_at ha (i := 1) (by omega)).2.2.2⟩, hsz⟩ rfl rfl hok hbad
    · have hn : 3 ≤ ds.length := hn
      try dsimp only [cxOf, Cx.nox, Cx.wish]
      walk_at "go"
      refine e_no rfl ?_
      walk_at "go"
      refine e_yes rfl ?_
      walk_at "go"
      refine e_ite (fun hb => ?_) (fun hb => ?_)
      · subst hb
        with_reducible refine e_callKS ?_
        walk_at "go"
        refine e_ixs hH (show atI xs ((2 : Nat) : Int) = _ from (arg_at ha (i := 2) (by omega)).2.1) ?_
        walk_at "go"
        refine e_ixs hH (show atI xs ((1 : Nat) : Int) = _ from (arg_at ha (i := 1) (by omega)).2.1) ?_
        walk_at "go"
        refine e_ixs hH (show atI xs ((0 : Nat) : Int) = _ from (arg_at ha (i := 0) (by omega)).2.1) ?_
        walk_at "go"
        exact fin_called (way := 1) (enc := enc3) R C4 jn hx ha 3 (by omega) (gD ds 0, gD ds 1, gD ds 2) rfl ⟨⟨hsm _ (arg_at ha (i := 0) (by omega)).2.2.2, hsm _ (arg_at ha (i := 1) (by omega)).2.2.2, hsm _ (arg_at ha (i := 2) (by omega)).2.2.2⟩, hsz⟩ rfl rfl hok hbad
      · have hb : by_ = false := by simpa using hb
        subst hb
        with_reducible refine e_callS ?_
        walk_at "go"
        refine e_ixs hH (show atI xs ((0 : Nat) : Int) = _ from (arg_at ha (i := 0) (by omega)).2.1) ?_
        walk_at "go"
        refine e_ixs hH (show atI xs ((1 : Nat) : Int) = _ from (arg_at ha (i := 1) (by omega)).2.1) ?_
        walk_at "go"
        refine e_ixs hH (show atI xs ((2 : Nat) : Int) = _ from (arg_at ha (i := 2) (by omega)).2.1) ?_
        walk_at "go"
        exact fin_called (way := 1) (enc := enc3) R C4 jn hx ha 3 (by omega) (gD ds 0, gD ds 1, gD ds 2) rfl ⟨⟨hsm _ (arg_at ha (i := 0) (by omega)).2.2.2, hsm _ (arg_at ha (i := 1) (by omega)).2.2.2, hsm _ (arg_at ha (i := 2) (by omega)).2.2.2⟩, hsz⟩ rfl rfl hok hbad
    · have hn : 2 ≤ ds.length := hn
      try dsimp only [cxOf, Cx.nox, Cx.wish]
      walk_at "go"
      refine e_no rfl ?_
      walk_at "go"
      refine e_no rfl ?_
      walk_at "go"
      refine e_yes rfl ?_
      walk_at "go"
      refine e_ite (fun hb => ?_) (fun hb => ?_)
      · subst hb
        with_reducible refine e_callKS ?_
        walk_at "go"
        refine e_ixs hH (show atI xs ((1 : Nat) : Int) = _ from (arg_at ha (i := 1) (by omega)).2.1) ?_
        walk_at "go"
        refine e_ixs hH (show atI xs ((0 : Nat) : Int) = _ from (arg_at ha (i := 0) (by omega)).2.1) ?_
        walk_at "go"
        exact fin_called (way := 2) (enc := enc2) R C4 jn hx ha 2 (by omega) (gD ds 0, gD ds 1) rfl ⟨⟨hsm _ (arg_at ha (i := 0) (by omega)).2.2.2, hsm _ (arg_at ha (i := 1) (by omega)).2.2.2⟩, hsz⟩ rfl rfl hok hbad
      · have hb : by_ = false := by simpa using hb
        subst hb
        with_reducible refine e_callS ?_
        walk_at "go"
        refine e_ixs hH (show atI xs ((0 : Nat) : Int) = _ from (arg_at ha (i := 0) (by omega)).2.1) ?_
        walk_at "go"
        refine e_ixs hH (show atI xs ((1 : Nat) : Int) = _ from (arg_at ha (i := 1) (by omega)).2.1) ?_
        walk_at "go"
        exact fin_called (way := 2) (enc := enc2) R C4 jn hx ha 2 (by omega) (gD ds 0, gD ds 1) rfl ⟨⟨hsm _ (arg_at ha (i := 0) (by omega)).2.2.2, hsm _ (arg_at ha (i := 1) (by omega)).2.2.2⟩, hsz⟩ rfl rfl hok hbad
    · have hn : 4 ≤ ds.length := hn
      try dsimp only [cxOf, Cx.nox, Cx.wish]
      walk_at "go"
      refine e_no rfl ?_
      walk_at "go"
      refine e_no rfl ?_
      walk_at "go"
      refine e_no rfl ?_
      walk_at "go"
      refine e_yes rfl ?_
      walk_at "go"
      refine e_ite (fun hb => ?_) (fun hb => ?_)
      · subst hb
        with_reducible refine e_callKS ?_
        walk_at "go"
        refine e_ixs hH (show atI xs ((3 : Nat) : Int) = _ from (arg_at ha (i := 3) (by omega)).2.1) ?_
        walk_at "go"
        refine e_ixs hH (show atI xs ((2 : Nat) : Int) = _ from (arg_at ha (i := 2) (by omega)).2.1) ?_
        walk_at "go"
        refine e_ixs hH (show atI xs ((1 : Nat) : Int) = _ from (arg_at ha (i := 1) (by omega)).2.1) ?_
        walk_at "go"
        refine e_ixs hH (show atI xs ((0 : Nat) : Int) = _ from (arg_at ha (i := 0) (by omega)).2.1) ?_
        walk_at "go"
        exact fin_called (way := 3) (enc := enc4) R C4 jn hx ha 4 (by omega) (gD ds 0, gD ds 1, gD ds 2, gD ds 3) rfl ⟨⟨hsm _ (arg_at ha (i := 0) (by omega)).2.2.2, hsm _ (arg_at ha (i := 1) (by omega)).2.2.2, hsm _ (arg_at ha (i := 2) (by omega)).2.2.2, hsm _ (arg_at ha (i := 3) (by omega)).2.2.2⟩, hsz⟩ rfl rfl hok hbad
      · have hb : by_ = false := by simpa using hb
        subst hb
        with_reducible refine e_callS ?_
        walk_at "go"
        refine e_ixs hH (show atI xs ((0 : Nat) : Int) = _ from (arg_at ha (i := 0) (by omega)).2.1) ?_
        walk_at "go"
        refine e_ixs hH (show atI xs ((1 : Nat) : Int) = _ from (arg_at ha (i := 1) (by omega)).2.1) ?_
        walk_at "go"
        refine e_ixs hH (show atI xs ((2 : Nat) : Int) = _ from (arg_at ha (i := 2) (by omega)).2.1) ?_
        walk_at "go"
        refine e_ixs hH (show atI xs ((3 : Nat) : Int) = _ from (arg_at ha (i := 3) (by omega)).2.1) ?_
        walk_at "go"
        exact fin_called (way := 3) (enc := enc4) R C4 jn hx ha 4 (by omega) (gD ds 0, gD ds 1, gD ds 2, gD ds 3) rfl ⟨⟨hsm _ (arg_at ha (i := 0) (by omega)).2.2.2, hsm _ (arg_at ha (i := 1) (by omega)).2.2.2, hsm _ (arg_at ha (i := 2) (by omega)).2.2.2, hsm _ (arg_at ha (i := 3) (by omega)).2.2.2⟩, hsz⟩ rfl rfl hok hbad
    · have hn : 4 ≤ ds.length := hn
      try dsimp only [cxOf, Cx.nox, Cx.wish]
      walk_at "go"
      refine e_no rfl ?_
      walk_at "go"
      refine e_no rfl ?_
      walk_at "go"
      refine e_no rfl ?_
      walk_at "go"
      refine e_no rfl ?_
      walk_at "go"
      walk_at "go"
      refine e_ite (fun hb => ?_) (fun hb => ?_)
      · subst hb
        with_reducible refine e_callKS ?_
        walk_at "go"
        refine e_ixs hH (show atI xs ((3 : Nat) : Int) = _ from (arg_at ha (i := 3) (by omega)).2.1) ?_
        walk_at "go"
        refine e_ixs hH (show atI xs ((2 : Nat) : Int) = _ from (arg_at ha (i := 2) (by omega)).2.1) ?_
        walk_at "go"
        refine e_ixs hH (show atI xs ((1 : Nat) : Int) = _ from (arg_at ha (i := 1) (by omega)).2.1) ?_
        walk_at "go"
        refine e_ixs hH (show atI xs ((0 : Nat) : Int) = _ from (arg_at ha (i := 0) (by omega)).2.1) ?_
        walk_at "go"
        exact fin_called (way := 4) (enc := enc4) R C4 jn hx ha 4 (by omega) (gD ds 0, gD ds 1, gD ds 2, gD ds 3) rfl ⟨⟨hsm _ (arg_at ha (i := 0) (by omega)).2.2.2, hsm _ (arg_at ha (i := 1) (by omega)).2.2.2, hsm _ (arg_at ha (i := 2) (by omega)).2.2.2, hsm _ (arg_at ha (i := 3) (by omega)).2.2.2⟩, hsz⟩ rfl rfl hok hbad
      · have hb : by_ = false := by simpa using hb
        subst hb
        with_reducible refine e_callS ?_
        walk_at "go"
        refine e_ixs hH (show atI xs ((0 : Nat) : Int) = _ from (arg_at ha (i := 0) (by omega)).2.1) ?_
        walk_at "go"
        refine e_ixs hH (show atI xs ((1 : Nat) : Int) = _ from (arg_at ha (i := 1) (by omega)).2.1) ?_
        walk_at "go"
        refine e_ixs hH (show atI xs ((2 : Nat) : Int) = _ from (arg_at ha (i := 2) (by omega)).2.1) ?_
        walk_at "go"
        refine e_ixs hH (show atI xs ((3 : Nat) : Int) = _ from (arg_at ha (i := 3) (by omega)).2.1) ?_
        walk_at "go"
        exact fin_called (way := 4) (enc := enc4) R C4 jn hx ha 4 (by omega) (gD ds 0, gD ds 1, gD ds 2, gD ds 3) rfl ⟨⟨hsm _ (arg_at ha (i := 0) (by omega)).2.2.2, hsm _ (arg_at ha (i := 1) (by omega)).2.2.2, hsm _ (arg_at ha (i := 2) (by omega)).2.2.2, hsm _ (arg_at ha (i := 3) (by omega)).2.2.2⟩, hsz⟩ rfl rfl hok hbad
end
end K35
/-! the steps over data that need no thought -/
local macro_rules | `(tactic| walk_at "gd") => `(tactic| repeat (first
  | ((with_reducible refine' WkD.w_var ?hv ?hn ?_); (case hv => exact rfl); (case hn => exact (fun z => nomatch z)))
  | with_reducible refine WkD.w_int ?_ | with_reducible refine WkD.w_str ?_ | with_reducible refine WkD.w_non ?_ | with_reducible refine WkD.w_bl ?_
  | with_reducible refine WkD.w_chain ?_ | with_reducible refine WkD.w_tyc ?_ | ((with_reducible refine' WkD.c_isi ?hu ?_); (case hu => decide))
  | with_reducible refine WkD.w_op ?_ | with_reducible refine WkD.w_un ?_ | with_reducible refine WkD.w_nil ?_ | with_reducible refine WkD.w_cons ?_ | ((with_reducible refine' WkD.w_isi2 ?ha ?hb ?_); (case ha => decide); (case hb => decide)) | with_reducible refine WkD.w_CB ?_ | with_reducible refine WkD.w_call ?_
  | with_reducible refine WkD.w_if ?_ | with_reducible refine WkD.w_andV ?_ | with_reducible refine WkD.w_orV ?_ | with_reducible refine WkD.w_notV ?_ | with_reducible refine WkD.w_test ?_ | with_reducible refine WkD.w_tB ?_ | with_reducible refine WkD.w_not ?_
  | with_reducible refine WkD.w_and ?_ | with_reducible refine WkD.w_or ?_ | with_reducible refine WkD.w_yes ?_ | with_reducible refine WkD.w_next ?_ | with_reducible refine WkD.w_seq ?_ | with_reducible refine WkD.w_ret ?_ | with_reducible refine WkD.w_retN ?_
  | with_reducible refine WkD.w_drop ?_ | with_reducible refine WkD.w_ifS ?_ | with_reducible refine WkD.w_asg ?_ | with_reducible refine WkD.w_sl ?_ | with_reducible refine WkD.w_po0 ?_ | with_reducible refine WkD.w_po1 ?_ | with_reducible refine WkD.e_si ?_ | with_reducible refine WkD.l_A ?_ | with_reducible refine WkD.l_L ?_ | with_reducible refine WkD.w_cont ?_ | with_reducible refine WkD.w_break ?_ | with_reducible refine WkD.w_gt2 ?_ | with_reducible refine WkD.w_gt3 ?_ | with_reducible refine WkD.w_gcons ?_ | with_reducible refine WkD.w_gnil ?_ | with_reducible refine WkD.w_name ?_ | with_reducible refine WkD.w_par ?_
  | with_reducible refine WkD.r_I0i ?_ | with_reducible refine WkD.r_I0b ?_ | with_reducible refine WkD.u_U ?_ | with_reducible refine WkD.r_eqI ?_ | with_reducible refine WkD.r_neI ?_ | with_reducible refine WkD.r_eqS ?_ | with_reducible refine WkD.r_eqB ?_
  | ((with_reducible refine' WkD.r_ix ?hi ?_); (case hi => exact rfl)) | ((with_reducible refine' WkD.r_ixl ?hi ?_); (case hi => exact rfl))
  | ((with_reducible refine' WkD.r_ixT ?hi ?_); (case hi => exact rfl)) | ((with_reducible refine' WkD.r_ixL ?hi ?_); (case hi => exact rfl))
  | with_reducible refine WkD.c_gcd ?_ | with_reducible refine WkD.c_abs ?_ | with_reducible refine WkD.c_int ?_ | with_reducible refine WkD.e_bool ?_ | with_reducible refine WkD.w_tup ?_ | with_reducible refine WkD.w_lst ?_ | with_reducible refine WkD.e_ab ?_ | with_reducible refine WkD.d0 ?_ | with_reducible refine WkD.d1 ?_ | with_reducible refine WkD.d2 ?_ | with_reducible refine WkD.d3 ?_ | with_reducible refine WkD.d4 ?_))

namespace K35
open PySem PySem.Spec PyProof.Rows L2 WkH WkE WkQ WkS WkF WkD WkN WkC WkT WkP
section
variable {P : Program} {w : World} {K : PySem.W.Frag} {mg : Str → Option Value} {base : Heap}
section
variable {S : Type} {F : Eff S} {n : S} {Φ : Sl → S → Prop}
/-- what a call that is not refused needs -/
structure Fine (way : Nat) (ds : List PyData) (r : Rat) : Prop where
  w : way < 5
  l : needW way ≤ ds.length
  s : ∀ d ∈ ds, small d = true
  z : Szd (gD ds 0)
  b : badW way ds = none
  o : outW way ds = frD r
theorem c_called {way : Nat} {ds : List PyData} {r : Rat} {by_ : Bool} (h : Fine way ds r) (q : Φ (.dat (.list [.str "done", frD r])) n) : wC F K (fun vs H Q => spCalled K vs H Q E0) [.dat (.int (way : Int)), .dat (.list ds), .dat (.bool by_)] n Φ := fun vs H Q jn ra k =>
  ⟨S, F, n, way, ds, by_, jn, ra.dats (ds := [.int (way : Int), .list ds, .bool by_]), h.w, h.l, h.s, h.z, fun _ v H' j s dq => k v H' _ n q j s (by rw [h.o] at dq; exact dq), fun C k' hb => by rw [h.b] at hb; cases hb⟩
end
def encTw (q : Nat × List PyData × Rat × Bool) : List PyData := [.int (q.1 : Int), .list q.2.1, frD q.2.2.1, .bool q.2.2.2]
abbrev spTwice : Sp := spF K encTw (fun q => Fine q.1 q.2.1 q.2.2.1) fun _ => .bool true
theorem scL_twice : FnScope ["way", "args", "due", "by_name", "turn"] ["way", "args", "due", "by_name"] d_law_twice.sco := ⟨rfl, rfl, rfl, by decide +kernel, rfl, by decide +kernel, by decide +kernel⟩
theorem ok_ltwice {fd : FuncData} (F : Stands K d_law_twice fd) (T : Bg K mg) (Fc : Fn P w K mg base CX0 10 "_law_called" ["way", "args", "by_name"] (spCalled K)) (Fs : Fn P w K mg base CX0 5 "_law_same" ["given", "due"] (spSame (K := K) 4)) :
    FnOk P w K mg base CX0 11 d_law_twice.adr fd ["way", "args", "due", "by_name"] (spTwice (K := K)) := by
  refine FunD.ok F scL_twice (fun vs H Q E h => len_F h fun _ => rfl) (fun cdv A outer s H vs Q E hr h => ⟨_, PSs.nox (pss_cons (ps_for PassesOwn.never rfl (pi_range1 rfl T.range (pa_cons pe_int pa_nil)) (pg_name (i := 4) scL_twice.nd rfl (by first | exact Or.inl rfl | exact Or.inr rfl)) (pss_one (ps_if (pt_not (pt_val (pe_fn Fs hr rfl (pa_cons (pe_fn Fc hr rfl (pa_cons (pv 0) (pa_cons (pv 1) (pa_cons (pe_cmpR op_eq (pv 3) (pe_cmpR op_eq (pv 4) pe_int (nomark _)) (nomark _)) pa_nil)))) (pa_cons (pe_lst (pa_cons pe_str (pa_cons (pv 2) pa_nil))) pa_nil))))) (pss_one (ps_ret pe_bl)) pss_nil)))
  (pss_one (ps_ret pe_bl))), ?_⟩)
  refine body_F h fun F n q hp => ?_
  obtain ⟨way, ds, r, by_⟩ := q
  have hp : Fine way ds r := hp
  try dsimp only [cxOf, Cx.nox, Cx.wish, encTw]
  walk_at "gd"
  refine w_forR1 ?_
  walk_at "gd"
  refine ⟨2, rfl, by decide, by decide, ?_⟩
  refine ⟨fun i ρ m => ∃ x, ρ = [.dat (.int (way : Int)), .dat (.list ds), .dat (frD r), .dat (.bool by_), x] ∧ m = n, ⟨_, rfl, rfl⟩, fun i d ρ m hi hI => ?_, fun ρ m hI => ?_⟩
  · obtain ⟨x, rfl, rfl⟩ := hI
    have li : i < 2 := (List.getElem?_eq_some_iff.mp hi).1
    have hi : (intsD 0 2)[i]? = some d := hi
    rw [intsD_get li] at hi
    injection hi with hi
    subst hi
    walk_at "gd"
    refine c_called hp ?_
    walk_at "gd"
    refine c_fn (enc := twice) (.list [.str "done", frD r]) ⟨rfl, (by simp [deep, deeps, frD] : deep _ < 4)⟩ ?_
    walk_at "gd"
    refine ⟨(fun z => nomatch z), fun _ => ?_⟩
    walk_at "gd"
    exact ⟨_, rfl, rfl⟩
  · obtain ⟨x, rfl, rfl⟩ := hI
    walk_at "gd"
    exact ⟨rfl, rfl⟩
end
end K35
/-! What the law's search needs of its box, its cost, its marks: sizes; what each call comes to. -/
namespace K35
open PySem PySem.Spec PyProof.Rows L2 WkH WkE WkQ WkS WkF WkD WkN WkC WkT WkP
/-- the law's own costs -/
structure LC (c : Rat) : Prop where
  pos : 0 < c
  i : In c.den 32 c
  d : c.den < 2 ^ 30
theorem LC.bits {c : Rat} (h : LC c) : Bits 36 c := by
  refine h.i.bits (Nat.lt_trans h.d (by decide)) ?_
  have := h.d
  omega
theorem frac_eq {r : Rat} {N : Nat} {a : Int} (hN : 0 < N) (h : r * (N : Rat) = (a : Rat)) : r = Rat.divInt a N := by
  have hn : (N : Rat) ≠ 0 := by exact_mod_cast (by omega : N ≠ 0)
  rw [Rat.divInt_eq_div]
  have : r = (a : Rat) / (N : Rat) := by rw [← h, Rat.mul_div_cancel hn]
  rw [this]
  rfl
theorem in_num {r : Rat} {N M : Nat} (h : In N M r) : ∃ a : Int, r * (N : Rat) = (a : Rat) ∧ a.natAbs ≤ M * N := by
  obtain ⟨a, ha⟩ := over_base h.d
  have p : (0 : Rat) < (N : Rat) := Rat.natCast_pos.mpr h.pos
  refine ⟨a, ha, ?_⟩
  have l1 := Rat.mul_le_mul_of_nonneg_right h.lo (Rat.le_of_lt p)
  have l2 := Rat.mul_le_mul_of_nonneg_right h.hi (Rat.le_of_lt p)
  rw [ha] at l1 l2
  have e : (M : Rat) * (N : Rat) = ((M * N : Nat) : Rat) := (Rat.natCast_mul M N).symm
  have l1' : -((M * N : Nat) : Rat) ≤ (a : Rat) := by rw [← e]; grind
  have l2' : (a : Rat) ≤ ((M * N : Nat) : Rat) := by rw [← e]; exact l2
  have m1 := le_nat.mp l1'
  have m2 := nat_le.mp l2'
  omega
theorem L_bits2 {b : List (Rat × Rat)} {c : Rat} (hb : LB b) (hc : LC c) {k : Nat} (hk : k < b.length) : Bits 85 (K35M.L b c k) := by
  obtain ⟨S, z⟩ := hb.ex
  have hp := hb.box.pos
  have z' : SzB 6 S (b.drop k) := z.sub (fun q hq => List.mem_of_mem_drop hq) (by rw [List.length_drop]; omega)
  have h1 := (z'.means (g := fun w => w) (N := 6) (M := 64) (by decide +kernel) (by decide +kernel) (by decide) fun q hq => hb.w q (List.mem_of_mem_drop hq)).2
  have h2 : In (S * 6) (32 * 64) (K35M.mean (fun w => w) (b.drop k)) := h1.mono h1.pos (Nat.dvd_refl _) (Nat.mul_le_mul_right _ z'.l)
  have cd := c.den_pos
  have hN : 0 < S * 6 * c.den := Nat.mul_pos h1.pos cd
  have h3 : In (S * 6 * c.den) (32 * 64 + 32) (K35M.mean (fun w => w) (b.drop k) - c) := (h2.mono hN (Nat.dvd_mul_right _ _) (Nat.le_refl _)).sub (hc.i.mono hN (Nat.dvd_mul_left _ _) (Nat.le_refl _))
  obtain ⟨T, hT, bT⟩ := in_num h3
  have h4 := (in_pre (rs := (b.drop k).map (·.2)) (N := S) (M := 1) z'.pS (fun r hr => by
    obtain ⟨q, hq, rfl⟩ := List.mem_map.mp hr
    exact z'.c q hq) (by rw [List.length_map]; have := z'.l; omega) (Nat.lt_trans z'.hS (by decide +kernel)) (by decide +kernel)).2
  rw [sum_chance, List.length_map] at h4
  obtain ⟨q, hq, bq⟩ := in_num h4
  have cp : 0 < K35M.chance (b.drop k) := K35M.chance_pos (fun q hq => hp q (List.mem_of_mem_drop hq)) (by intro y; rw [List.drop_eq_nil_iff] at y; omega)
  have Sp : (0 : Rat) < (S : Rat) := Rat.natCast_pos.mpr z'.pS
  have q0 : 0 < q := by
    have := Rat.mul_pos cp Sp
    rw [hq] at this
    have : ((0 : Int) : Rat) < (q : Rat) := this
    exact Rat.intCast_lt_intCast.mp this
  have hS := z'.hS
  have hl := z'.l
  have bq2 : q.toNat ≤ 32 * S := by
    have : (b.drop k).length * 1 * S ≤ 32 * S := Nat.mul_le_mul_right _ (by omega)
    omega
  have key : K35M.L b c k * ((q.toNat * (6 * c.den) : Nat) : Rat) = (T : Rat) := by
    have m := K35M.mul_L (c := c) hp hk
    rw [← hT, ← m, Rat.natCast_mul, Rat.natCast_mul, Rat.natCast_mul, Rat.natCast_mul]
    have e : ((q.toNat : Nat) : Rat) = (q : Rat) := by
      have : ((q.toNat : Nat) : Int) = q := by omega
      rw [← Rat.intCast_natCast, this]
    rw [e, ← hq]
    grind
  have hD : 0 < q.toNat * (6 * c.den) := Nat.mul_pos (by omega) (Nat.mul_pos (by decide) cd)
  rw [frac_eq hD key]
  have hd := hc.d
  refine bits_divInt (by omega) ?_ ?_
  · refine Nat.lt_of_le_of_lt bT ?_
    have e1 : S * 6 * c.den ≤ 2 ^ 40 * 6 * 2 ^ 30 := Nat.mul_le_mul (Nat.mul_le_mul_right _ (Nat.le_of_lt hS)) (Nat.le_of_lt hd)
    have e2 : (32 * 64 + 32) * (S * 6 * c.den) ≤ (32 * 64 + 32) * (2 ^ 40 * 6 * 2 ^ 30) := Nat.mul_le_mul_left _ e1
    exact Nat.lt_of_le_of_lt e2 (by decide)
  · rw [Int.natAbs_natCast]
    have e1 : q.toNat * (6 * c.den) ≤ (32 * 2 ^ 40) * (6 * 2 ^ 30) := Nat.mul_le_mul (by omega) (Nat.mul_le_mul_left _ (Nat.le_of_lt hd))
    exact Nat.lt_of_le_of_lt e1 (by decide)
theorem lim_bits {b : List (Rat × Rat)} {c : Rat} (hb : LB b) (hc : LC c) : Bits 85 (K35M.barR b c) := by
  obtain ⟨j, hj, e⟩ := barAt_is (b := b) (c := c) (b.length - 1)
  show Bits 85 (K35M.barAt b c (b.length - 1))
  rw [e]
  have := hb.box.l1
  exact L_bits2 hb hc (by omega)
theorem LB.wb {b : List (Rat × Rat)} (hb : LB b) {q : Rat × Rat} (h : q ∈ b) : Bits 9 q.1 := (hb.w q h).bits (by decide) (by decide)
theorem LB.szd {b : List (Rat × Rat)} (hb : LB b) : Szd (boxD b) := fun b' e _ => by
  obtain rfl := boxD_inj e
  exact ⟨6, hb.ex⟩
theorem LB.sm {b : List (Rat × Rat)} (hb : LB b) : small (boxD b) = true := nice_small (rows_val hb).1
/-! what the calls come to -/
section
variable {b : List (Rat × Rat)} {c x : Rat} {k : Nat} (hb : LB b) (hc : LC c) (hx : Bits 100 x) (hk : k ≤ 12)
include hb hc
theorem bad2_no : bad2 (boxD b, frD c) = none := by
  unfold bad2 badBox
  rw [if_pos (isBox_of hb.box)]
  simp only [isCost, isFr_frD, posD_fr, hc.pos, decide_true, Bool.and_self, if_true]
theorem sm_cost : small (frD c) = true := fr_small (hc.bits.mono (by decide))
theorem fine0 : Fine 0 [boxD b, frD c] (K35M.barR b c) := by
  refine ⟨by decide, Nat.le_refl 2, fun d hd => ?_, hb.szd, bad2_no hb hc, ?_⟩
  · simp only [List.mem_cons, List.mem_nil_iff, or_false] at hd
    rcases hd with rfl | rfl
    · exact hb.sm
    · exact sm_cost hb hc
  · show out_bar (boxD b, frD c) = _
    rw [out_bar, boxOf_eq, frOf_eq]
theorem fine2 : Fine 2 [boxD b, frD c] (meanR b c) := by
  refine ⟨by decide, Nat.le_refl 2, fun d hd => ?_, hb.szd, bad2_no hb hc, ?_⟩
  · simp only [List.mem_cons, List.mem_nil_iff, or_false] at hd
    rcases hd with rfl | rfl
    · exact hb.sm
    · exact sm_cost hb hc
  · show out_mean_draws (boxD b, frD c) = _
    rw [out_mean_draws, boxOf_eq, frOf_eq]
include hx
theorem bad3_no : bad3 (boxD b, frD c, frD x) = none := by
  unfold bad3
  simp only [bad2_no hb hc, isFr_frD, if_true]
theorem fine1 : Fine 1 [boxD b, frD c, frD x] (K35M.mx x (K35M.barR b c)) := by
  refine ⟨by decide, Nat.le_refl 3, fun d hd => ?_, hb.szd, bad3_no hb hc hx, ?_⟩
  · simp only [List.mem_cons, List.mem_nil_iff, or_false] at hd
    rcases hd with rfl | rfl | rfl
    · exact hb.sm
    · exact sm_cost hb hc
    · exact fr_small hx
  · show out_search_worth (boxD b, frD c, frD x) = _
    rw [out_search_worth, boxOf_eq, frOf_eq, frOf_eq]
include hk
theorem bad4_no : bad4 (boxD b, frD c, frD x, .int (k : Int)) = none := by
  unfold bad4
  have : isWithin (.int (k : Int)) 0 12 = true := by
    show decide _ = true
    simp
    omega
  simp only [bad3_no hb hc hx, this, if_true]
theorem sm4_no : ∀ d ∈ [boxD b, frD c, frD x, .int (k : Int)], small d = true := fun d hd => by
  simp only [List.mem_cons, List.mem_nil_iff, or_false] at hd
  rcases hd with rfl | rfl | rfl | rfl
  · exact hb.sm
  · exact sm_cost hb hc
  · exact fr_small hx
  · show decide _ = true
    rw [Int.natAbs_natCast]
    exact decide_eq_true (Nat.lt_of_le_of_lt hk (by decide))
theorem fine3 : Fine 3 [boxD b, frD c, frD x, .int (k : Int)] (K35M.V b c k x) := by
  refine ⟨by decide, Nat.le_refl 4, sm4_no hb hc hx hk, hb.szd, bad4_no hb hc hx hk, ?_⟩
  show out_few_draws (boxD b, frD c, frD x, .int (k : Int)) = _
  rw [out_few_draws, boxOf_eq, frOf_eq, frOf_eq, natOf_eq]
theorem fine4 : Fine 4 [boxD b, frD c, frD x, .int (k : Int)] (K35M.N b c x k) := by
  refine ⟨by decide, Nat.le_refl 4, sm4_no hb hc hx hk, hb.szd, bad4_no hb hc hx hk, ?_⟩
  show out_few_without (boxD b, frD c, frD x, .int (k : Int)) = _
  rw [out_few_without, boxOf_eq, frOf_eq, frOf_eq, natOf_eq]
end
/-- a mark, its marks in the memo -/
theorem few_ex {b : List (Rat × Rat)} {c x : Rat} (hb : LB b) (hc : LC c) (hx : Bits 100 x) : ∃ S X, ∀ k l, FewOk ⟨6, S, b, c, x, X, x :: b.map (·.1), x, k, l⟩ := by
  obtain ⟨S, z⟩ := hb.ex
  obtain ⟨X, B⟩ := base_ex z hx (hc.bits.mono (by decide))
  refine ⟨S, X, fun k l => ⟨B, hc.bits.mono (by decide), ?_, fun m hm => ?_, fun m hm r hr => ?_, List.mem_cons_self ..⟩⟩
  · show (x :: b.map (·.1)).length ≤ 40
    rw [List.length_cons, List.length_map]
    have := z.l
    omega
  · rcases List.mem_cons.mp hm with rfl | h
    · exact B.ix.mono B.pX (Nat.dvd_refl _) (by decide)
    · obtain ⟨q, hq, rfl⟩ := List.mem_map.mp h
      exact B.worth0 hq
  · show K35M.mx m r.1 ∈ x :: b.map (·.1)
    unfold K35M.mx
    split
    · exact List.mem_cons_of_mem _ (List.mem_map_of_mem hr)
    · exact hm
/-- what stands below and above in a memo stays right -/
theorem GoodK.all {f : Nat → Rat → Rat} {U : List Rat} {k : Nat} {es es' : Ent [true, false]} (g : GoodK f U 12 es) (g' : GoodK f U k es') (r : RelK k es es') : GoodK f U 12 es' := by
  refine ⟨g'.nd, g'.keys, fun m j d hj e => ?_⟩
  rcases Nat.lt_or_ge k j with h | h
  · rw [r m j h] at e
    exact g.ok m j d hj e
  · exact g'.ok m j d h e
theorem GoodK.none {f : Nat → Rat → Rat} {U : List Rat} : GoodK f U 12 [] := ⟨List.nodup_nil, fun p hp => (by cases hp), fun m k d _ e => (by cases e)⟩
end K35
/-! x, y, z = None, {}, {}: two memos out of sight till the block's end. -/
namespace WkD
open PySem PySem.Spec PyProof.Rows L2 WkH WkQ WkS WkF WkN
/-- the ends, the second part of the state forgotten -/
def Po.fst {S T : Type} (P : Po S) : Po (S × T) where
  nx := fun ρ m => P.nx ρ m.1
  rt := fun r m => P.rt r m.1
  bk := fun ρ m => P.bk ρ m.1
  ct := fun ρ m => P.ct ρ m.1
section
variable {S : Type} {F : Eff S} {K : PySem.W.Frag} {ρ : List Sl} {n : S} {P : Po S} {t : TS} {i j l : Nat} {P' : Program} {w : World} {sh : List Bool}
theorem Meets.dicF {G : Hp} {H1 : Hp} {D : Addr} {E : Ends} (M : Meets F K G E P) (s : Same G ((F.dic K P' w sh D).st H1)) : Meets (F.dic K P' w sh D) K ((F.dic K P' w sh D).st H1) E P.fst where
  nx := fun σ' H' ρ' m p j s' r => M.nx σ' H' _ _ p j.1 (s.trans (s'.trans dic_sub)) (r.mono dic_sub)
  rt := fun v H' r m p j s' rv => M.rt v H' _ _ p j.1 (s.trans (s'.trans dic_sub)) (RepV.mono dic_sub rv)
  bk := fun σ' H' ρ' m p j s' r => M.bk σ' H' _ _ p j.1 (s.trans (s'.trans dic_sub)) (r.mono dic_sub)
  ct := fun σ' H' ρ' m p j s' r => M.ct σ' H' _ _ p j.1 (s.trans (s'.trans dic_sub)) (r.mono dic_sub)
theorem dic_start {n : S} {H H' : Hp} {D : Addr} (j : F.J n H) (nD : H D = none) (k : ∀ b, b ≠ D → H' b = H b) (nd : ∀ G, NDict K P' w sh H' G D []) : (F.dic K P' w sh D).J (n, []) H' ∧ Same (F.st H) ((F.dic K P' w sh D).st H') := by
  have s0 : Same H H' := fun b u e => by
    rw [k b (ne_of_none e nD)]
    exact e
  exact ⟨⟨Eff.keep s0 j, Eff.fresh j nD, [], nd _, .nil⟩, dic_new nD k⟩
theorem w_par3n (h : ∀ D1 D2, wS ((F.dic K P' w sh D1).dic K P' w sh D2) K t (((ρ.set i (.dat .none)).set j (.raw (.ref D1))).set l (.raw (.ref D2))) ((n, []), []) P.fst.fst) :
    wS F K (tSeq (tPar3 i j l (tCons (tC .non) (tCons (tNNew K P' w sh) (tCons (tNNew K P' w sh) tNil)))) t) ρ n P := fun σ H E jn rp M => by
  intro D1 H1 nD1 k1 nd1 D2 H2 nD2 k2 nd2
  refine ⟨.non, .ref D1, .ref D2, rfl, ?_⟩
  obtain ⟨j1, s1⟩ := dic_start jn nD1 k1 nd1
  obtain ⟨j2, s2⟩ := dic_start j1 nD2 k2 nd2
  have M1 := Meets.dicF M s1
  refine h D1 D2 _ _ E j2 (((((rp.mono s1).mono s2).set i (s := .dat .none) .non).set j (s := .raw (.ref D1)) rfl).set l (s := .raw (.ref D2)) rfl) (Meets.dicF M1 s2)
end
end WkD
/-! the steps over data that need no thought -/
local macro_rules | `(tactic| walk_at "gd") => `(tactic| repeat (first
  | ((with_reducible refine' WkD.w_var ?hv ?hn ?_); (case hv => exact rfl); (case hn => exact (fun z => nomatch z)))
  | with_reducible refine WkD.w_int ?_ | with_reducible refine WkD.w_str ?_ | with_reducible refine WkD.w_non ?_ | with_reducible refine WkD.w_bl ?_
  | with_reducible refine WkD.w_chain ?_ | with_reducible refine WkD.w_tyc ?_ | ((with_reducible refine' WkD.c_isi ?hu ?_); (case hu => decide))
  | with_reducible refine WkD.w_op ?_ | with_reducible refine WkD.w_un ?_ | with_reducible refine WkD.w_nil ?_ | with_reducible refine WkD.w_cons ?_ | ((with_reducible refine' WkD.w_isi2 ?ha ?hb ?_); (case ha => decide); (case hb => decide)) | with_reducible refine WkD.w_CB ?_ | with_reducible refine WkD.w_call ?_
  | with_reducible refine WkD.w_if ?_ | with_reducible refine WkD.w_andV ?_ | with_reducible refine WkD.w_orV ?_ | with_reducible refine WkD.w_notV ?_ | with_reducible refine WkD.w_test ?_ | with_reducible refine WkD.w_tB ?_ | with_reducible refine WkD.w_not ?_
  | with_reducible refine WkD.w_and ?_ | with_reducible refine WkD.w_or ?_ | with_reducible refine WkD.w_yes ?_ | with_reducible refine WkD.w_next ?_ | with_reducible refine WkD.w_seq ?_ | with_reducible refine WkD.w_ret ?_ | with_reducible refine WkD.w_retN ?_
  | with_reducible refine WkD.w_drop ?_ | with_reducible refine WkD.w_ifS ?_ | with_reducible refine WkD.w_asg ?_ | with_reducible refine WkD.w_sl ?_ | with_reducible refine WkD.w_po0 ?_ | with_reducible refine WkD.w_po1 ?_ | with_reducible refine WkD.e_si ?_ | with_reducible refine WkD.l_A ?_ | with_reducible refine WkD.l_L ?_ | with_reducible refine WkD.w_cont ?_ | with_reducible refine WkD.w_break ?_ | with_reducible refine WkD.w_gt2 ?_ | with_reducible refine WkD.w_gt3 ?_ | with_reducible refine WkD.w_gcons ?_ | with_reducible refine WkD.w_gnil ?_ | with_reducible refine WkD.w_name ?_ | with_reducible refine WkD.w_par ?_
  | with_reducible refine WkD.r_I0i ?_ | with_reducible refine WkD.r_I0b ?_ | with_reducible refine WkD.u_U ?_ | with_reducible refine WkD.r_eqI ?_ | with_reducible refine WkD.r_neI ?_ | with_reducible refine WkD.r_eqS ?_ | with_reducible refine WkD.r_eqB ?_
  | ((with_reducible refine' WkD.r_ix ?hi ?_); (case hi => exact rfl)) | ((with_reducible refine' WkD.r_ixl ?hi ?_); (case hi => exact rfl))
  | ((with_reducible refine' WkD.r_ixT ?hi ?_); (case hi => exact rfl)) | ((with_reducible refine' WkD.r_ixL ?hi ?_); (case hi => exact rfl))
  | with_reducible refine WkD.c_gcd ?_ | with_reducible refine WkD.c_abs ?_ | with_reducible refine WkD.c_int ?_ | with_reducible refine WkD.e_bool ?_ | with_reducible refine WkD.w_tup ?_ | with_reducible refine WkD.w_lst ?_ | with_reducible refine WkD.e_ab ?_ | with_reducible refine WkD.d0 ?_ | with_reducible refine WkD.d1 ?_ | with_reducible refine WkD.d2 ?_ | with_reducible refine WkD.d3 ?_ | with_reducible refine WkD.d4 ?_))

namespace K35
open PySem PySem.Spec PyProof.Rows L2 WkH WkE WkQ WkS WkF WkD WkN WkC WkT WkP
section
variable {P : Program} {w : World} {K : PySem.W.Frag} {mg : Str → Option Value} {base : Heap}
def encSr (q : List (Rat × Rat) × Rat × Bool) : List PyData := [boxD q.1, frD q.2.1, .bool q.2.2]
abbrev spSearch : Sp := spDr K encSr (fun q => LB q.1 ∧ LC q.2.1) (fun _ => 12) fun _ d => d = .bool true
theorem w_conE {S : Type} {F : Eff S} {t : TE} {ρ : List Sl} {n : S} {Φ Ψ : Sl → S → Prop} (h : wE F K t ρ n Ψ) (i : ∀ r m, Ψ r m → Φ r m) : wE F K t ρ n Φ := fun σ H Q j rp q => h σ H Q j rp fun v H' r m p => q v H' r m (i r m p)
theorem if_con {S : Type} {F : Eff S} {ta tb : TE} {ρ : List Sl} {n : S} {p q : Prop} {Φ Ψ : Sl → S → Prop} (h1 : p → wE F K ta ρ n Ψ) (h2 : q → wE F K tb ρ n Ψ) (i : ∀ r m, Ψ r m → Φ r m) : (p → wE F K ta ρ n Φ) ∧ (q → wE F K tb ρ n Φ) := ⟨fun h => w_conE (h1 h) i, fun h => w_conE (h2 h) i⟩
abbrev third : Rat := ⟨1, 3, by decide, by decide⟩
abbrev half : Rat := ⟨1, 2, by decide, by decide⟩
abbrev four : Rat := ⟨4, 1, by decide, by decide⟩
theorem third_b : Bits 2 third := ⟨by decide, by decide⟩
theorem half_b : Bits 2 half := ⟨by decide, by decide⟩
theorem four_b : Bits 3 four := ⟨by decide, by decide⟩
theorem one_b : Bits 1 (1 : Rat) := ⟨by decide, by decide⟩
theorem atI_last {α : Type} {f : α → PyData} {xs : List α} {x : α} (l : 1 ≤ xs.length) (h : xs[xs.length - 1]? = some x) : atI (xs.map f) (-1) = some (f x) := by
  have hl : (xs.map f).length = xs.length := List.length_map ..
  unfold atI ixN
  rw [if_neg (by decide), if_pos (by rw [hl]; omega), hl]
  show (xs.map f)[(-1 + (xs.length : Int)).toNat]? = _
  have : (-1 + (xs.length : Int)).toNat = xs.length - 1 := by omega
  rw [this, List.getElem?_map, h]
  rfl
theorem r_notN {S : Type} {F : Eff S} {n : S} {Φ : Sl → S → Prop} {d : PyData} (q : Φ (.dat (.bool (!WkD.isNon d))) n) : wR F K (fun x y H Q => y = V.non ∧ Q (V.bl !decide (x = V.non)) H) (.dat d) (.dat .none) n Φ := fun x y H Q jn rx ry k => by
  cases ry
  refine ⟨rfl, ?_⟩
  have e : decide (x = V.non) = WkD.isNon d := by cases rx <;> rfl
  rw [e]
  exact k _ H _ n q jn (Same.refl _) (.bl _)
theorem eqv_self (r : Rat) : PyData.eqv (frD r) (frD r) = true := by rw [eqv_frD]; exact decide_eq_true rfl
theorem scL_search_right : FnScope ["draw", "one", "cost", "by_name", "limit", "chance", "marks", "mark", "whole", "count", "last", "memo", "beside", "due", "less", "worth", "part"] ["draw", "one", "cost", "by_name"] d_law_search_right.sco := ⟨rfl, rfl, rfl, by decide +kernel, rfl, by decide +kernel, by decide +kernel⟩
theorem ok_lsearch {fd : FuncData} (F : Stands K d_law_search_right fd) (T : Bg K mg) (Ftk : Fn P w K mg base CX0 1 "_law_take" ["draw", "many"] WkD.spTake) (Fmix : Fn P w K mg base CX0 2 "_law_mixed" ["draw", "items"] (spMixed (K := K))) (Fbar : Fn P w K mg base CX0 5 "_law_bar" ["one", "cost"] (spLawBar (K := K))) (Ftw : Fn P w K mg base CX0 11 "_law_twice" ["way", "args", "due", "by_name"] (spTwice (K := K)))
    (Fsum : Fn P w K mg base CX0 3 "_law_sum" ["items"] (spSum (K := K))) (Fb : Fn P w K mg base CX0 1 "_law_less" ["one", "other"] (spBelow (K := K))) (Fd : Fn P w K mg base CX0 2 "_law_over" ["one", "other"] (spDivide (K := K))) (Fu : Fn P w K mg base CX0 2 "_law_minus" ["one", "other"] (spSubtract (K := K))) (Fadd : Fn P w K mg base CX0 2 "_law_plus" ["one", "other"] (spAdd (K := K)))
    (Fg : Fn P w K mg base CX0 2 "_law_more" ["one", "other"] (spMx (K := K))) (Ffew : Fn P w K mg base CX0 10 "_law_few" ["one", "cost", "mark", "count", "memo"] (spFew (K := K) P w 5)) (Fbel : Fn P w K mg base CX0 10 "_law_below" ["one", "cost", "mark", "count", "limit", "memo"] (spBelowM (K := K) P w 5)) (Fwo : Fn P w K mg base CX0 4 "_law_without" ["one", "cost", "mark", "count"] (spWithout (K := K))) :
    FnOk P w K mg base CX0 12 d_law_search_right.adr fd ["draw", "one", "cost", "by_name"] (spSearch (K := K)) := by
  refine FunD.ok F scL_search_right (fun vs H Q E h => len_Dr h fun _ => rfl) (fun cdv A outer s H vs Q E hr h => ⟨_, PSs.nox (pss_cons (ps_set (i := 4) scL_search_right.nd rfl (by first | exact Or.inl rfl | exact Or.inr rfl) (pe_fn Fbar hr rfl (pa_cons (pv 1) (pa_cons (pv 2) pa_nil))))
  (pss_cons (ps_if (PW.pt (pw_or (pt_cmpR op_isN (pv 4) pe_non (nomark _)) (pw_or1 (pt_not (pt_val (pe_fn Ftw hr rfl (pa_cons pe_int (pa_cons (pe_lst (pa_cons (pv 1) (pa_cons (pv 2) pa_nil))) (pa_cons (pv 4) (pa_cons (pv 3) pa_nil)))))))))) (pss_one (ps_ret pe_bl)) pss_nil)
  (pss_cons (ps_set (i := 5) scL_search_right.nd rfl (by first | exact Or.inl rfl | exact Or.inr rfl) (pe_fn Fsum hr rfl (pa_cons (pe_lc (own := [("worth", 15), ("part", 16)]) (g := (gTup K 2 (gCons (gName 15) (gCons (gName 16) gNil)))) rfl scL_search_right.nd (pi_tup (pv 1)) (blkOk_by (own := [("worth", 15), ("part", 16)]) (N := ["draw", "one", "cost", "by_name", "limit", "chance", "marks", "mark", "whole", "count", "last", "memo", "beside", "due", "less", "worth", "part"]) (sc := d_law_search_right.sco) (by decide +kernel)) (fun _ _ _ _ _ => (pg_tup rfl (pgs_cons (pg_name (i := 15) scL_search_right.nd rfl (by first | exact Or.inl rfl | exact Or.inr rfl)) (pgs_cons (pg_name (i := 16) scL_search_right.nd rfl (by first | exact Or.inl rfl | exact Or.inr rfl)) pgs_nil)))) (fun _ _ _ _ _ => pts_one (pt_not (pt_val (pe_fn Fb hr rfl (pa_cons (pv 15) (pa_cons (pv 4) pa_nil)))))) (fun _ _ _ _ _ => (pv 16))) pa_nil)))
  (pss_cons (ps_if (pt_not (pt_val (pe_fn Ftw hr rfl (pa_cons pe_int (pa_cons (pe_lst (pa_cons (pv 1) (pa_cons (pv 2) pa_nil))) (pa_cons (pe_fn Fd hr rfl (pa_cons (pe_tup (pa_cons pe_int (pa_cons pe_int pa_nil))) (pa_cons (pv 5) pa_nil))) (pa_cons (pe_not (pv 3)) pa_nil))))))) (pss_one (ps_ret pe_bl)) pss_nil)
  (pss_cons (ps_set (i := 6) scL_search_right.nd rfl (by first | exact Or.inl rfl | exact Or.inr rfl) (pe_lst (pa_cons (pv 4) (pa_cons (pe_fn Fu hr rfl (pa_cons (pv 4) (pa_cons (pe_tup (pa_cons pe_int (pa_cons pe_int pa_nil))) pa_nil))) (pa_cons (pe_fn Fadd hr rfl (pa_cons (pv 4) (pa_cons (pe_tup (pa_cons pe_int (pa_cons pe_int pa_nil))) pa_nil))) (pa_cons (pe_fn Fu hr rfl (pa_cons (pe_ix (show IxR _ (rIx K) from ix_seq) (pe_ix (show IxR _ (rIx K) from ix_seq) (pv 1) pe_int (fun _ _ => rfl)) pe_int (fun _ _ => rfl)) (pa_cons (pe_tup (pa_cons pe_int (pa_cons pe_int pa_nil))) pa_nil))) (pa_cons (pe_ix (show IxR _ (rIx K) from ix_seq) (pe_ix (show IxR _ (rIx K) from ix_seq) (pv 1) (pe_fn Ftk hr rfl (pa_cons (pv 0) (pa_cons (pe_callB call_len_seq rfl T.len WkB.b_len (pa_cons (pv 1) pa_nil)) pa_nil))) (fun _ _ => rfl)) pe_int (fun _ _ => rfl)) (pa_cons (pe_fn Fadd hr rfl (pa_cons (pe_ix (show IxR _ (rIx K) from ix_seq) (pe_ix (show IxR _ (rIx K) from ix_seq) (pv 1) (pe_un un_neg pe_int) (fun _ _ => rfl)) pe_int (fun _ _ => rfl)) (pa_cons (pe_tup (pa_cons pe_int (pa_cons pe_int pa_nil))) pa_nil))) pa_nil))))))))
  (pss_cons (ps_for PassesOwn.never rfl (pi_list (pe_slice sl_list (pe_fn Fmix hr rfl (pa_cons (pv 0) (pa_cons (pv 6) pa_nil))) po_none (po_some pe_int))) (pg_name (i := 7) scL_search_right.nd rfl (by first | exact Or.inl rfl | exact Or.inr rfl)) (pss_cons (ps_set (i := 8) scL_search_right.nd rfl (by first | exact Or.inl rfl | exact Or.inr rfl) (pe_fn Fg hr rfl (pa_cons (pv 7) (pa_cons (pv 4) pa_nil))))
  (pss_cons (ps_if (pt_not (pt_val (pe_fn Ftw hr rfl (pa_cons pe_int (pa_cons (pe_lst (pa_cons (pv 1) (pa_cons (pv 2) (pa_cons (pv 7) pa_nil)))) (pa_cons (pv 8) (pa_cons (pv 3) pa_nil))))))) (pss_one (ps_ret pe_bl)) pss_nil)
  (pss_cons (ps_par3 (i := 10) (j := 11) (l := 12) rfl scL_search_right.nd rfl rfl rfl (by decide) (by decide) (by decide) rfl rfl rfl (pa_cons pe_non (pa_cons (WkN.pe_nnew (sh := [true, false])) (pa_cons (WkN.pe_nnew (sh := [true, false])) pa_nil))) rfl)
  (pss_cons (ps_for PassesOwn.never rfl (pi_list (pe_lst (pa_cons pe_int (pa_cons pe_int (pa_cons pe_int (pa_cons (pe_ifExp (pt_cmpR op_lt (pe_callB call_len_seq rfl T.len WkB.b_len (pa_cons (pv 1) pa_nil)) pe_int (nomark _)) (pe_op op_add pe_int (pe_fn Ftk hr rfl (pa_cons (pv 0) (pa_cons pe_int pa_nil)))) pe_int) pa_nil)))))) (pg_name (i := 9) scL_search_right.nd rfl (by first | exact Or.inl rfl | exact Or.inr rfl)) (pss_cons (ps_par (i := 13) (j := 14) rfl scL_search_right.nd rfl rfl (by decide) rfl rfl (pa_cons (pe_fn Ffew hr rfl (pa_cons (pv 1) (pa_cons (pv 2) (pa_cons (pv 7) (pa_cons (pv 9) (pa_cons (pv 11) pa_nil)))))) (pa_cons (pe_fn Fwo hr rfl (pa_cons (pv 1) (pa_cons (pv 2) (pa_cons (pv 7) (pa_cons (pv 9) pa_nil))))) pa_nil)) rfl)
  (pss_cons (ps_if (PW.pt (pw_or (pt_not (pt_val (pe_fn Ftw hr rfl (pa_cons pe_int (pa_cons (pe_lst (pa_cons (pv 1) (pa_cons (pv 2) (pa_cons (pv 7) (pa_cons (pv 9) pa_nil))))) (pa_cons (pv 13) (pa_cons (pv 3) pa_nil))))))) (pw_or1 (pt_not (pt_val (pe_fn Ftw hr rfl (pa_cons pe_int (pa_cons (pe_lst (pa_cons (pv 1) (pa_cons (pv 2) (pa_cons (pv 7) (pa_cons (pv 9) pa_nil))))) (pa_cons (pv 14) (pa_cons (pe_not (pv 3)) pa_nil)))))))))) (pss_one (ps_ret pe_bl)) pss_nil)
  (pss_cons (ps_if (PW.pt (pw_or (pt_cmpR (op_neD (by have := hr.un; dsimp only [cxOf, Cx.nox]; omega)) (pv 13) (pe_fn Fbel hr rfl (pa_cons (pv 1) (pa_cons (pv 2) (pa_cons (pv 7) (pa_cons (pv 9) (pa_cons (pv 4) (pa_cons (pv 12) pa_nil))))))) (nomark _)) (pw_or (pt_val (pe_fn Fb hr rfl (pa_cons (pv 13) (pa_cons (pv 14) pa_nil)))) (pw_or1 (pt_val (pe_fn Fb hr rfl (pa_cons (pv 8) (pa_cons (pv 13) pa_nil)))))))) (pss_one (ps_ret pe_bl)) pss_nil)
  (pss_cons (ps_if (PW.pt (pw_or (PW.pt (pw_and (pt_cmpR op_eq (pv 9) pe_int (nomark _)) (pw_and1 (PW.pt (pw_or (pt_cmpR (op_neD (by have := hr.un; dsimp only [cxOf, Cx.nox]; omega)) (pv 13) (pv 7) (nomark _)) (pw_or1 (pt_cmpR (op_neD (by have := hr.un; dsimp only [cxOf, Cx.nox]; omega)) (pv 14) (pv 7) (nomark _)))))))) (pw_or1 (PW.pt (pw_and (pt_cmpR op_notN (pv 10) pe_non (nomark _)) (pw_and1 (pt_val (pe_fn Fb hr rfl (pa_cons (pv 13) (pa_cons (pv 10) pa_nil)))))))))) (pss_one (ps_ret pe_bl)) pss_nil)
  (pss_one (ps_set (i := 10) scL_search_right.nd rfl (by first | exact Or.inl rfl | exact Or.inr rfl) (pv 13))))))))
  (pss_one (ps_set (i := 3) scL_search_right.nd rfl (by first | exact Or.inl rfl | exact Or.inr rfl) (pe_not (pv 3)))))))))
  (pss_one (ps_ret pe_bl)))))))), ?_⟩)
  refine body_Dr h fun F n q b cnt up L hp hct => ?_
  obtain ⟨bx, c, by_⟩ := q
  obtain ⟨hb, hc⟩ := hp
  have hb : LB bx := hb
  have hc : LC c := hc
  have hct : cnt n + 12 ≤ 100000 := hct
  have hl := lim_bits hb hc
  have hg : K35M.gain bx c (K35M.barR bx c) = 0 := K35M.barR_gain hb.box.pos hb.box.one hb.box.up hc.pos hb.box.l1
  have l1 := hb.box.l1
  have l2 := hb.box.l2
  try dsimp only [cxOf, Cx.nox, Cx.wish, encSr]
  walk_at "gd"
  refine c_fn (enc := boxR) (bx, c) ⟨hb.box, ⟨6, hb.ex⟩, hc.bits.mono (by decide), hc.pos⟩ ?_
  have f0 := fine0 hb hc
  have f2 := fine2 hb hc
  have f1 := fun x (hx : Bits 100 x) => fine1 hb hc hx
  have hmean : meanR bx c = 1 / K35M.chance (bx.filter fun q => !decide (q.1 < K35M.barR bx c)) := rfl
  have sp := bar_reached hb.box hc.pos
  show wG _ _ _ (.dat (frD (K35M.barR bx c))) _ _ _
  generalize K35M.barR bx c = lim at hl hg f0 f1 hmean sp ⊢
  walk_at "gd"
  refine r_isN ?_
  walk_at "gd"
  refine ⟨(fun z => nomatch z), fun _ => ?_⟩
  walk_at "gd"
  refine c_fn (enc := encTw) (0, [boxD bx, frD c], lim, by_) f0 ?_
  walk_at "gd"
  refine ⟨(fun z => nomatch z), fun _ => ?_⟩
  walk_at "gd"
  refine w_lcT ?_ (sets_two (by decide) (by decide))
  walk_at "gd"
  refine ⟨_, rfl, by rw [List.length_map]; omega, made_if (xs := bx) (enc := rowD) (keep := fun q => !decide (q.1 < lim)) (out := fun q => frD q.2) (fun D ys i q hq => ?_) ?_⟩
  · walk_at "gd"
    refine c_fn (enc := twoR) (q.1, lim) ⟨(hb.wb (List.mem_of_getElem? hq)).mono (by decide), hl.mono (by decide)⟩ ?_
    walk_at "gd"
    refine ⟨rfl, fun _ => ?_, fun _ => rfl⟩
    walk_at "gd"
    exact ⟨rfl, rfl⟩
  walk_at "gd"
  obtain ⟨S, z⟩ := hb.ex
  have zf : SzB 6 S (bx.filter fun q => !decide (q.1 < lim)) := z.sub (fun q hq => (List.mem_filter.mp hq).1) (List.length_filter_le _ _)
  have ne : (bx.filter fun q => !decide (q.1 < lim)) ≠ [] := fun e => by
    obtain ⟨q, hq, h⟩ := sp
    have : q ∈ bx.filter fun q => !decide (q.1 < lim) := List.mem_filter.mpr ⟨hq, by simp [h]⟩
    rw [e] at this
    cases this
  have cn := chance_num (b := bx.filter fun q => !decide (q.1 < lim)) (fun q hq => hb.box.pos q (List.mem_filter.mp hq).1) ne
  refine c_fnE (enc := listR) ((bx.filter fun q => !decide (q.1 < lim)).map (·.2)) (by rw [listR, List.map_map]; rfl) zf.sums.1 ?_
  rw [sum_chance]
  walk_at "gd"
  refine c_fnE (enc := twoR) (1, K35M.chance (bx.filter fun q => !decide (q.1 < lim))) rfl ⟨o4, zf.sums.2.mono (by decide), cn⟩ ?_
  walk_at "gd"
  rw [← hmean]
  refine c_fn (enc := encTw) (2, [boxD bx, frD c], meanR bx c, !by_) f2 ?_
  walk_at "gd"
  refine ⟨(fun z => nomatch z), fun _ => ?_⟩
  obtain ⟨q0, b', rfl⟩ : ∃ q0 b', bx = q0 :: b' := by
    cases bx with
    | nil => exact absurd l1 (by decide)
    | cons q0 b' => exact ⟨q0, b', rfl⟩
  generalize hbx : q0 :: b' = bx at *
  have g0 : bx[0]? = some q0 := by rw [← hbx]; rfl
  have m0 := List.mem_of_getElem? g0
  walk_at "gd"
  refine c_fnE (enc := twoR) (lim, third) rfl ⟨hl.mono (by decide), third_b.mono (by decide)⟩ ?_
  walk_at "gd"
  refine c_fnE (enc := twoR) (lim, half) rfl ⟨hl.mono (by decide), half_b.mono (by decide)⟩ ?_
  walk_at "gd"
  refine r_ix (atI_map (f := rowD) g0) ?_
  walk_at "gd"
  refine c_fnE (enc := twoR) (q0.1, four) rfl ⟨(hb.wb m0).mono (by decide), four_b.mono (by decide)⟩ ?_
  walk_at "gd"
  refine c_len (.inr rfl) ?_
  rw [List.length_map]
  walk_at "gd"
  refine c_take (n := n) (many := (bx.length : Int)) L (by omega) (by omega) (by omega) fun r r0 r1 => ?_
  have hr : r.toNat < bx.length := by omega
  have g1 := List.getElem?_eq_getElem hr
  have m1 := List.mem_of_getElem? g1
  have er : r = ((r.toNat : Nat) : Int) := by omega
  rw [er]
  refine r_ix (atI_map (f := rowD) g1) ?_
  walk_at "gd"
  have gl : bx[bx.length - 1]? = some (bx.getD (bx.length - 1) (0, 0)) := K35M.get_at (by omega)
  have ml := List.mem_of_getElem? gl
  generalize bx.getD (bx.length - 1) (0, 0) = ql at gl ml
  refine r_ix (atI_last (f := rowD) l1 gl) ?_
  walk_at "gd"
  refine c_fnE (enc := twoR) (ql.1, 1) rfl ⟨(hb.wb ml).mono (by decide), o4⟩ ?_
  walk_at "gd"
  have hms : ∀ x ∈ [lim, lim - third, lim + half, q0.1 - four, (bx[r.toNat]'hr).1, ql.1 + 1], Bits 100 x := fun x hx => by
    simp only [List.mem_cons, List.mem_nil_iff, or_false] at hx
    rcases hx with rfl | rfl | rfl | rfl | rfl | rfl
    · exact hl.mono (by decide)
    · exact (hl.minus third_b).mono (by decide)
    · exact (hl.plus half_b).mono (by decide)
    · exact ((hb.wb m0).minus four_b).mono (by decide)
    · exact (hb.wb m1).mono (by decide)
    · exact ((hb.wb ml).plus one_b).mono (by decide)
  refine ⟨[lim, lim - third, lim + half, q0.1 - four, (bx[r.toNat]'hr).1, ql.1 + 1].map frD, rfl, (show 6 ≤ 100000 by decide), ?_⟩
  have hlen : [lim, lim - third, lim + half, q0.1 - four, (bx[r.toNat]'hr).1, ql.1 + 1].length = 6 := rfl
  generalize [lim, lim - third, lim + half, q0.1 - four, (bx[r.toNat]'hr).1, ql.1 + 1] = ms at hms hlen ⊢
  walk_at "gd"
  refine w_forL ?_
  walk_at "gd"
  have hcu : cnt (up n) = cnt n + 1 := upN_cnt L 1 n
  refine c_dr (enc := oneL) (n := up n) (ms.map frD) rfl L ⟨steadys_fr _, by rw [List.length_map]; omega⟩ (by rw [hcu, List.length_map]; omega) fun j d hj hd => ?_
  obtain ⟨es, rfl, hel, hes⟩ := hd
  rw [List.length_map] at hel hj
  walk_at "gd"
  have e4 : WkD.cutD es none (some 4) = es.take 4 := cutD_to es 4
  rw [e4]
  refine ⟨es.take 4, rfl, ?_⟩
  refine ⟨fun i ρ m => ∃ (by' : Bool) (jj : Nat) (s5 s6 s7 s8 s9 s10 s11 s12 s13 s14 s15 s16 : Sl), ρ = [.raw (.ref b), .dat (boxD bx), .dat (frD c), .dat (.bool by'), .dat (frD lim), s5, s6, s7, s8, s9, s10, s11, s12, s13, s14, s15, s16] ∧ jj ≤ 7 + i ∧ m = upN up jj n,
    ⟨by_, j + 1, _, _, _, _, _, _, _, _, _, _, _, _, rfl, by omega, (upN_add j 1 n).trans rfl⟩, fun i d ρ m hi hI => ?_, fun ρ m hI => ?_⟩
  rotate_left
  · obtain ⟨by', jj, s5, s6, s7, s8, s9, s10, s11, s12, s13, s14, s15, s16, rfl, hjj, rfl⟩ := hI
    walk_at "gd"
    have : (es.take 4).length ≤ 4 := List.length_take_le ..
    exact ⟨jj, _, by omega, rfl, rfl, rfl⟩
  obtain ⟨by', jj, s5, s6, s7, s8, s9, s10, s11, s12, s13, s14, s15, s16, rfl, hjj, rfl⟩ := hI
  have hi4 : i < 4 := by
    have h1 := (List.getElem?_eq_some_iff.mp hi).1
    have h2 : (es.take 4).length ≤ 4 := List.length_take_le ..
    omega
  obtain ⟨x, hxm, rfl⟩ := List.mem_map.mp (hes d (List.mem_of_mem_take (List.mem_of_getElem? hi)))
  have hx := hms x hxm
  walk_at "gd"
  refine c_fn (enc := twoR) (x, lim) ⟨hx.mono (by decide), hl.mono (by decide)⟩ ?_
  walk_at "gd"
  refine c_fn (enc := encTw) (1, [boxD bx, frD c, frD x], K35M.mx x lim, by') (f1 x hx) ?_
  walk_at "gd"
  refine ⟨(fun z => nomatch z), fun _ => ?_⟩
  refine w_next ?_
  show wS F K (tSeq _ _) _ _ _
  refine w_par3n fun D1 D2 => ?_
  obtain ⟨S', X, few⟩ := few_ex hb hc hx
  have LM1 : DLens ((F.dic K P w [true, false] D1).dic K P w [true, false] D2) K P w [true, false] D1 (fun s => s.1.2) (fun s es => ((s.1.1, es), s.2)) := DLens.dic.lift
  have LM2 : DLens ((F.dic K P w [true, false] D1).dic K P w [true, false] D2) K P w [true, false] D2 (fun s => s.2) (fun s es => (s.1, es)) := DLens.dic
  have LD := (L.dic (K := K) (P' := P) (w := w) (sh := [true, false]) (D := D1)).dic (K := K) (P' := P) (w := w) (sh := [true, false]) (D := D2)
  have hcj : cnt (upN up jj n) = cnt n + jj := upN_cnt L jj n
  walk_at "gd"
  refine w_forL ?_
  walk_at "gd"
  refine c_len (.inr rfl) ?_
  walk_at "gd"
  refine if_con (Ψ := fun r μ => ∃ k4 j' : Nat, 2 ≤ k4 ∧ k4 ≤ 4 ∧ j' ≤ 8 + i ∧ r = .dat (.int (k4 : Int)) ∧ μ = ((upN up j' n, []), [])) (fun h => ?_) (fun h => ?_) (fun r μ hΨ => ?_)
  · walk_at "gd"
    refine c_take (n := ((upN up jj n, []), [])) (many := 3) LD (by show cnt (upN up jj n) ≤ _; omega) (by decide) (by decide) fun r r0 r1 => ?_
    walk_at "gd"
    refine ⟨(2 + r).toNat, jj + 1, by omega, by omega, by omega, ?_, rfl⟩
    have : (((2 + r).toNat : Nat) : Int) = 2 + r := by omega
    rw [this]
  · walk_at "gd"
    exact ⟨2, jj, Nat.le_refl _, by decide, by omega, rfl, rfl⟩
  obtain ⟨k4, j', hk4, hk4', hj', rfl, rfl⟩ := hΨ
  walk_at "gd"
  refine ⟨[0, 1, 2, k4].map fun (k : Nat) => PyData.int (k : Int), rfl, ?_⟩
  have hcs : ∀ i k, [0, 1, 2, k4][i]? = some k → k ≤ 4 ∧ ∀ k', 0 < i → [0, 1, 2, k4][i - 1]? = some k' → k' ≤ k := fun i k h => by
    match i, h with
    | 0, h => cases h; exact ⟨by omega, fun k' z => absurd z (by omega)⟩
    | 1, h => cases h; exact ⟨by omega, fun k' _ h' => by cases h'; omega⟩
    | 2, h => cases h; exact ⟨by omega, fun k' _ h' => by cases h'; omega⟩
    | 3, h => cases h; exact ⟨by omega, fun k' _ h' => by cases h'; omega⟩
    | i + 4, h => cases h
  generalize [0, 1, 2, k4] = cs at hcs
  refine ⟨fun i ρ μ => ∃ (s9 last s13 s14 : Sl) (es1 es2 : Ent [true, false]), ρ = [.raw (.ref b), .dat (boxD bx), .dat (frD c), .dat (.bool by'), .dat (frD lim), s5, s6, .dat (frD x), .dat (frD (K35M.mx x lim)), s9, last, .raw (.ref D1), .raw (.ref D2), s13, s14, s15, s16] ∧
      μ = ((upN up j' n, es1), es2) ∧ GoodK (K35M.V bx c) (x :: bx.map (·.1)) 12 es1 ∧ GoodK (K35M.B bx c lim) (x :: bx.map (·.1)) 12 es2 ∧ ((i = 0 ∧ last = .dat .none) ∨ (0 < i ∧ ∃ k', cs[i - 1]? = some k' ∧ last = .dat (frD (K35M.V bx c k' x)))),
    ⟨_, _, _, _, [], [], rfl, rfl, GoodK.none, GoodK.none, .inl ⟨rfl, rfl⟩⟩, fun i2 d ρ μ hi2 hI => ?_, fun ρ μ hI => ?_⟩
  rotate_left
  · obtain ⟨s9, last, s13, s14, es1, es2, rfl, rfl, _, _, _⟩ := hI
    walk_at "gd"
    refine ⟨!by', j', _, _, _, _, _, _, _, _, _, _, _, _, rfl, by omega, rfl⟩
  obtain ⟨s9, last, s13, s14, es1, es2, rfl, rfl, G1, G2, hlast⟩ := hI
  obtain ⟨k, hk, rfl⟩ := get_map hi2
  obtain ⟨hk4b, hprev⟩ := hcs i2 k hk
  walk_at "gd"
  have fk := few k lim
  have B : Base 6 S' bx c x X := fk.B
  have hV4 : ∀ j, j ≤ 4 → Bits 4000 (K35M.V bx c j x) := fun j hj => in4 (B.V (i := j) (by omega) (B.ix.mono B.pX (Nat.dvd_refl _) (by decide))) (Nat.lt_trans (B.small (by omega)) (by decide +kernel)) (Nat.pow_le_pow_right (by decide) (by omega))
  have hN4 : Bits 4000 (K35M.N bx c x k) := in4 (B.N (i := k) (by omega)) (Nat.lt_trans (B.small (by omega)) (by decide +kernel)) (Nat.pow_le_pow_right (by decide) (by omega))
  have hmx : Bits 4000 (K35M.mx x lim) := by
    unfold K35M.mx
    split
    · exact hl.mono (by decide)
    · exact hx.mono (by decide)
  have hBV : K35M.B bx c lim k x = K35M.V bx c k x := K35M.B_eq hb.box.pos hb.box.one hg
  have hNV : ¬ K35M.V bx c k x < K35M.N bx c x k := Rat.not_lt.mpr (K35M.N_le hb.box.pos)
  have hVt : ¬ K35M.mx x lim < K35M.V bx c k x := Rat.not_lt.mpr (K35M.V_top hb.box.pos hb.box.one hg)
  refine c_me (enc := encFew) ⟨6, S', bx, c, x, X, x :: bx.map (·.1), x, k, lim⟩ rfl LM1 ⟨fk, by show k < 5; omega, by show k ≤ 12; omega⟩ (G1.down (by show k ≤ 12; omega)) fun es1' g1' r1' => ?_
  have G1' : GoodK (K35M.V bx c) (x :: bx.map (·.1)) 12 es1' := G1.all g1' r1'
  walk_at "gd"
  refine c_fn (enc := encFew) ⟨6, S', bx, c, x, X, x :: bx.map (·.1), x, k, lim⟩ ⟨fk, by show k ≤ 12; omega, rfl⟩ ?_
  walk_at "gd"
  refine c_fn (enc := encTw) (3, [boxD bx, frD c, frD x, .int (k : Int)], K35M.V bx c k x, by') (fine3 hb hc hx (by omega)) ?_
  walk_at "gd"
  refine ⟨(fun z => nomatch z), fun _ => ?_⟩
  walk_at "gd"
  refine c_fn (enc := encTw) (4, [boxD bx, frD c, frD x, .int (k : Int)], K35M.N bx c x k, !by') (fine4 hb hc hx (by omega)) ?_
  walk_at "gd"
  refine ⟨(fun z => nomatch z), fun _ => ?_⟩
  walk_at "gd"
  refine c_me (enc := encBelow) ⟨6, S', bx, c, x, X, x :: bx.map (·.1), x, k, lim⟩ rfl LM2 ⟨fk, by show k < 5; omega, by show k ≤ 12; omega, hl.mono (by decide)⟩ (G2.down (by show k ≤ 12; omega)) fun es2' g2' r2' => ?_
  have G2' : GoodK (K35M.B bx c lim) (x :: bx.map (·.1)) 12 es2' := G2.all g2' r2'
  refine r_neD rfl rfl rfl rfl ?_
  show ∃ b, Sl.dat (.bool (!PyData.eqv (frD (K35M.V bx c k x)) (frD (K35M.B bx c lim k x)))) = .dat (.bool b) ∧ _
  rw [hBV, eqv_self]
  walk_at "gd"
  refine ⟨(fun z => nomatch z), fun _ => ?_⟩
  walk_at "gd"
  refine c_fn (enc := twoR) (K35M.V bx c k x, K35M.N bx c x k) ⟨hV4 k (by omega), hN4⟩ ?_
  walk_at "gd"
  refine ⟨fun z => absurd (of_decide_eq_true z) hNV, fun _ => ?_⟩
  walk_at "gd"
  refine c_fn (enc := twoR) (K35M.mx x lim, K35M.V bx c k x) ⟨hmx, hV4 k (by omega)⟩ ?_
  walk_at "gd"
  refine ⟨fun z => absurd (of_decide_eq_true z) hVt, fun _ => ?_⟩
  walk_at "gd"
  refine ⟨fun hk0 => ?_, fun hk0 => ?_⟩
  · obtain rfl : k = 0 := by
      have := of_decide_eq_true hk0
      omega
    walk_at "gd"
    refine r_neD rfl rfl rfl rfl ?_
    show ∃ b, Sl.dat (.bool (!PyData.eqv (frD x) (frD x))) = .dat (.bool b) ∧ _
    rw [eqv_self]
    walk_at "gd"
    refine ⟨(fun z => nomatch z), fun _ => ?_⟩
    walk_at "gd"
    refine r_neD rfl rfl rfl rfl ?_
    show ∃ b, Sl.dat (.bool (!PyData.eqv (frD x) (frD x))) = .dat (.bool b) ∧ _
    rw [eqv_self]
    walk_at "gd"
    refine ⟨(fun z => nomatch z), fun _ => ?_⟩
    rcases hlast with ⟨_, rfl⟩ | ⟨h0, k', hk', rfl⟩
    · walk_at "gd"
      refine r_notN ?_
      walk_at "gd"
      refine ⟨(fun z => nomatch z), fun _ => ?_⟩
      refine ⟨(fun z => nomatch z), fun _ => ?_⟩
      walk_at "gd"
      refine ⟨_, _, _, _, es1', es2', rfl, rfl, G1', G2', .inr ⟨Nat.succ_pos _, 0, hk, rfl⟩⟩
    · walk_at "gd"
      refine r_notN ?_
      walk_at "gd"
      refine ⟨fun _ => ?_, (fun z => nomatch z)⟩
      walk_at "gd"
      refine c_fn (enc := twoR) (K35M.V bx c 0 x, K35M.V bx c k' x) ⟨hV4 0 (by omega), hV4 k' (by have := hprev k' h0 hk'; omega)⟩ ?_
      walk_at "gd"
      refine ⟨fun z => absurd (of_decide_eq_true z) (Rat.not_lt.mpr (K35M.V_le hb.box.pos (hprev k' h0 hk'))), fun _ => ?_⟩
      walk_at "gd"
      refine ⟨_, _, _, _, es1', es2', rfl, rfl, G1', G2', .inr ⟨Nat.succ_pos _, 0, hk, rfl⟩⟩
  · walk_at "gd"
    refine ⟨(fun z => nomatch z), fun _ => ?_⟩
    rcases hlast with ⟨_, rfl⟩ | ⟨h0, k', hk', rfl⟩
    · walk_at "gd"
      refine r_notN ?_
      walk_at "gd"
      refine ⟨(fun z => nomatch z), fun _ => ?_⟩
      refine ⟨(fun z => nomatch z), fun _ => ?_⟩
      walk_at "gd"
      refine ⟨_, _, _, _, es1', es2', rfl, rfl, G1', G2', .inr ⟨Nat.succ_pos _, k, hk, rfl⟩⟩
    · walk_at "gd"
      refine r_notN ?_
      walk_at "gd"
      refine ⟨fun _ => ?_, (fun z => nomatch z)⟩
      walk_at "gd"
      refine c_fn (enc := twoR) (K35M.V bx c k x, K35M.V bx c k' x) ⟨hV4 k (by omega), hV4 k' (by have := hprev k' h0 hk'; omega)⟩ ?_
      walk_at "gd"
      refine ⟨fun z => absurd (of_decide_eq_true z) (Rat.not_lt.mpr (K35M.V_le hb.box.pos (hprev k' h0 hk'))), fun _ => ?_⟩
      walk_at "gd"
      refine ⟨_, _, _, _, es1', es2', rfl, rfl, G1', G2', .inr ⟨Nat.succ_pos _, k, hk, rfl⟩⟩
end
end K35
/-! the steps over data that need no thought -/
local macro_rules | `(tactic| walk_at "gd") => `(tactic| repeat (first
  | ((with_reducible refine' WkD.w_var ?hv ?hn ?_); (case hv => exact rfl); (case hn => exact (fun z => nomatch z)))
  | with_reducible refine WkD.w_int ?_ | with_reducible refine WkD.w_str ?_ | with_reducible refine WkD.w_non ?_ | with_reducible refine WkD.w_bl ?_
  | with_reducible refine WkD.w_chain ?_ | with_reducible refine WkD.w_tyc ?_ | ((with_reducible refine' WkD.c_isi ?hu ?_); (case hu => decide))
  | with_reducible refine WkD.w_op ?_ | with_reducible refine WkD.w_un ?_ | with_reducible refine WkD.w_nil ?_ | with_reducible refine WkD.w_cons ?_ | ((with_reducible refine' WkD.w_isi2 ?ha ?hb ?_); (case ha => decide); (case hb => decide)) | with_reducible refine WkD.w_CB ?_ | with_reducible refine WkD.w_call ?_
  | with_reducible refine WkD.w_if ?_ | with_reducible refine WkD.w_andV ?_ | with_reducible refine WkD.w_orV ?_ | with_reducible refine WkD.w_notV ?_ | with_reducible refine WkD.w_test ?_ | with_reducible refine WkD.w_tB ?_ | with_reducible refine WkD.w_not ?_
  | with_reducible refine WkD.w_and ?_ | with_reducible refine WkD.w_or ?_ | with_reducible refine WkD.w_yes ?_ | with_reducible refine WkD.w_next ?_ | with_reducible refine WkD.w_seq ?_ | with_reducible refine WkD.w_ret ?_ | with_reducible refine WkD.w_retN ?_
  | with_reducible refine WkD.w_drop ?_ | with_reducible refine WkD.w_ifS ?_ | with_reducible refine WkD.w_asg ?_ | with_reducible refine WkD.w_sl ?_ | with_reducible refine WkD.w_po0 ?_ | with_reducible refine WkD.w_po1 ?_ | with_reducible refine WkD.e_si ?_ | with_reducible refine WkD.l_A ?_ | with_reducible refine WkD.l_L ?_ | with_reducible refine WkD.w_cont ?_ | with_reducible refine WkD.w_break ?_ | with_reducible refine WkD.w_gt2 ?_ | with_reducible refine WkD.w_gt3 ?_ | with_reducible refine WkD.w_gcons ?_ | with_reducible refine WkD.w_gnil ?_ | with_reducible refine WkD.w_name ?_ | with_reducible refine WkD.w_par ?_
  | with_reducible refine WkD.r_I0i ?_ | with_reducible refine WkD.r_I0b ?_ | with_reducible refine WkD.u_U ?_ | with_reducible refine WkD.r_eqI ?_ | with_reducible refine WkD.r_neI ?_ | with_reducible refine WkD.r_eqS ?_ | with_reducible refine WkD.r_eqB ?_
  | ((with_reducible refine' WkD.r_ix ?hi ?_); (case hi => exact rfl)) | ((with_reducible refine' WkD.r_ixl ?hi ?_); (case hi => exact rfl))
  | ((with_reducible refine' WkD.r_ixT ?hi ?_); (case hi => exact rfl)) | ((with_reducible refine' WkD.r_ixL ?hi ?_); (case hi => exact rfl))
  | with_reducible refine WkD.c_gcd ?_ | with_reducible refine WkD.c_abs ?_ | with_reducible refine WkD.c_int ?_ | with_reducible refine WkD.e_bool ?_ | with_reducible refine WkD.w_tup ?_ | with_reducible refine WkD.w_lst ?_ | with_reducible refine WkD.e_ab ?_ | with_reducible refine WkD.d0 ?_ | with_reducible refine WkD.d1 ?_ | with_reducible refine WkD.d2 ?_ | with_reducible refine WkD.d3 ?_ | with_reducible refine WkD.d4 ?_))

namespace WkD
open PySem PySem.Spec PyProof.Rows L2 WkH WkQ WkS WkF WkN
section
variable {S : Type} {F : Eff S} {K : PySem.W.Frag} {ρ : List Sl} {n : S} {Φ : Sl → S → Prop} {P' : Program} {w : World} {sh : List Bool} {α : Type} {enc : α → List PyData} {pre : α → Prop} {Good : α → Ent sh → Prop} {Rel : α → Ent sh → Ent sh → Prop} {out : α → PyData}
/-- f(.., {}): a call with a memo of its own -/
theorem w_meNew {t1 t2 t3 t4 : TE} (h : wA F K (tCons t1 (tCons t2 (tCons t3 (tCons t4 tNil)))) ρ n fun as m => ∃ a : α, as = (enc a).map .dat ∧ pre a ∧ Good a [] ∧ Φ (.dat (out a)) m) :
    wE F K (tCall (spMemo K P' w sh enc pre Good Rel out) [] E0 (tCons t1 (tCons t2 (tCons t3 (tCons t4 (tCons (tNNew K P' w sh) tNil)))))) ρ n Φ := fun σ H Q jn rp q => by
  refine (show _ from h σ H (fun vs H1 => tNNew K P' w sh σ H1 fun v H2 => spMemo K P' w sh enc pre Good Rel out ((vs ++ [v]) ++ []) H2 Q E0) jn rp fun vs H1 as m ⟨a, e, hp, hg, hq⟩ j1 s1 ra => ?_)
  subst e
  intro D H2 nD k nd
  obtain ⟨j2, s2⟩ := dic_start (P' := P') (w := w) (sh := sh) j1 nD k nd
  refine ⟨S × Ent sh, F.dic K P' w sh D, (m, []), a, D, _, _, vs, DLens.dic, j2, List.append_nil _, ra.dats.mono s2, hp, hg, fun v H' es _ _ j3 s3 rv => ?_⟩
  exact q v H' _ _ hq j3.1 (s1.trans (s2.trans (s3.trans dic_sub))) (Dq.mono dic_sub rv)
end
end WkD
namespace K35
open PySem PySem.Spec PyProof.Rows L2 WkH WkE WkQ WkS WkF WkD WkN WkC WkT WkP
section
variable {P : Program} {w : World} {K : PySem.W.Frag} {mg : Str → Option Value} {base : Heap}
def encLr (q : List (Rat × Rat) × Rat × Bool) : List PyData := [boxD q.1, frD q.2.1, .bool q.2.2]
abbrev spLong : Sp := spF K encLr (fun q => LB q.1 ∧ LC q.2.1) fun _ => .bool true
theorem scL_long_right : FnScope ["one", "cost", "by_name", "mark"] ["one", "cost", "by_name"] d_law_long_right.sco := ⟨rfl, rfl, rfl, by decide +kernel, rfl, by decide +kernel, by decide +kernel⟩
theorem ok_llong {fd : FuncData} (F : Stands K d_law_long_right fd) (T : Bg K mg) (Ftw : Fn P w K mg base CX0 11 "_law_twice" ["way", "args", "due", "by_name"] (spTwice (K := K))) (Ffew : Fn P w K mg base CX0 18 "_law_few" ["one", "cost", "mark", "count", "memo"] (spFew (K := K) P w 13)) (Fwo : Fn P w K mg base CX0 4 "_law_without" ["one", "cost", "mark", "count"] (spWithout (K := K))) :
    FnOk P w K mg base CX0 19 d_law_long_right.adr fd ["one", "cost", "by_name"] (spLong (K := K)) := by
  refine FunD.ok F scL_long_right (fun vs H Q E h => len_F h fun _ => rfl) (fun cdv A outer s H vs Q E hr h => ⟨_, PSs.nox (pss_cons (ps_set (i := 3) scL_long_right.nd rfl (by first | exact Or.inl rfl | exact Or.inr rfl) (pe_ix (show IxR _ (rIx K) from ix_seq) (pe_ix (show IxR _ (rIx K) from ix_seq) (pv 0) pe_int (fun _ _ => rfl)) pe_int (fun _ _ => rfl)))
  (pss_one (ps_ret (pe_and (pe_fn Ftw hr rfl (pa_cons pe_int (pa_cons (pe_lst (pa_cons (pv 0) (pa_cons (pv 1) (pa_cons (pv 3) (pa_cons pe_int pa_nil))))) (pa_cons (pe_fn Ffew hr rfl (pa_cons (pv 0) (pa_cons (pv 1) (pa_cons (pv 3) (pa_cons pe_int (pa_cons (WkN.pe_nnew (sh := [true, false])) pa_nil)))))) (pa_cons (pv 2) pa_nil))))) (pe_one (pe_fn Ftw hr rfl (pa_cons pe_int (pa_cons (pe_lst (pa_cons (pv 0) (pa_cons (pv 1) (pa_cons (pv 3) (pa_cons pe_int pa_nil))))) (pa_cons (pe_fn Fwo hr rfl (pa_cons (pv 0) (pa_cons (pv 1) (pa_cons (pv 3) (pa_cons pe_int pa_nil))))) (pa_cons (pe_not (pv 2)) pa_nil)))))))))), ?_⟩)
  refine body_F h fun F n q hp => ?_
  obtain ⟨bx, c, by_⟩ := q
  obtain ⟨hb, hc⟩ := hp
  have hb : LB bx := hb
  have hc : LC c := hc
  have l1 := hb.box.l1
  obtain ⟨q0, b', rfl⟩ : ∃ q0 b', bx = q0 :: b' := by
    cases bx with
    | nil => exact absurd l1 (by decide)
    | cons q0 b' => exact ⟨q0, b', rfl⟩
  generalize hbx : q0 :: b' = bx at *
  have g0 : bx[0]? = some q0 := by rw [← hbx]; rfl
  have m0 := List.mem_of_getElem? g0
  have hx : Bits 100 q0.1 := (hb.wb m0).mono (by decide)
  obtain ⟨S', X, few⟩ := few_ex hb hc hx
  try dsimp only [cxOf, Cx.nox, Cx.wish, encLr]
  obtain ⟨T4, hT⟩ : ∃ T4, T4 = tCall (spFew (K := K) P w 13) [] E0 (tCons (tVar 0) (tCons (tVar 1) (tCons (tVar 3) (tCons (tC (.int 12)) (tCons (WkN.tNNew K P w [true, false]) tNil))))) := ⟨_, rfl⟩
  rw [← hT]
  walk_at "gd"
  refine r_ix (atI_map (f := rowD) g0) ?_
  walk_at "gd"
  rw [hT]
  refine w_meNew ?_
  walk_at "gd"
  refine ⟨⟨6, S', bx, c, q0.1, X, q0.1 :: bx.map (·.1), q0.1, 12, 0⟩, rfl, ⟨few 12 0, (show 12 < 13 by decide), Nat.le_refl 12⟩, GoodK.none.down (Nat.le_refl 12), ?_⟩
  walk_at "gd"
  refine c_fn (enc := encTw) (3, [boxD bx, frD c, frD q0.1, .int ((12 : Nat) : Int)], K35M.V bx c 12 q0.1, by_) (fine3 hb hc hx (Nat.le_refl 12)) ?_
  walk_at "gd"
  refine ⟨fun _ => ?_, (fun z => nomatch z)⟩
  walk_at "gd"
  refine c_fn (enc := encFew) ⟨6, S', bx, c, q0.1, X, q0.1 :: bx.map (·.1), q0.1, 12, 0⟩ ⟨few 12 0, Nat.le_refl 12, rfl⟩ ?_
  walk_at "gd"
  refine c_fn (enc := encTw) (4, [boxD bx, frD c, frD q0.1, .int ((12 : Nat) : Int)], K35M.N bx c q0.1 12, !by_) (fine4 hb hc hx (Nat.le_refl 12)) ?_
  exact ⟨rfl, rfl⟩
end
end K35
/-! What the law's refusals come to, in plain data. -/
namespace K35
open PySem PySem.Spec PyProof.Rows L2 WkH WkE WkQ WkS WkF WkD WkN WkC WkT WkP
/-- no value for the k-th argument -/
def BadAt (k : Nat) (d : PyData) : Prop := match k with
  | 0 => isBox d = false
  | 1 => isCost d = false
  | 2 => isFr d = false
  | _ => isWithin d 0 12 = false
def costsL : List PyData := [.tuple [.int 0, .int 1], .tuple [.int (-1), .int 2], .int 3, .none, .tuple [.int 2, .int 4], .list [.int 1, .int 2], .str (Str.ofString "1"), .tuple [.int 1, .int 0], .dict [], .tuple [.bool true, .int 1]]
def suresL : List PyData := [.none, .int 7, .tuple [.int 2, .int 4], .tuple [.int 1, .int 0], .list [.int 1, .int 2], .str (Str.ofString "1"), .tuple [.int 1, .int (-2)], .dict []]
def countsL : List PyData := [.int (-1), .int 13, .none, .bool true, .str (Str.ofString "1"), .list [.int 1], .tuple [.int 1], .dict []]
theorem vals_of {ds : List PyData} (h : ds.all valB = true) : ∀ d ∈ ds, Val d := fun d hd => Val.of (List.all_eq_true.mp h d hd)
theorem costs_ok : ∀ d ∈ costsL, BadAt 1 d ∧ Val d := by
  have h1 : ∀ d ∈ costsL, isCost d = false := fun d hd => by
    have : costsL.all (fun d => !isCost d) = true := by decide +kernel
    simpa using List.all_eq_true.mp this d hd
  exact fun d hd => ⟨h1 d hd, vals_of (by decide +kernel) d hd⟩
theorem sures_ok : ∀ d ∈ suresL, BadAt 2 d ∧ Val d := by
  have h1 : ∀ d ∈ suresL, isFr d = false := fun d hd => by
    have : suresL.all (fun d => !isFr d) = true := by decide +kernel
    simpa using List.all_eq_true.mp this d hd
  exact fun d hd => ⟨h1 d hd, vals_of (by decide +kernel) d hd⟩
theorem counts_ok : ∀ d ∈ countsL, BadAt 3 d ∧ Val d := by
  have h1 : ∀ d ∈ countsL, isWithin d 0 12 = false := fun d hd => by
    have : countsL.all (fun d => !isWithin d 0 12) = true := by decide +kernel
    simpa using List.all_eq_true.mp this d hd
  exact fun d hd => ⟨h1 d hd, vals_of (by decide +kernel) d hd⟩
def goodL (bx : List (Rat × Rat)) : List PyData := [boxD bx, frD half, .tuple [.int 0, .int 1], .int 2]
theorem box_val {bx : List (Rat × Rat)} (hb : LB bx) : Val (boxD bx) := by
  obtain ⟨n1, n2, n3, n4⟩ := rows_val hb
  exact ⟨n1, by show PyData.depthAll _ + 1 ≤ _; omega, by show wts _ + 3 ≤ _; omega, fun ds e => by cases e⟩
theorem good_val {bx : List (Rat × Rat)} (hb : LB bx) : ∀ d ∈ goodL bx, Val d := fun d hd => by
  unfold goodL at hd
  rcases List.mem_cons.mp hd with rfl | hd
  · exact box_val hb
  · exact vals_of (ds := [frD half, .tuple [.int 0, .int 1], .int 2]) (by decide +kernel) d hd
theorem Val.sm {d : PyData} (h : Val d) : small d = true := nice_small h.n
def errOf (spot : Nat) : Addr := match spot with
  | 0 => 91
  | 1 => 129
  | 2 => 72
  | _ => 110
def nWords (way : Nat) : Nat := match way with
  | 0 => 2
  | 1 => 3
  | 2 => 2
  | _ => 4
theorem need_words {way : Nat} (h : way < 5) : needW way = nWords way := by
  have : way = 0 ∨ way = 1 ∨ way = 2 ∨ way = 3 ∨ way = 4 := by omega
  rcases this with rfl | rfl | rfl | rfl | rfl <;> rfl
theorem bad_is {way spot : Nat} {ds : List PyData} {bx : List (Rat × Rat)} (hb : LB bx) (hw : way < 5) (hs : spot < nWords way) (lo : ∀ j, j < spot → gD ds j = gD (goodL bx) j) (bad : BadAt spot (gD ds spot)) : badW way ds = some (errOf spot, spot) := by
  have g0 : 0 < spot → badBox (gD ds 0) = none := fun h => by
    rw [lo 0 h]
    show badBox (boxD bx) = none
    unfold badBox
    rw [if_pos (isBox_of hb.box)]
  have g1 : 1 < spot → isCost (gD ds 1) = true := fun h => by
    rw [lo 1 h]
    show isCost (frD half) = true
    decide +kernel
  have g2 : 2 < spot → isFr (gD ds 2) = true := fun h => by
    rw [lo 2 h]
    show isFr (.tuple [.int 0, .int 1]) = true
    decide +kernel
  have c0 : spot = 0 → ∀ x : PyData, bad2 (gD ds 0, x) = some (91, 0) := fun h x => by
    subst h
    have e : badBox (gD ds 0) = some (91, 0) := by
      unfold badBox
      rw [if_neg (by rw [show isBox (gD ds 0) = false from bad]; decide)]
    unfold bad2
    simp only [e]
  have c1 : spot = 1 → bad2 (gD ds 0, gD ds 1) = some (129, 1) := fun h => by
    subst h
    have e : isCost (gD ds 1) = false := bad
    unfold bad2
    simp only [g0 (by decide), e]
    rfl
  have n2 : 1 < spot → bad2 (gD ds 0, gD ds 1) = none := fun h => by
    unfold bad2
    simp only [g0 (by omega), g1 h, if_true]
  have c2 : spot = 2 → bad3 (gD ds 0, gD ds 1, gD ds 2) = some (72, 2) := fun h => by
    subst h
    have e : isFr (gD ds 2) = false := bad
    unfold bad3
    simp only [n2 (by decide), e]
    rfl
  have n3 : 2 < spot → bad3 (gD ds 0, gD ds 1, gD ds 2) = none := fun h => by
    unfold bad3
    simp only [n2 (by omega), g2 h, if_true]
  have c3 : spot = 3 → bad4 (gD ds 0, gD ds 1, gD ds 2, gD ds 3) = some (110, 3) := fun h => by
    subst h
    have e : isWithin (gD ds 3) 0 12 = false := bad
    unfold bad4
    simp only [n3 (by decide), e]
    rfl
  have up3 : ∀ {x : Addr × Nat}, bad2 (gD ds 0, gD ds 1) = some x → bad3 (gD ds 0, gD ds 1, gD ds 2) = some x := fun e => by
    unfold bad3
    simp only [e]
  have up4 : ∀ {x : Addr × Nat}, bad3 (gD ds 0, gD ds 1, gD ds 2) = some x → bad4 (gD ds 0, gD ds 1, gD ds 2, gD ds 3) = some x := fun e => by
    unfold bad4
    simp only [e]
  have hs4 : spot < 4 := by
    have : way = 0 ∨ way = 1 ∨ way = 2 ∨ way = 3 ∨ way = 4 := by omega
    rcases this with rfl | rfl | rfl | rfl | rfl <;> (have : spot < _ := hs; simp only [nWords] at this; omega)
  have hspot : spot = 0 ∨ spot = 1 ∨ spot = 2 ∨ spot = 3 := by omega
  have hway : way = 0 ∨ way = 1 ∨ way = 2 ∨ way = 3 ∨ way = 4 := by omega
  rcases hway with rfl | rfl | rfl | rfl | rfl
  · show bad2 (gD ds 0, gD ds 1) = _
    rcases hspot with rfl | rfl | rfl | rfl
    · exact c0 rfl _
    · exact c1 rfl
    · exact absurd hs (by decide)
    · exact absurd hs (by decide)
  · show bad3 (gD ds 0, gD ds 1, gD ds 2) = _
    rcases hspot with rfl | rfl | rfl | rfl
    · exact up3 (c0 rfl _)
    · exact up3 (c1 rfl)
    · exact c2 rfl
    · exact absurd hs (by decide)
  · show bad2 (gD ds 0, gD ds 1) = _
    rcases hspot with rfl | rfl | rfl | rfl
    · exact c0 rfl _
    · exact c1 rfl
    · exact absurd hs (by decide)
    · exact absurd hs (by decide)
  · show bad4 (gD ds 0, gD ds 1, gD ds 2, gD ds 3) = _
    rcases hspot with rfl | rfl | rfl | rfl
    · exact up4 (up3 (c0 rfl _))
    · exact up4 (up3 (c1 rfl))
    · exact up4 (c2 rfl)
    · exact c3 rfl
  · show bad4 (gD ds 0, gD ds 1, gD ds 2, gD ds 3) = _
    rcases hspot with rfl | rfl | rfl | rfl
    · exact up4 (up3 (c0 rfl _))
    · exact up4 (up3 (c1 rfl))
    · exact up4 (c2 rfl)
    · exact c3 rfl
def wStr (s : String) : PyData := .str (Str.ofString s)
def wordsL : List PyData := [.list [wStr "box", wStr "cost"], .list [wStr "box", wStr "cost", wStr "sure"], .list [wStr "box", wStr "cost"], .list [wStr "box", wStr "cost", wStr "sure", wStr "count"], .list [wStr "box", wStr "cost", wStr "sure", wStr "count"]]
theorem words_at {way : Nat} (h : way < 5) : ∃ ws, wordsL[way]? = some (.list ws) ∧ ws.length = nWords way ∧ ∀ spot, spot < nWords way → ws[spot]? = some (.str (wordOf (errOf spot))) := by
  have hway : way = 0 ∨ way = 1 ∨ way = 2 ∨ way = 3 ∨ way = 4 := by omega
  have go : ∀ {ws : List PyData} {n : Nat}, ws = [wStr "box", wStr "cost", wStr "sure", wStr "count"].take n → n ≤ 4 → ∀ spot, spot < n → ws[spot]? = some (.str (wordOf (errOf spot))) := fun {ws n} e hn spot hs => by
    subst e
    rw [List.getElem?_take, if_pos hs]
    have : spot = 0 ∨ spot = 1 ∨ spot = 2 ∨ spot = 3 := by omega
    rcases this with rfl | rfl | rfl | rfl <;> rfl
  rcases hway with rfl | rfl | rfl | rfl | rfl
  · exact ⟨_, rfl, rfl, go (n := 2) rfl (by decide)⟩
  · exact ⟨_, rfl, rfl, go (n := 3) rfl (by decide)⟩
  · exact ⟨_, rfl, rfl, go (n := 2) rfl (by decide)⟩
  · exact ⟨_, rfl, rfl, go (n := 4) rfl (by decide)⟩
  · exact ⟨_, rfl, rfl, go (n := 4) rfl (by decide)⟩
end K35
/-! the steps over data that need no thought -/
local macro_rules | `(tactic| walk_at "gd") => `(tactic| repeat (first
  | ((with_reducible refine' WkD.w_var ?hv ?hn ?_); (case hv => exact rfl); (case hn => exact (fun z => nomatch z)))
  | with_reducible refine WkD.w_int ?_ | with_reducible refine WkD.w_str ?_ | with_reducible refine WkD.w_non ?_ | with_reducible refine WkD.w_bl ?_
  | with_reducible refine WkD.w_chain ?_ | with_reducible refine WkD.w_tyc ?_ | ((with_reducible refine' WkD.c_isi ?hu ?_); (case hu => decide))
  | with_reducible refine WkD.w_op ?_ | with_reducible refine WkD.w_un ?_ | with_reducible refine WkD.w_nil ?_ | with_reducible refine WkD.w_cons ?_ | ((with_reducible refine' WkD.w_isi2 ?ha ?hb ?_); (case ha => decide); (case hb => decide)) | with_reducible refine WkD.w_CB ?_ | with_reducible refine WkD.w_call ?_
  | with_reducible refine WkD.w_if ?_ | with_reducible refine WkD.w_andV ?_ | with_reducible refine WkD.w_orV ?_ | with_reducible refine WkD.w_notV ?_ | with_reducible refine WkD.w_test ?_ | with_reducible refine WkD.w_tB ?_ | with_reducible refine WkD.w_not ?_
  | with_reducible refine WkD.w_and ?_ | with_reducible refine WkD.w_or ?_ | with_reducible refine WkD.w_yes ?_ | with_reducible refine WkD.w_next ?_ | with_reducible refine WkD.w_seq ?_ | with_reducible refine WkD.w_ret ?_ | with_reducible refine WkD.w_retN ?_
  | with_reducible refine WkD.w_drop ?_ | with_reducible refine WkD.w_ifS ?_ | with_reducible refine WkD.w_asg ?_ | with_reducible refine WkD.w_sl ?_ | with_reducible refine WkD.w_po0 ?_ | with_reducible refine WkD.w_po1 ?_ | with_reducible refine WkD.e_si ?_ | with_reducible refine WkD.l_A ?_ | with_reducible refine WkD.l_L ?_ | with_reducible refine WkD.w_cont ?_ | with_reducible refine WkD.w_break ?_ | with_reducible refine WkD.w_gt2 ?_ | with_reducible refine WkD.w_gt3 ?_ | with_reducible refine WkD.w_gcons ?_ | with_reducible refine WkD.w_gnil ?_ | with_reducible refine WkD.w_name ?_ | with_reducible refine WkD.w_par ?_
  | with_reducible refine WkD.r_I0i ?_ | with_reducible refine WkD.r_I0b ?_ | with_reducible refine WkD.u_U ?_ | with_reducible refine WkD.r_eqI ?_ | with_reducible refine WkD.r_neI ?_ | with_reducible refine WkD.r_eqS ?_ | with_reducible refine WkD.r_eqB ?_
  | ((with_reducible refine' WkD.r_ix ?hi ?_); (case hi => exact rfl)) | ((with_reducible refine' WkD.r_ixl ?hi ?_); (case hi => exact rfl))
  | ((with_reducible refine' WkD.r_ixT ?hi ?_); (case hi => exact rfl)) | ((with_reducible refine' WkD.r_ixL ?hi ?_); (case hi => exact rfl))
  | with_reducible refine WkD.c_gcd ?_ | with_reducible refine WkD.c_abs ?_ | with_reducible refine WkD.c_int ?_ | with_reducible refine WkD.e_bool ?_ | with_reducible refine WkD.w_tup ?_ | with_reducible refine WkD.w_lst ?_ | with_reducible refine WkD.e_ab ?_ | with_reducible refine WkD.d0 ?_ | with_reducible refine WkD.d1 ?_ | with_reducible refine WkD.d2 ?_ | with_reducible refine WkD.d3 ?_ | with_reducible refine WkD.d4 ?_))



namespace K35
open PySem PySem.Spec PyProof.Rows L2 WkH WkE WkQ WkS WkF WkD WkN WkC WkT WkP
section
variable {K : PySem.W.Frag}
abbrev cLen (K : PySem.W.Frag) : List V → Hp → VK → Prop := fun xs H Q => ∃ p ys, xs = [V.ref p] ∧ (SqL K H p ys ∨ SqT K H p ys) ∧ Q (V.int ys.length) H
abbrev cList (K : PySem.W.Frag) : List V → Hp → VK → Prop := fun xs H Q => ∃ p ys, xs = [V.ref p] ∧ (SqL K H p ys ∨ SqT K H p ys) ∧ ∀ l, H l = none → Q (V.ref l) (upd H l (.lst ys))
abbrev eMenu (K : PySem.W.Frag) : TE := (tOp (rIx K) (tLst (tCons (tLst (tCons (tCall (spBadBox (K := K)) [] E0 (tCons (tVar 0) (tCons (tVar 1) tNil))) tNil)) (tCons (tVar 6) (tCons (tVar 7) (tCons (tVar 3) tNil))))) (tVar 9))
abbrev tMenu (K : PySem.W.Frag) : TS := tAsg (eMenu K) (gName 14)
abbrev ePick (K : PySem.W.Frag) : TE := (tOp (rIx K) (tVar 14) (tCall WkD.spTake [] E0 (tCons (tVar 0) (tCons (tCB (cLen K) (tCons (tVar 14) tNil)) tNil))))
abbrev tPick (K : PySem.W.Frag) : TS := tAsg (ePick K) (gName 11)
abbrev tIsL (K : PySem.W.Frag) : TT := tB (tCB (rIsi K) (tCons (tVar 11) (tCons (tC (.ty "list")) tNil)))
abbrev tPut (K : PySem.W.Frag) : TS := tAsg (tIf (tIsL K) (tCB (cList K) (tCons (tVar 11) tNil)) (tVar 11)) (gSub (tVar 12) (tVar 9) rSetL)
abbrev tKB (K : PySem.W.Frag) : TS := tIfS (tOr (tTest (tOp rEq (tVar 9) (tVar 8))) (tTest (tOp rEq (tVar 13) (tC (.int 1))))) (tSeq (tMenu K) (tSeq (tPick K) (tPut K))) tNext
abbrev tArgs : TA := tCons (tVar 1) (tCons (tTup (tCons (tC (.int 1)) (tCons (tC (.int 2)) tNil))) (tCons (tTup (tCons (tC (.int 0)) (tCons (tC (.int 1)) tNil))) (tCons (tC (.int 2)) tNil)))
abbrev tWay (K : PySem.W.Frag) : TE := tCB (cLen K) (tCons (tOp (rIx K) (tVar 4) (tVar 5)) tNil)
abbrev tEnd (K : PySem.W.Frag) : TS := tIfS (tOr (tTest (tOp rNe (tOp (rIx K) (tVar 10) (tC (.int 0))) (tOp (rIx K) (tOp (rIx K) (tVar 4) (tVar 5)) (tVar 8)))) (tOr (tTest (tOp rNotB (tOp (rIx K) (tVar 10) (tC (.int 2))) (tC (.bl true)))) (tTest (tOp rNe (tCB (rRepr K) (tCons (tOp (rIx K) (tVar 10) (tC (.int 1))) tNil)) (tCB (rRepr K) (tCons (tVar 11) tNil)))))) (tRet (tC (.bl false))) tNext
abbrev tMore (K : PySem.W.Frag) : TS := tIfS (tIsL K) (tDrop (tBM K "list" rAppend (tVar 11) (tCons (tC (.str (Str.ofString "more"))) tNil))) tNext
abbrev tTold (K : PySem.W.Frag) : TS := tSeq (tAsg (tCall (spCalled K) [] E0 (tCons (tVar 5) (tCons (tVar 12) (tCons (tVar 2) tNil)))) (gName 10)) (tSeq (tAsg (tOp (rIx K) (tVar 12) (tVar 8)) (gName 11)) (tSeq (tMore K) (tEnd K)))
abbrev tSpot (K : PySem.W.Frag) : TS := tSeq (tPar 12 13 (tCons (tLst tArgs) (tCons (tCall WkD.spTake [] E0 (tCons (tVar 0) (tCons (tC (.int 2)) tNil))) tNil))) (tSeq (tFor (iRng2 (tCons (tVar 8) (tCons (tWay K) tNil))) (gName 9) (tKB K)) (tTold K))
/-- the slots while a spot is tried -/
abbrev rhoS (b : Addr) (bx : List (Rat × Rat)) (by_ : Bool) (way spot : Nat) (s9 s10 s11 s12 s13 s14 : Sl) : List Sl :=
  [.raw (.ref b), .dat (boxD bx), .dat (.bool by_), .dat (.list countsL), .dat (.list wordsL), .dat (.int (way : Int)), .dat (.list costsL), .dat (.list suresL), .dat (.int (spot : Int)), s9, s10, s11, s12, s13, s14]
section
variable {S : Type} {G : Eff S} {b : Addr} {cnt : S → Nat} {up : S → S} {n : S} {bx : List (Rat × Rat)} {by_ : Bool} {way spot k : Nat} {s9 s10 s11 s12 s13 s14 : Sl}
def menuL (x : PyData) (k : Nat) : List PyData := match k with
  | 0 => [x]
  | 1 => costsL
  | 2 => suresL
  | _ => countsL
theorem menu_ok {x : PyData} (hx : NoBox x) (hk : k < 4) : (∀ d ∈ menuL x k, BadAt k d ∧ Val d) ∧ 1 ≤ (menuL x k).length ∧ (menuL x k).length ≤ 10 := by
  have : k = 0 ∨ k = 1 ∨ k = 2 ∨ k = 3 := by omega
  rcases this with rfl | rfl | rfl | rfl
  · refine ⟨fun d hd => ?_, (show 1 ≤ 1 by decide), (show 1 ≤ 10 by decide)⟩
    obtain rfl : d = x := by simpa [menuL] using hd
    exact hx
  · exact ⟨costs_ok, (show 1 ≤ 10 by decide), (show 10 ≤ 10 by decide)⟩
  · exact ⟨sures_ok, (show 1 ≤ 8 by decide), (show 8 ≤ 10 by decide)⟩
  · exact ⟨counts_ok, (show 1 ≤ 8 by decide), (show 8 ≤ 10 by decide)⟩
theorem menu_w (L : DrwLens G b cnt up) (hb : LB bx) (hk : k < 4) (hc : cnt n + 2 ≤ 100000) :
    wE G K (eMenu K) (rhoS b bx by_ way spot (.dat (.int (k : Int))) s10 s11 s12 s13 s14) n fun r m => ∃ (x : PyData) (j : Nat), NoBox x ∧ j ≤ 1 ∧ m = upN up j n ∧ r = .dat (.list (menuL x k)) := by
  walk_at "gd"
  refine c_dr (enc := encB) bx rfl L hb (by show cnt n + 1 ≤ _; omega) fun j d hj hd => ?_
  walk_at "gd"
  have : k = 0 ∨ k = 1 ∨ k = 2 ∨ k = 3 := by omega
  refine r_ixl (d := .list (menuL d k)) ?_ ?_
  · rcases this with rfl | rfl | rfl | rfl <;> rfl
  exact ⟨d, j, hd, hj, rfl, rfl⟩
theorem pick_w (L : DrwLens G b cnt up) (hc : cnt n ≤ 100000) {x : PyData} (hx : NoBox x) (hk : k < 4) :
    wE G K (ePick K) (rhoS b bx by_ way spot s9 s10 s11 s12 s13 (.dat (.list (menuL x k)))) n fun r m => ∃ d, (BadAt k d ∧ Val d) ∧ m = up n ∧ r = .dat d := by
  obtain ⟨h1, h2, h3⟩ := menu_ok hx hk
  generalize menuL x k = ms at h1 h2 h3
  walk_at "gd"
  refine c_len (.inl rfl) ?_
  walk_at "gd"
  refine c_take L (n := n) (many := (ms.length : Int)) hc (by omega) (by omega) fun r r0 r1 => ?_
  have hr : r.toNat < ms.length := by omega
  have er : r = ((r.toNat : Nat) : Int) := by omega
  rw [er]
  refine r_ixl (atI_nat (List.getElem?_eq_getElem hr)) ?_
  exact ⟨_, h1 _ (List.getElem_mem hr), rfl, rfl⟩
theorem c_repr {Φ : Sl → S → Prop} {d : PyData} (h1 : d.showable = true) (h2 : d.depth ≤ 20) (h3 : d.shown.length ≤ 100000) (q : Φ (.dat (.str d.shown)) n) : wC G K (rRepr K) [.dat d] n Φ := fun vs H Q jn ra k => by
  cases ra with
  | cons r1 ra =>
    cases ra
    exact ⟨_, d, rfl, Dq.sub r1, h1, h2, h3, k _ H _ n q jn (Same.refl _) (.str _)⟩
theorem r_notB {Φ : Sl → S → Prop} {x y : Bool} (q : Φ (.dat (.bool (!decide (x = y)))) n) : wR G K rNotB (.dat (.bool x)) (.dat (.bool y)) n Φ := fun x' y' H Q jn rx ry k => by
  cases rx
  cases ry
  exact ⟨x, y, rfl, rfl, k _ H _ n q jn (Same.refl _) (.bl _)⟩
theorem end_w (hw : way < 5) (hs : spot < nWords way) {d : PyData} (hn : nice d = true) (hd : PyData.depth d ≤ 15) (ht : wt d ≤ 50000) :
    wS G K (tEnd K) (rhoS b bx by_ way spot s9 (.dat (.list [.str (wordOf (errOf spot)), d, .bool true])) (.dat d) s12 s13 s14) n { nx := fun ρ m => m = n ∧ ρ = rhoS b bx by_ way spot s9 (.dat (.list [.str (wordOf (errOf spot)), d, .bool true])) (.dat d) s12 s13 s14, rt := fun _ _ => False } := by
  obtain ⟨ws, e1, e2, e3⟩ := words_at hw
  have hsh := nice_show hn
  have hl : d.shown.length ≤ 100000 := Nat.le_trans (shown_wt hn) (by omega)
  walk_at "gd"
  refine r_ixl (atI_nat e1) ?_
  walk_at "gd"
  refine r_ixl (atI_nat (e3 spot hs)) ?_
  refine r_neS ?_
  walk_at "gd"
  refine ⟨fun z => (by simp at z), fun _ => ?_⟩
  walk_at "gd"
  refine r_notB ?_
  walk_at "gd"
  refine ⟨(fun z => nomatch z), fun _ => ?_⟩
  walk_at "gd"
  refine c_repr hsh (by omega) hl ?_
  walk_at "gd"
  refine c_repr hsh (by omega) hl ?_
  refine r_neS ?_
  walk_at "gd"
  refine ⟨fun z => (by simp at z), fun _ => ?_⟩
  walk_at "gd"
  exact ⟨rfl, rfl⟩
end
end
end K35
/-! the steps over data that need no thought -/
local macro_rules | `(tactic| walk_at "gd") => `(tactic| repeat (first
  | ((with_reducible refine' WkD.w_var ?hv ?hn ?_); (case hv => exact rfl); (case hn => exact (fun z => nomatch z)))
  | with_reducible refine WkD.w_int ?_ | with_reducible refine WkD.w_str ?_ | with_reducible refine WkD.w_non ?_ | with_reducible refine WkD.w_bl ?_
  | with_reducible refine WkD.w_chain ?_ | with_reducible refine WkD.w_tyc ?_ | ((with_reducible refine' WkD.c_isi ?hu ?_); (case hu => decide))
  | with_reducible refine WkD.w_op ?_ | with_reducible refine WkD.w_un ?_ | with_reducible refine WkD.w_nil ?_ | with_reducible refine WkD.w_cons ?_ | ((with_reducible refine' WkD.w_isi2 ?ha ?hb ?_); (case ha => decide); (case hb => decide)) | with_reducible refine WkD.w_CB ?_ | with_reducible refine WkD.w_call ?_
  | with_reducible refine WkD.w_if ?_ | with_reducible refine WkD.w_andV ?_ | with_reducible refine WkD.w_orV ?_ | with_reducible refine WkD.w_notV ?_ | with_reducible refine WkD.w_test ?_ | with_reducible refine WkD.w_tB ?_ | with_reducible refine WkD.w_not ?_
  | with_reducible refine WkD.w_and ?_ | with_reducible refine WkD.w_or ?_ | with_reducible refine WkD.w_yes ?_ | with_reducible refine WkD.w_next ?_ | with_reducible refine WkD.w_seq ?_ | with_reducible refine WkD.w_ret ?_ | with_reducible refine WkD.w_retN ?_
  | with_reducible refine WkD.w_drop ?_ | with_reducible refine WkD.w_ifS ?_ | with_reducible refine WkD.w_asg ?_ | with_reducible refine WkD.w_sl ?_ | with_reducible refine WkD.w_po0 ?_ | with_reducible refine WkD.w_po1 ?_ | with_reducible refine WkD.e_si ?_ | with_reducible refine WkD.l_A ?_ | with_reducible refine WkD.l_L ?_ | with_reducible refine WkD.w_cont ?_ | with_reducible refine WkD.w_break ?_ | with_reducible refine WkD.w_gt2 ?_ | with_reducible refine WkD.w_gt3 ?_ | with_reducible refine WkD.w_gcons ?_ | with_reducible refine WkD.w_gnil ?_ | with_reducible refine WkD.w_name ?_ | with_reducible refine WkD.w_par ?_
  | with_reducible refine WkD.r_I0i ?_ | with_reducible refine WkD.r_I0b ?_ | with_reducible refine WkD.u_U ?_ | with_reducible refine WkD.r_eqI ?_ | with_reducible refine WkD.r_neI ?_ | with_reducible refine WkD.r_eqS ?_ | with_reducible refine WkD.r_eqB ?_
  | ((with_reducible refine' WkD.r_ix ?hi ?_); (case hi => exact rfl)) | ((with_reducible refine' WkD.r_ixl ?hi ?_); (case hi => exact rfl))
  | ((with_reducible refine' WkD.r_ixT ?hi ?_); (case hi => exact rfl)) | ((with_reducible refine' WkD.r_ixL ?hi ?_); (case hi => exact rfl))
  | with_reducible refine WkD.c_gcd ?_ | with_reducible refine WkD.c_abs ?_ | with_reducible refine WkD.c_int ?_ | with_reducible refine WkD.e_bool ?_ | with_reducible refine WkD.w_tup ?_ | with_reducible refine WkD.w_lst ?_ | with_reducible refine WkD.e_ab ?_ | with_reducible refine WkD.d0 ?_ | with_reducible refine WkD.d1 ?_ | with_reducible refine WkD.d2 ?_ | with_reducible refine WkD.d3 ?_ | with_reducible refine WkD.d4 ?_))



namespace K35
open PySem PySem.Spec PyProof.Rows L2 WkH WkE WkQ WkS WkF WkD WkN WkC WkT WkP
theorem isA_list {d : PyData} (h : isA d "list" = true) : ∃ es, d = .list es := by
  cases d <;> first | exact ⟨_, rfl⟩ | (simp [isA, tyName] at h)
theorem list_isA {es : List PyData} : isA (.list es) "list" = true := by simp [isA, tyName]
theorem DqAll.put {K : PySem.W.Frag} {G : Hp} {u : V} {d : PyData} : ∀ {xs : List V} {ds : List PyData} (k : Nat), DqAll K G xs ds → Dq K G u d → DqAll K G (xs.set k u) (ds.set k d)
  | _, _, _, .nil, _ => .nil
  | _, _, 0, .cons _ h, q => .cons q h
  | _, _, k + 1, .cons h1 h2, q => .cons h1 (DqAll.put k h2 q)
theorem rep_no {K : PySem.W.Frag} {G : Hp} : ∀ (i : Nat) {σ : L2.St} {ρ : List Sl}, RepS K G σ ρ → RepS K G σ (ρ.set i .no)
  | _, _, _, .nil => .nil
  | 0, _, _, .cons _ h => .cons True.intro h
  | i + 1, _, _, .cons h1 h2 => .cons h1 (rep_no i h2)
theorem le_wts {ds : List PyData} {M : Nat} (h : wt (.list ds) ≤ M) : ds.length ≤ M := by
  have go : ∀ ds : List PyData, ds.length ≤ wts ds := fun ds => by
    induction ds with
    | nil => exact Nat.le_refl _
    | cons d ds ih =>
      simp only [wts, List.length_cons]
      omega
  have := go ds
  have h : wts ds + 3 ≤ M := h
  omega
/-- what stands at args while a spot is tried: turn i is ahead -/
structure ArgsOk (bx : List (Rat × Rat)) (spot : Nat) (ds : List PyData) (i : Nat) : Prop where
  len : ds.length = 4
  val : ∀ d ∈ ds, Val d
  szd : Szd (gD ds 0)
  lo : ∀ j, j < spot → gD ds j = gD (goodL bx) j
  bad : 0 < i → BadAt spot (gD ds spot)
theorem gD_set {ds : List PyData} {k j : Nat} {d : PyData} (hk : k < ds.length) : gD (ds.set k d) j = if j = k then d else gD ds j := by
  show (ds.set k d).getD j .none = if j = k then d else ds.getD j .none
  rw [List.getD_eq_getElem?_getD, List.getD_eq_getElem?_getD, List.getElem?_set]
  by_cases h : k = j
  · subst h
    rw [if_pos rfl, if_pos rfl, if_pos hk]
    rfl
  · rw [if_neg h, if_neg (fun z => h z.symm)]
theorem gV_set {xs : List V} {k j : Nat} {u : V} (hk : k < xs.length) : gV (xs.set k u) j = if j = k then u else gV xs j := by
  show (xs.set k u).getD j .non = if j = k then u else xs.getD j .non
  rw [List.getD_eq_getElem?_getD, List.getD_eq_getElem?_getD, List.getElem?_set]
  by_cases h : k = j
  · subst h
    rw [if_pos rfl, if_pos rfl, if_pos hk]
    rfl
  · rw [if_neg h, if_neg (fun z => h z.symm)]
theorem ArgsOk.put {bx : List (Rat × Rat)} {spot i : Nat} {ds : List PyData} {d : PyData} (ok : ArgsOk bx spot ds i) (hk : spot + i < 4) (bd : BadAt (spot + i) d) (vd : Val d) : ArgsOk bx spot (ds.set (spot + i) d) (i + 1) := by
  have hl : spot + i < ds.length := by rw [ok.len]; exact hk
  refine ⟨by rw [List.length_set, ok.len], fun e he => ?_, ?_, fun j hj => ?_, fun _ => ?_⟩
  · rcases List.mem_or_eq_of_mem_set he with h | rfl
    · exact ok.val e h
    · exact vd
  · rw [gD_set hl]
    split
    · rename_i z
      intro b e hb
      have : BadAt 0 d := by rw [z]; exact bd
      have : isBox d = false := this
      rw [e, isBox_of hb] at this
      cases this
    · exact ok.szd
  · rw [gD_set hl, if_neg (by omega)]
    exact ok.lo j hj
  · rw [gD_set hl]
    split
    · rename_i z
      rw [z]
      exact bd
    · exact ok.bad (by omega)
section
variable {K : PySem.W.Frag} {S : Type} {F : Eff S} {b : Addr} {cnt : S → Nat} {up : S → S} {n : S} {bx : List (Rat × Rat)} {by_ : Bool} {way spot : Nat}
/-- the slots that stay: as they stood at H0 -/
structure Base9 (F : Eff S) (K : PySem.W.Frag) (H0 : Hp) (b : Addr) (bx : List (Rat × Rat)) (by_ : Bool) (way spot : Nat) (v1 v3 v4 v6 v7 : V) : Prop where
  q1 : Dq K (F.st H0) v1 (boxD bx)
  q3 : Dq K (F.st H0) v3 (.list countsL)
  q4 : Dq K (F.st H0) v4 (.list wordsL)
  q6 : Dq K (F.st H0) v6 (.list costsL)
  q7 : Dq K (F.st H0) v7 (.list suresL)
/-- the slots' values -/
abbrev sigS (b : Addr) (by_ : Bool) (way spot : Nat) (v1 v3 v4 v6 v7 : V) (x9 x10 x11 x12 x13 x14 : Option V) : L2.St := [some (.ref b), some v1, some (.bl by_), some v3, some v4, some (.int (way : Int)), some v6, some v7, some (.int (spot : Int)), x9, x10, x11, x12, x13, x14]
variable {H0 : Hp} {v1 v3 v4 v6 v7 : V}
theorem Base9.rep (B : Base9 F K H0 b bx by_ way spot v1 v3 v4 v6 v7) {G : Hp} (e : Same (F.st H0) G) {x9 x10 x11 x12 x13 x14 : Option V} {s9 s10 s11 s12 s13 s14 : Sl} (r9 : RepO K G x9 s9) (r10 : RepO K G x10 s10) (r11 : RepO K G x11 s11) (r12 : RepO K G x12 s12) (r13 : RepO K G x13 s13) (r14 : RepO K G x14 s14) :
    RepS K G (sigS b by_ way spot v1 v3 v4 v6 v7 x9 x10 x11 x12 x13 x14) (rhoS b bx by_ way spot s9 s10 s11 s12 s13 s14) :=
  .cons rfl (.cons ⟨_, rfl, B.q1.mono e⟩ (.cons ⟨_, rfl, .bl _⟩ (.cons ⟨_, rfl, B.q3.mono e⟩ (.cons ⟨_, rfl, B.q4.mono e⟩ (.cons ⟨_, rfl, .int _⟩ (.cons ⟨_, rfl, B.q6.mono e⟩ (.cons ⟨_, rfl, B.q7.mono e⟩ (.cons ⟨_, rfl, .int _⟩ (.cons r9 (.cons r10 (.cons r11 (.cons r12 (.cons r13 (.cons r14 .nil))))))))))))))
abbrev nn {K : PySem.W.Frag} {G : Hp} {o : Option V} : RepO K G o .no := True.intro
/-- turn i of the loop over the arguments is ahead -/
def Turn (F : Eff S) (K : PySem.W.Frag) (H0 : Hp) (A b : Addr) (bx : List (Rat × Rat)) (by_ : Bool) (way spot : Nat) (v1 v3 v4 v6 v7 : V) (up : S → S) (n : S) (i : Nat) (σ : L2.St) (H : Hp) : Prop :=
  ∃ (xs : List V) (ds : List PyData) (j : Nat) (x9 x10 x11 x14 : Option V) (later : Int), σ = sigS b by_ way spot v1 v3 v4 v6 v7 x9 x10 x11 (some (.ref A)) (some (.int later)) x14 ∧ (F.hide A xs).J (upN up j n) H ∧ j ≤ 1 + 2 * i ∧ Same (F.st H0) ((F.hide A xs).st H) ∧
    DqAll K ((F.hide A xs).st H) xs ds ∧ ArgsOk bx spot ds i ∧ (0 < i → ∀ l, gV xs spot = .ref l → (∃ es, gD ds spot = .list es) → F.st H0 l = none)
theorem turn_ok (L : DrwLens F b cnt up) (hb : LB bx) (hc : cnt n + 9 ≤ 100000) (B : Base9 F K H0 b bx by_ way spot v1 v3 v4 v6 v7) {A : Addr} (nO : ¬ F.own A) {i : Nat} (hk : spot + i < 4) {D : Ends}
    (hN : ∀ σ H, Turn F K H0 A b bx by_ way spot v1 v3 v4 v6 v7 up n (i + 1) σ H → D.nx σ H) {σ : L2.St} {H : Hp} (h : Turn F K H0 A b bx by_ way spot v1 v3 v4 v6 v7 up n i σ H) : gName 9 (.int ((spot : Int) + (i : Int))) σ H fun σ2 H2 => tKB K D σ2 H2 := by
  obtain ⟨xs, ds, j, x9, x10, x11, x14, later, rfl, J, hj, sm, dq, ok, fr⟩ := h
  have ei : (spot : Int) + (i : Int) = ((spot + i : Nat) : Int) := by omega
  rw [ei]
  have hi3 : i ≤ 3 := by omega
  refine e_gName ?_
  show tKB K D (sigS b by_ way spot v1 v3 v4 v6 v7 (some (.int ((spot + i : Nat) : Int))) x10 x11 (some (.ref A)) (some (.int later)) x14) H
  refine e_ifS ?_
  have LH := L.hide (D := A) (xs := xs) nO
  have cj : cnt (upN up j n) = cnt n + j := upN_cnt L j n
  refine use_T (F := F.hide A xs) (n := upN up j n) (ρ := rhoS b bx by_ way spot (.dat (.int ((spot + i : Nat) : Int))) .no .no (.raw (.ref A)) (.dat (.int later)) .no) (Θ := fun b m => m = upN up j n ∧ (b = false → 0 < i)) J (B.rep sm ⟨_, rfl, .int _⟩ nn nn rfl ⟨_, rfl, .int _⟩ nn) ?_ fun b0 H1 m ⟨em, hb0⟩ j1 s1 => ?_
  · walk_at "gd"
    refine ⟨fun _ => ⟨rfl, (fun z => nomatch z)⟩, fun z => ?_⟩
    have hz : ¬ (((spot + i : Nat) : Int) = (spot : Int)) := of_decide_eq_false z
    have : 0 < i := by omega
    walk_at "gd"
    exact ⟨rfl, fun _ => this⟩
  subst em
  have sm1 := sm.trans s1
  refine e_ite (fun ht => ?_) (fun hf => ?_)
  · refine e_seq ?_
    refine e_asg ?_
    refine use_E (F := F.hide A xs) j1 (B.rep sm1 (s9 := .dat (.int ((spot + i : Nat) : Int))) ⟨_, rfl, .int _⟩ (s10 := .no) nn (s11 := .no) nn (s12 := .no) nn (s13 := .no) nn (s14 := .no) nn) (menu_w LH hb hk (by rw [cj]; omega)) fun vm H2 r m ⟨x, j', hx, hj', em, er⟩ j2 s2 rv => ?_
    subst em
    subst er
    refine e_gName ?_
    show (tSeq (tPick K) (tPut K)) D (sigS b by_ way spot v1 v3 v4 v6 v7 (some (.int ((spot + i : Nat) : Int))) x10 x11 (some (.ref A)) (some (.int later)) (some vm)) H2
    refine e_seq ?_
    refine e_asg ?_
    have cj2 : cnt (upN up j' (upN up j n)) = cnt n + j + j' := by rw [upN_cnt L, cj]
    have sm2 := sm1.trans s2
    refine use_E (F := F.hide A xs) j2 (B.rep sm2 (s9 := .no) nn (s10 := .no) nn (s11 := .no) nn (s12 := .no) nn (s13 := .no) nn (s14 := .dat (.list (menuL x (spot + i)))) ⟨_, rfl, rv⟩) (pick_w LH (by rw [cj2]; omega) hx hk) fun v H3 r m ⟨d, ⟨bd, vd⟩, em, er⟩ j3 s3 rv3 => ?_
    subst em
    subst er
    have rv3 : Dq K ((F.hide A xs).st H3) v d := rv3
    have sm3 := sm2.trans s3
    refine e_gName ?_
    show tPut K D (sigS b by_ way spot v1 v3 v4 v6 v7 (some (.int ((spot + i : Nat) : Int))) x10 (some v) (some (.ref A)) (some (.int later)) (some vm)) H3
    refine e_asg ?_
    refine e_if ?_
    refine use_T (F := F.hide A xs) (Θ := fun b m => m = up (upN up j' (upN up j n)) ∧ b = isA d "list") j3 (B.rep sm3 (s9 := .no) nn (s10 := .no) nn (s11 := .dat d) ⟨_, rfl, rv3⟩ (s12 := .no) nn (s13 := .no) nn (s14 := .no) nn) ?_ fun b4 H4 m ⟨em, eb⟩ j4 s4 => ?_
    · walk_at "gd"
      exact ⟨rfl, rfl⟩
    subst em
    have sm4 := sm3.trans s4
    have dq4 := (((dq.mono s1).mono s2).mono s3).mono s4
    have dv4 := rv3.mono s4
    have fin : ∀ (u : V) (H6 : Hp), (F.hide A xs).J (up (upN up j' (upN up j n))) H6 → Same ((F.hide A xs).st H4) ((F.hide A xs).st H6) → Dq K ((F.hide A xs).st H6) u d → (∀ l, u = .ref l → (∃ es, d = .list es) → F.st H0 l = none) →
        gSub (tVar 12) (tVar 9) rSetL u (sigS b by_ way spot v1 v3 v4 v6 v7 (some (.int ((spot + i : Nat) : Int))) x10 (some v) (some (.ref A)) (some (.int later)) (some vm)) H6 D.nx := fun u H6 j6 s6 du fu => by
      refine e_gSub ?_
      refine e_var rfl ?_
      refine e_var rfl ?_
      have dq6 := dq4.mono s6
      have lx : xs.length = 4 := by rw [dq6.length, ok.len]
      refine e_setL (j := spot + i) j6.2 (by unfold ixN; rw [if_pos (show (0 : Int) ≤ ((spot + i : Nat) : Int) by omega), if_pos (show ((spot + i : Nat) : Int) < (xs.length : Int) by omega), Int.toNat_natCast]) ?_
      refine hN _ _ ⟨xs.set (spot + i) u, ds.set (spot + i) d, j + j' + 1, _, _, _, _, later, rfl, ⟨?_, upd_same⟩, by omega, ?_, ?_, ok.put hk bd vd, fun _ l hl he => ?_⟩
      · have e : upN up (j + j' + 1) n = up (upN up j' (upN up j n)) := by
          rw [upN_add, Nat.add_comm j' j]
          rfl
        rw [e]
        exact hide_J nO j6.2 j6.1
      · rw [hide_upd (ys := xs)]
        exact sm4.trans s6
      · rw [hide_upd (ys := xs)]
        exact DqAll.put _ dq6 du
      · rw [gV_set (by omega)] at hl
        rw [gD_set (by rw [ok.len]; omega)] at he
        by_cases z : spot = spot + i
        · rw [if_pos z] at hl he
          exact fu l hl he
        · rw [if_neg z] at hl he
          exact fr (by omega) l hl he
    refine e_ite (fun h => ?_) (fun h => ?_)
    · obtain ⟨es, rfl⟩ : ∃ es, d = .list es := by
        rw [h] at eb
        exact isA_list eb.symm
      cases dv4 with
      | @lst a ys _ ha hys =>
        refine e_CB ?_
        refine e_cons ?_
        refine e_var rfl ?_
        refine e_nil ?_
        refine ⟨a, ys, rfl, .inl (SqL.of (Eff.sub _ _ ha)), fun l nl => ?_⟩
        have sl := same_upd (o := .lst ys) nl
        have el := Eff.mono (F := F.hide A xs) sl
        refine fin (.ref l) _ (Eff.keep sl j4) el (.lst (Eff.new j4 nl) (hys.mono el)) fun l' e _ => ?_
        injection e with e
        subst e
        cases z : F.st H0 l with
        | none => rfl
        | some o =>
          have := Eff.sub _ _ (sm4 _ _ z)
          rw [nl] at this
          cases this
    · refine e_var rfl ?_
      refine fin v H4 j4 (Same.refl _) dv4 fun l e ⟨es, ed⟩ => ?_
      rw [h, ed, list_isA] at eb
      cases eb
  · refine e_next ?_
    have i0 := hb0 hf
    exact hN _ _ ⟨xs, ds, j, _, _, _, _, later, rfl, j1, by omega, sm1, dq.mono s1, ⟨ok.len, ok.val, ok.szd, ok.lo, fun _ => ok.bad i0⟩, fun _ => fr i0⟩
theorem st_off {a c : Addr} {H : Hp} {o : HO} (h : c ≠ a) : F.st (upd H a o) c = F.st H c := by
  unfold Eff.st
  split
  · rfl
  · exact upd_ne h
theorem eff_off {a : Addr} {n : S} {H : Hp} {ys zs : List V} (ha : F.st H a = some (.lst ys)) (j : F.J n H) : F.J n (upd H a (.lst zs)) :=
  F.loc (fun c hc => upd_ne fun z => by
    subst z
    rw [Eff.st_own hc] at ha
    cases ha) (Keeps.upd (Eff.sub _ _ ha) (fun _ z => nomatch z) fun _ _ z => nomatch z) j
theorem told_ok (hb : LB bx) (hw : way < 5) (hs : spot < nWords way) (B : Base9 F K H0 b bx by_ way spot v1 v3 v4 v6 v7) {A : Addr} (nO : ¬ F.own A) {i : Nat} (hi : 0 < i) {D : Ends}
    (hN : ∀ (x9 x10 x11 x12 x13 x14 : Option V) (H : Hp) (j : Nat), j ≤ 1 + 2 * i → F.J (upN up j n) H → Same (F.st H0) (F.st H) → ∀ σ', RepS K (F.st H) σ' (rhoS b bx by_ way spot .no .no .no .no .no .no) → D.nx σ' H)
    {σ : L2.St} {H : Hp} (h : Turn F K H0 A b bx by_ way spot v1 v3 v4 v6 v7 up n i σ H) : tTold K D σ H := by
  obtain ⟨xs, ds, j, x9, x10, x11, x14, later, rfl, J, hj, sm, dq, ok, fr⟩ := h
  have visA : F.st H A = some (.lst xs) := by rw [Eff.st_ne nO]; exact J.2
  have dqF : DqAll K (F.st H) xs ds := dq.mono hide_sub
  have smF : Same (F.st H0) (F.st H) := sm.trans hide_sub
  have hs4 : spot < 4 := by
    have : way = 0 ∨ way = 1 ∨ way = 2 ∨ way = 3 ∨ way = 4 := by omega
    rcases this with rfl | rfl | rfl | rfl | rfl <;> (have : spot < _ := hs; simp only [nWords] at this; omega)
  have hbad := bad_is hb hw hs ok.lo (ok.bad hi)
  have hsp : spot < ds.length := by rw [ok.len]; exact hs4
  obtain ⟨a1, a2, a3, a4⟩ := arg_at dqF hsp
  have vd := ok.val _ a4
  refine e_seq ?_
  refine e_asg ?_
  refine e_call ?_
  refine e_cons ?_
  refine e_var rfl ?_
  refine e_cons ?_
  refine e_var rfl ?_
  refine e_cons ?_
  refine e_var rfl ?_
  refine e_nil ?_
  refine ⟨S, F, upN up j n, way, ds, by_, J.1, .cons (.int _) (.cons (.lst visA dqF) (.cons (.bl _) .nil)), hw, ?_, fun d hd => Val.sm (ok.val d hd), ok.szd, fun z => ?_, fun C kk hc l H1 a' xs' u j1 s1 evs hx' hu nl hl => ?_⟩
  · rw [need_words hw, ok.len]
    have : way = 0 ∨ way = 1 ∨ way = 2 ∨ way = 3 ∨ way = 4 := by omega
    rcases this with rfl | rfl | rfl | rfl | rfl <;> decide
  · rw [hbad] at z
    cases z
  rw [hbad] at hc
  injection hc with hc
  injection hc with e1 e2
  subst e1
  subst e2
  have ea : a' = A := by
    have : [V.int (way : Int), .ref A, .bl by_] = [.int (way : Int), .ref a', .bl by_] := evs
    injection this with _ this
    injection this with this _
    injection this with this
    exact this.symm
  subst ea
  have exs : xs' = xs := by
    rw [visA] at hx'
    injection hx' with hx'
    injection hx' with hx'
    exact hx'.symm
  subst exs
  have eu : u = gV xs' spot := by
    rw [a1] at hu
    exact (Option.some.inj hu).symm
  subst eu
  refine e_gName ?_
  show (tSeq (tAsg (tOp (rIx K) (tVar 12) (tVar 8)) (gName 11)) (tSeq (tMore K) (tEnd K))) D (sigS b by_ way spot v1 v3 v4 v6 v7 x9 (some (.ref l)) x11 (some (.ref a')) (some (.int later)) x14) H1
  refine e_seq ?_
  refine e_asg ?_
  refine e_op ?_
  refine e_var rfl ?_
  refine e_var rfl ?_
  refine e_ixs (Eff.sub _ _ (s1 _ _ visA)) a2 ?_
  refine e_gName ?_
  show (tSeq (tMore K) (tEnd K)) D (sigS b by_ way spot v1 v3 v4 v6 v7 x9 (some (.ref l)) (some (gV xs' spot)) (some (.ref a')) (some (.int later)) x14) H1
  refine e_seq ?_
  refine e_ifS ?_
  have sm1 := smF.trans s1
  have dv1 := a3.mono s1
  refine use_T (F := F) (Θ := fun b m => m = upN up j n ∧ b = isA (gD ds spot) "list") j1 (B.rep sm1 (s9 := .no) nn (s10 := .no) nn (s11 := .dat (gD ds spot)) ⟨_, rfl, dv1⟩ (s12 := .no) nn (s13 := .no) nn (s14 := .no) nn) ?_ fun b4 H2 m ⟨em, eb⟩ j2 s2 => ?_
  · walk_at "gd"
    exact ⟨rfl, rfl⟩
  subst em
  have sm2 := sm1.trans s2
  have dv2 := dv1.mono s2
  have hl2 := s2 _ _ hl
  have fin : ∀ (d : PyData) (H3 : Hp), F.J (upN up j n) H3 → Same (F.st H0) (F.st H3) → F.st H3 l = some (.lst [.str (wordOf (errOf spot)), gV xs' spot, .bl true]) → Dq K (F.st H3) (gV xs' spot) d → nice d = true → PyData.depth d ≤ 15 → wt d ≤ 50000 →
      tEnd K D (sigS b by_ way spot v1 v3 v4 v6 v7 x9 (some (.ref l)) (some (gV xs' spot)) (some (.ref a')) (some (.int later)) x14) H3 := fun d H3 j3 s3 hl3 dv3 h1 h2 h3 => by
    refine use_S (F := F) j3 (B.rep s3 (s9 := .no) nn (s10 := .dat (.list [.str (wordOf (errOf spot)), d, .bool true])) ⟨_, rfl, .lst hl3 (.cons (.str _) (.cons dv3 (.cons (.bl _) .nil)))⟩ (s11 := .dat d) ⟨_, rfl, dv3⟩ (s12 := .no) nn (s13 := .no) nn (s14 := .no) nn) (end_w hw hs h1 h2 h3)
      ⟨fun σ' H' ρ' m ⟨em, er⟩ j' s' r' => ?_, fun _ _ _ _ z => z.elim, fun _ _ _ _ z => z.elim, fun _ _ _ _ z => z.elim⟩
    subst em
    subst er
    exact hN none none none none none none H' j hj j' (s3.trans s') σ' (rep_no 11 (rep_no 10 r'))
  refine e_ite (fun h => ?_) (fun h => ?_)
  · obtain ⟨es, ed⟩ : ∃ es, gD ds spot = .list es := by
      rw [h] at eb
      exact isA_list eb.symm
    rw [ed] at dv2
    generalize hu : gV xs' spot = u at dv2 fin hl2 fr
    cases dv2 with
    | @lst a ys _ ha hys =>
      have hst := vd.st es ed
      have nl0 := fr hi a rfl ⟨es, ed⟩
      refine e_drop ?_
      refine ⟨.ref a, rfl, .inl ⟨rfl, ys, SqL.of (Eff.sub _ _ ha)⟩, ?_⟩
      refine e_cons ?_
      refine e_c ?_
      refine e_nil ?_
      have ly : ys.length ≤ 40000 := by
        have := vd.w
        rw [ed] at this
        rw [hys.length]
        exact le_wts this
      refine ⟨a, ys, _, rfl, rfl, Eff.sub _ _ ha, sz (ys.length + 1) (by omega), ?_⟩
      have nOa : ¬ F.own a := fun z => by
        rw [Eff.st_own z] at ha
        cases ha
      have la : l ≠ a := fun z => by
        subst z
        have q := a3
        rw [hu, ed] at q
        cases q with
        | lst h' _ =>
          rw [nl] at h'
          cases h'
      have dsp := vd.dp
      have wsp := vd.w
      have nsp := vd.n
      rw [ed] at dsp wsp nsp
      refine fin (.list (es ++ [.str (Str.ofString "more")])) _ (eff_off ha j2) (fun c o e => ?_) ?_ ?_ ?_ ?_ ?_
      · have hc : c ≠ a := fun z => by
          subst z
          rw [nl0] at e
          cases e
        rw [st_off hc]
        exact sm2 _ _ e
      · rw [st_off la]
        exact hl2
      · refine .lst (by rw [Eff.st_ne nOa]; exact upd_same) (DqAll.append (DqAll.keep (st_keeps (Keeps.upd (Eff.sub _ _ ha) (fun _ z => nomatch z) fun _ _ z => nomatch z)) hys hst) (.cons (.str _) .nil))
      · refine nices_of fun d hd => ?_
        rcases List.mem_append.mp hd with h | h
        · exact nices_mem nsp h
        · obtain rfl : d = .str (Str.ofString "more") := by simpa using h
          rfl
      · show PyData.depthAll _ + 1 ≤ 15
        have : PyData.depthAll (es ++ [.str (Str.ofString "more")]) ≤ 10 := depthAll_of fun d hd => by
          rcases List.mem_append.mp hd with h | h
          · have : PyData.depthAll es + 1 ≤ 10 := dsp
            exact depthAll_mem (by omega) h
          · obtain rfl : d = .str (Str.ofString "more") := by simpa using h
            exact Nat.zero_le _
        omega
      · show wts _ + 3 ≤ 50000
        rw [wts_append]
        have : wts [PyData.str (Str.ofString "more")] ≤ 100 := by decide +kernel
        have : wts es + 3 ≤ 40000 := wsp
        omega
  · refine e_next ?_
    exact fin (gD ds spot) H2 j2 sm2 hl2 dv2 vd.n (Nat.le_trans vd.dp (by decide)) (Nat.le_trans vd.w (by decide))
theorem args_w {G : Eff S} {s9 s10 s11 s12 s13 s14 : Sl} : wA G K tArgs (rhoS b bx by_ way spot s9 s10 s11 s12 s13 s14) n fun rs m => rs = (goodL bx).map .dat ∧ m = n := by
  walk_at "gd"
  exact ⟨rfl, rfl⟩
theorem rng_w {G : Eff S} {s9 s10 s11 s12 s13 s14 : Sl} (hw : way < 5) : wA G K (tCons (tVar 8) (tCons (tWay K) tNil)) (rhoS b bx by_ way spot s9 s10 s11 s12 s13 s14) n fun rs m => rs = [.dat (.int (spot : Int)), .dat (.int (nWords way : Int))] ∧ m = n := by
  obtain ⟨ws, e1, e2, e3⟩ := words_at hw
  walk_at "gd"
  refine r_ixl (atI_nat e1) ?_
  walk_at "gd"
  refine c_len (.inl rfl) ?_
  rw [e2]
  walk_at "gd"
  exact ⟨rfl, rfl⟩
theorem len_w {G : Eff S} {s8 s9 s10 s11 s12 s13 s14 : Sl} (hw : way < 5) : wA G K (tCons (tWay K) tNil) [.raw (.ref b), .dat (boxD bx), .dat (.bool by_), .dat (.list countsL), .dat (.list wordsL), .dat (.int (way : Int)), .dat (.list costsL), .dat (.list suresL), s8, s9, s10, s11, s12, s13, s14] n fun rs m => rs = [.dat (.int (nWords way : Int))] ∧ m = n := by
  obtain ⟨ws, e1, e2, e3⟩ := words_at hw
  walk_at "gd"
  refine r_ixl (atI_nat e1) ?_
  walk_at "gd"
  refine c_len (.inl rfl) ?_
  rw [e2]
  walk_at "gd"
  exact ⟨rfl, rfl⟩
theorem words_4 (hw : way < 5) : nWords way ≤ 4 := by
  have : way = 0 ∨ way = 1 ∨ way = 2 ∨ way = 3 ∨ way = 4 := by omega
  rcases this with rfl | rfl | rfl | rfl | rfl <;> decide
/-- a spot, whole -/
theorem spot_w (L : DrwLens F b cnt up) (hb : LB bx) (hc : cnt n + 9 ≤ 100000) (hw : way < 5) (hs : spot < nWords way) {s9 s10 s11 s12 s13 s14 : Sl} :
    wS F K (tSpot K) (rhoS b bx by_ way spot s9 s10 s11 s12 s13 s14) n { nx := fun ρ m => ∃ j, j ≤ 9 ∧ m = upN up j n ∧ ρ = rhoS b bx by_ way spot .no .no .no .no .no .no, rt := fun _ _ => False } := fun σ H0 D j0 rp0 M => by
  have w4 := words_4 hw
  cases rp0 with | cons r0 rp0 =>
  cases rp0 with | cons r1 rp0 =>
  cases rp0 with | cons r2 rp0 =>
  cases rp0 with | cons r3 rp0 =>
  cases rp0 with | cons r4 rp0 =>
  cases rp0 with | cons r5 rp0 =>
  cases rp0 with | cons r6 rp0 =>
  cases rp0 with | cons r7 rp0 =>
  cases rp0 with | cons r8 rp0 =>
  cases rp0 with | cons r9 rp0 =>
  cases rp0 with | cons r10 rp0 =>
  cases rp0 with | cons r11 rp0 =>
  cases rp0 with | cons r12 rp0 =>
  cases rp0 with | cons r13 rp0 =>
  cases rp0 with | cons r14 rp0 =>
  cases rp0
  obtain rfl := (show _ = some (V.ref b) from r0)
  obtain ⟨v1, rfl, q1⟩ := r1
  obtain ⟨v2, rfl, q2⟩ := r2
  obtain ⟨v3, rfl, q3⟩ := r3
  obtain ⟨v4, rfl, q4⟩ := r4
  obtain ⟨v5, rfl, q5⟩ := r5
  obtain ⟨v6, rfl, q6⟩ := r6
  obtain ⟨v7, rfl, q7⟩ := r7
  obtain ⟨v8, rfl, q8⟩ := r8
  cases q2
  cases q5
  cases q8
  have B : Base9 F K H0 b bx by_ way spot v1 v3 v4 v6 v7 := ⟨q1, q3, q4, q6, q7⟩
  refine e_seq ?_
  refine e_par ?_
  refine e_cons ?_
  refine e_lst ?_
  refine args_w _ H0 _ j0 (B.rep (Same.refl _) (s9 := .no) nn (s10 := .no) nn (s11 := .no) nn (s12 := .no) nn (s13 := .no) nn (s14 := .no) nn) fun xs H1 rs m ⟨ers, em⟩ j1 s1 ra => ?_
  subst ers
  subst em
  have dq1 : DqAll K (F.st H1) xs (goodL bx) := ra.dats
  have lx : xs.length = 4 := dq1.length
  refine ⟨sz _ (by omega), fun A nA => ?_⟩
  have nO : ¬ F.own A := Eff.fresh j1 nA
  have S2 : Same (F.st H1) ((F.hide A xs).st (upd H1 A (.lst xs))) := hide_new nA
  have J2 : (F.hide A xs).J m (upd H1 A (.lst xs)) := ⟨Eff.keep (same_upd nA) j1, upd_same⟩
  have sm2 := s1.trans S2
  refine e_cons ?_
  refine use_E (F := F.hide A xs) (Φ := fun r k => ∃ i : Int, r = .dat (.int i) ∧ k = up m) J2 (B.rep sm2 (s9 := .no) nn (s10 := .no) nn (s11 := .no) nn (s12 := .no) nn (s13 := .no) nn (s14 := .no) nn) ?_ fun v H3 r k ⟨later, er, ek⟩ j3 s3 rv => ?_
  · walk_at "gd"
    refine c_take (L.hide nO) (many := 2) (by omega) (by decide) (by decide) fun r _ _ => ?_
    exact ⟨r, rfl, rfl⟩
  subst er
  subst ek
  cases (show Dq K _ v (.int later) from rv)
  have sm3 := sm2.trans s3
  refine e_nil ?_
  refine e_two ?_
  show (tSeq (tFor (iRng2 (tCons (tVar 8) (tCons (tWay K) tNil))) (gName 9) (tKB K)) (tTold K)) D (sigS b by_ way spot v1 v3 v4 v6 v7 _ _ _ (some (.ref A)) (some (.int later)) _) H3
  refine e_seq ?_
  unfold tFor iRng2
  refine rng_w (G := F.hide A xs) hw _ H3 _ j3 (B.rep sm3 (s9 := .no) nn (s10 := .no) nn (s11 := .no) nn (s12 := .no) nn (s13 := .no) nn (s14 := .no) nn) fun vs H4 rs k ⟨ers, ek⟩ j4 s4 ra4 => ?_
  subst ers
  subst ek
  have sm4 := sm3.trans s4
  cases ra4 with | cons y1 ra4 =>
  cases ra4 with | cons y2 ra4 =>
  cases ra4
  cases y1
  cases y2
  refine ⟨(spot : Int), (nWords way : Int), rfl, by omega, ?_⟩
  have ek : ((nWords way : Int) - (spot : Int)).toNat = nWords way - spot := by omega
  rw [ek]
  refine for_range (fun i σ H => Turn F K H0 A b bx by_ way spot v1 v3 v4 v6 v7 up m i σ H) ⟨xs, goodL bx, 1, _, _, _, _, later, rfl, j4, Nat.le_refl _, sm4, (dq1.mono S2).mono (s3.trans s4), ⟨rfl, good_val hb, hb.szd, fun _ _ => rfl, fun z => absurd z (by decide)⟩, fun z => absurd z (by decide)⟩ (fun i σ' H' hi h => ?_) fun σ' H' h => ?_
  · exact turn_ok L hb hc B nO (by omega) (fun _ _ h => h) h
  · refine told_ok (D := D) hb hw hs B nO (by omega) (fun _ _ _ _ _ _ H5 j hj j5 s5 σ5 r5 => ?_) h
    exact M.nx σ5 H5 _ _ ⟨j, by omega, rfl, rfl⟩ j5 s5 r5
end
end K35
/-! the steps over data that need no thought -/
local macro_rules | `(tactic| walk_at "gd") => `(tactic| repeat (first
  | ((with_reducible refine' WkD.w_var ?hv ?hn ?_); (case hv => exact rfl); (case hn => exact (fun z => nomatch z)))
  | with_reducible refine WkD.w_int ?_ | with_reducible refine WkD.w_str ?_ | with_reducible refine WkD.w_non ?_ | with_reducible refine WkD.w_bl ?_
  | with_reducible refine WkD.w_chain ?_ | with_reducible refine WkD.w_tyc ?_ | ((with_reducible refine' WkD.c_isi ?hu ?_); (case hu => decide))
  | with_reducible refine WkD.w_op ?_ | with_reducible refine WkD.w_un ?_ | with_reducible refine WkD.w_nil ?_ | with_reducible refine WkD.w_cons ?_ | ((with_reducible refine' WkD.w_isi2 ?ha ?hb ?_); (case ha => decide); (case hb => decide)) | with_reducible refine WkD.w_CB ?_ | with_reducible refine WkD.w_call ?_
  | with_reducible refine WkD.w_if ?_ | with_reducible refine WkD.w_andV ?_ | with_reducible refine WkD.w_orV ?_ | with_reducible refine WkD.w_notV ?_ | with_reducible refine WkD.w_test ?_ | with_reducible refine WkD.w_tB ?_ | with_reducible refine WkD.w_not ?_
  | with_reducible refine WkD.w_and ?_ | with_reducible refine WkD.w_or ?_ | with_reducible refine WkD.w_yes ?_ | with_reducible refine WkD.w_next ?_ | with_reducible refine WkD.w_seq ?_ | with_reducible refine WkD.w_ret ?_ | with_reducible refine WkD.w_retN ?_
  | with_reducible refine WkD.w_drop ?_ | with_reducible refine WkD.w_ifS ?_ | with_reducible refine WkD.w_asg ?_ | with_reducible refine WkD.w_sl ?_ | with_reducible refine WkD.w_po0 ?_ | with_reducible refine WkD.w_po1 ?_ | with_reducible refine WkD.e_si ?_ | with_reducible refine WkD.l_A ?_ | with_reducible refine WkD.l_L ?_ | with_reducible refine WkD.w_cont ?_ | with_reducible refine WkD.w_break ?_ | with_reducible refine WkD.w_gt2 ?_ | with_reducible refine WkD.w_gt3 ?_ | with_reducible refine WkD.w_gcons ?_ | with_reducible refine WkD.w_gnil ?_ | with_reducible refine WkD.w_name ?_ | with_reducible refine WkD.w_par ?_
  | with_reducible refine WkD.r_I0i ?_ | with_reducible refine WkD.r_I0b ?_ | with_reducible refine WkD.u_U ?_ | with_reducible refine WkD.r_eqI ?_ | with_reducible refine WkD.r_neI ?_ | with_reducible refine WkD.r_eqS ?_ | with_reducible refine WkD.r_eqB ?_
  | ((with_reducible refine' WkD.r_ix ?hi ?_); (case hi => exact rfl)) | ((with_reducible refine' WkD.r_ixl ?hi ?_); (case hi => exact rfl))
  | ((with_reducible refine' WkD.r_ixT ?hi ?_); (case hi => exact rfl)) | ((with_reducible refine' WkD.r_ixL ?hi ?_); (case hi => exact rfl))
  | with_reducible refine WkD.c_gcd ?_ | with_reducible refine WkD.c_abs ?_ | with_reducible refine WkD.c_int ?_ | with_reducible refine WkD.e_bool ?_ | with_reducible refine WkD.w_tup ?_ | with_reducible refine WkD.w_lst ?_ | with_reducible refine WkD.e_ab ?_ | with_reducible refine WkD.d0 ?_ | with_reducible refine WkD.d1 ?_ | with_reducible refine WkD.d2 ?_ | with_reducible refine WkD.d3 ?_ | with_reducible refine WkD.d4 ?_))



namespace K35
open PySem PySem.Spec PyProof.Rows L2 WkH WkE WkQ WkS WkF WkD WkN WkC WkT WkP WkG
theorem w_conS {S : Type} {F : Eff S} {K : PySem.W.Frag} {t : TS} {ρ : List Sl} {n : S} {N : List Sl → S → Prop} {P : Po S} (h : wS F K t ρ n { nx := N, rt := fun _ _ => False }) (i : ∀ ρ m, N ρ m → P.nx ρ m) : wS F K t ρ n P := fun σ H D j rp M =>
  h σ H D j rp ⟨fun σ' H' ρ' m p j' s' r' => M.nx σ' H' ρ' m (i ρ' m p) j' s' r', fun _ _ _ _ z => z.elim, fun _ _ _ _ z => z.elim, fun _ _ _ _ z => z.elim⟩
section
variable {P : Program} {w : World} {K : PySem.W.Frag} {mg : Str → Option Value} {base : Heap}
def encRr (q : List (Rat × Rat) × Bool) : List PyData := [boxD q.1, .bool q.2]
abbrev spRefused : Sp := spDr K encRr (fun q => LB q.1) (fun _ => 200) fun _ d => d = .bool true
theorem scL_refused_right : FnScope ["draw", "one", "by_name", "counts", "words", "way", "costs", "sures", "spot", "k", "told", "value", "args", "later", "menu"] ["draw", "one", "by_name"] d_law_refused_right.sco := ⟨rfl, rfl, rfl, by decide +kernel, rfl, by decide +kernel, by decide +kernel⟩
theorem ok_lrefused {fd : FuncData} (hy : sysB K = true) (F : Stands K d_law_refused_right fd) (T : Bg K mg) (Ftk : Fn P w K mg base CX0 1 "_law_take" ["draw", "many"] WkD.spTake) (Fbad : Fn P w K mg base CX0 2 "_law_bad_box" ["draw", "one"] (spBadBox (K := K))) (Fc : Fn P w K mg base CX0 10 "_law_called" ["way", "args", "by_name"] (spCalled K)) :
    FnG P w K mg base CX0 12 d_law_refused_right.adr fd ["draw", "one", "by_name"] (spRefused (K := K)) := by
  refine okG F scL_refused_right (fun vs H Q E h => len_Dr h fun _ => rfl) (fun cdv A outer s H vs Q E hG hr h => ⟨_, PSs.nox (pss_cons (ps_par (i := 6) (j := 7) rfl scL_refused_right.nd rfl rfl (by decide) rfl rfl (pa_cons (pe_lst (pa_cons (pe_tup (pa_cons pe_int (pa_cons pe_int pa_nil))) (pa_cons (pe_tup (pa_cons (pe_un un_neg pe_int) (pa_cons pe_int pa_nil))) (pa_cons pe_int (pa_cons pe_non (pa_cons (pe_tup (pa_cons pe_int (pa_cons pe_int pa_nil))) (pa_cons (pe_lst (pa_cons pe_int (pa_cons pe_int pa_nil))) (pa_cons pe_str (pa_cons (pe_tup (pa_cons pe_int (pa_cons pe_int pa_nil))) (pa_cons pe_dnewK (pa_cons (pe_tup (pa_cons pe_bl (pa_cons pe_int pa_nil))) pa_nil))))))))))) (pa_cons (pe_lst (pa_cons pe_non (pa_cons pe_int (pa_cons (pe_tup (pa_cons pe_int (pa_cons pe_int pa_nil))) (pa_cons (pe_tup (pa_cons pe_int (pa_cons pe_int pa_nil))) (pa_cons (pe_lst (pa_cons pe_int (pa_cons pe_int pa_nil))) (pa_cons pe_str (pa_cons (pe_tup (pa_cons pe_int (pa_cons (pe_un un_neg pe_int) pa_nil))) (pa_cons pe_dnewK pa_nil))))))))) pa_nil)) rfl)
  (pss_cons (ps_set (i := 3) scL_refused_right.nd rfl (by first | exact Or.inl rfl | exact Or.inr rfl) (pe_lst (pa_cons (pe_un un_neg pe_int) (pa_cons pe_int (pa_cons pe_non (pa_cons pe_bl (pa_cons pe_str (pa_cons (pe_lst (pa_cons pe_int pa_nil)) (pa_cons (pe_tup (pa_cons pe_int pa_nil)) (pa_cons pe_dnewK pa_nil))))))))))
  (pss_cons (ps_set (i := 4) scL_refused_right.nd rfl (by first | exact Or.inl rfl | exact Or.inr rfl) (pe_lst (pa_cons (pe_lst (pa_cons pe_str (pa_cons pe_str pa_nil))) (pa_cons (pe_lst (pa_cons pe_str (pa_cons pe_str (pa_cons pe_str pa_nil)))) (pa_cons (pe_lst (pa_cons pe_str (pa_cons pe_str pa_nil))) (pa_cons (pe_lst (pa_cons pe_str (pa_cons pe_str (pa_cons pe_str (pa_cons pe_str pa_nil))))) (pa_cons (pe_lst (pa_cons pe_str (pa_cons pe_str (pa_cons pe_str (pa_cons pe_str pa_nil))))) pa_nil)))))))
  (pss_cons (ps_for PassesOwn.never rfl (pi_range1 rfl T.range (pa_cons pe_int pa_nil)) (pg_name (i := 5) scL_refused_right.nd rfl (by first | exact Or.inl rfl | exact Or.inr rfl)) (pss_cons (ps_for PassesOwn.never rfl (pi_range1 rfl T.range (pa_cons (pe_callB call_len_seq rfl T.len WkB.b_len (pa_cons (pe_ix (show IxR _ (rIx K) from ix_seq) (pv 4) (pv 5) (fun _ _ => rfl)) pa_nil)) pa_nil)) (pg_name (i := 8) scL_refused_right.nd rfl (by first | exact Or.inl rfl | exact Or.inr rfl)) (pss_cons (ps_par (i := 12) (j := 13) rfl scL_refused_right.nd rfl rfl (by decide) rfl rfl (pa_cons (pe_lst (pa_cons (pv 1) (pa_cons (pe_tup (pa_cons pe_int (pa_cons pe_int pa_nil))) (pa_cons (pe_tup (pa_cons pe_int (pa_cons pe_int pa_nil))) (pa_cons pe_int pa_nil))))) (pa_cons (pe_fn Ftk hr rfl (pa_cons (pv 0) (pa_cons pe_int pa_nil))) pa_nil)) rfl)
  (pss_cons (ps_for PassesOwn.never rfl (pi_range2 rfl T.range (pa_cons (pv 8) (pa_cons (pe_callB call_len_seq rfl T.len WkB.b_len (pa_cons (pe_ix (show IxR _ (rIx K) from ix_seq) (pv 4) (pv 5) (fun _ _ => rfl)) pa_nil)) pa_nil))) (pg_name (i := 9) scL_refused_right.nd rfl (by first | exact Or.inl rfl | exact Or.inr rfl)) (pss_one (ps_if (PW.pt (pw_or (pt_cmpR op_eq (pv 9) (pv 8) (nomark _)) (pw_or1 (pt_cmpR op_eq (pv 13) pe_int (nomark _))))) (pss_cons (ps_set (i := 14) scL_refused_right.nd rfl (by first | exact Or.inl rfl | exact Or.inr rfl) (pe_ix (show IxR _ (rIx K) from ix_seq) (pe_lst (pa_cons (pe_lst (pa_cons (pe_fn Fbad hr rfl (pa_cons (pv 0) (pa_cons (pv 1) pa_nil))) pa_nil)) (pa_cons (pv 6) (pa_cons (pv 7) (pa_cons (pv 3) pa_nil))))) (pv 9) (fun _ _ => rfl)))
  (pss_cons (ps_set (i := 11) scL_refused_right.nd rfl (by first | exact Or.inl rfl | exact Or.inr rfl) (pe_ix (show IxR _ (rIx K) from ix_seq) (pv 14) (pe_fn Ftk hr rfl (pa_cons (pv 0) (pa_cons (pe_callB call_len_seq rfl T.len WkB.b_len (pa_cons (pv 14) pa_nil)) pa_nil))) (fun _ _ => rfl)))
  (pss_one (ps_asg (pe_ifExp (pt_val (pe_callB call_isi rfl T.isinstance WkB.b_isinstance (pa_cons (pv 11) (pa_cons (pe_bltn (v := .ty "list") rfl T.list WkB.b_list rfl) pa_nil)))) (pe_callTy call_list_of rfl T.list WkB.b_list (pa_cons (pv 11) pa_nil)) (pv 11)) (pg_sub (pv 12) (pv 9) set_list))))) pss_nil)))
  (pss_cons (ps_set (i := 10) scL_refused_right.nd rfl (by first | exact Or.inl rfl | exact Or.inr rfl) (pe_fn Fc hr rfl (pa_cons (pv 5) (pa_cons (pv 12) (pa_cons (pv 2) pa_nil)))))
  (pss_cons (ps_set (i := 11) scL_refused_right.nd rfl (by first | exact Or.inl rfl | exact Or.inr rfl) (pe_ix (show IxR _ (rIx K) from ix_seq) (pv 12) (pv 8) (fun _ _ => rfl)))
  (pss_cons (ps_if (pt_val (pe_callB call_isi rfl T.isinstance WkB.b_isinstance (pa_cons (pv 11) (pa_cons (pe_bltn (v := .ty "list") rfl T.list WkB.b_list rfl) pa_nil)))) (pss_one (ps_expr (pe_bm PySem.F.plainAttrs_list PySem.F.slot_list_append PySem.F.type_list_append mt_append (pv 11) (pa_cons pe_str pa_nil)))) pss_nil)
  (pss_one (ps_if (PW.pt (pw_or (pt_cmpR op_ne (pe_ix (show IxR _ (rIx K) from ix_seq) (pv 10) pe_int (fun _ _ => rfl)) (pe_ix (show IxR _ (rIx K) from ix_seq) (pe_ix (show IxR _ (rIx K) from ix_seq) (pv 4) (pv 5) (fun _ _ => rfl)) (pv 8) (fun _ _ => rfl)) (nomark _)) (pw_or (pt_cmpR op_notBl (pe_ix (show IxR _ (rIx K) from ix_seq) (pv 10) pe_int (fun _ _ => rfl)) pe_bl (nomark _)) (pw_or1 (pt_cmpR op_ne (pe_callB (cr_repr hG hr hy) rfl T.repr WkB.b_repr (pa_cons (pe_ix (show IxR _ (rIx K) from ix_seq) (pv 10) pe_int (fun _ _ => rfl)) pa_nil)) (pe_callB (cr_repr hG hr hy) rfl T.repr WkB.b_repr (pa_cons (pv 11) pa_nil)) (nomark _)))))) (pss_one (ps_ret pe_bl)) pss_nil))))))))
  (pss_one (ps_set (i := 2) scL_refused_right.nd rfl (by first | exact Or.inl rfl | exact Or.inr rfl) (pe_not (pv 2))))))
  (pss_one (ps_ret pe_bl)))))), ?_⟩)
  refine body_Dr h fun F n q b cnt up L hp hct => ?_
  obtain ⟨bx, by_⟩ := q
  have hb : LB bx := hp
  have hct : cnt n + 200 ≤ 100000 := hct
  try dsimp only [cxOf, Cx.nox, Cx.wish, encRr]
  walk_at "gd"
  refine w_dnewD ?_
  walk_at "gd"
  refine ⟨costsL, rfl, (show 10 ≤ 100000 by decide), ?_⟩
  walk_at "gd"
  refine w_dnewD ?_
  walk_at "gd"
  refine ⟨suresL, rfl, (show 8 ≤ 100000 by decide), ?_⟩
  walk_at "gd"
  refine w_dnewD ?_
  walk_at "gd"
  refine ⟨countsL, rfl, (show 8 ≤ 100000 by decide), ?_⟩
  walk_at "gd"
  refine ⟨wordsL, rfl, (show 5 ≤ 100000 by decide), ?_⟩
  walk_at "gd"
  refine w_forR1 ?_
  walk_at "gd"
  refine ⟨5, rfl, by decide, by decide, ?_⟩
  refine ⟨fun w ρ m => ∃ (by' : Bool) (jj : Nat) (s5 s8 s9 s10 s11 s12 s13 s14 : Sl), ρ = [.raw (.ref b), .dat (boxD bx), .dat (.bool by'), .dat (.list countsL), .dat (.list wordsL), s5, .dat (.list costsL), .dat (.list suresL), s8, s9, s10, s11, s12, s13, s14] ∧ jj ≤ 36 * w ∧ m = upN up jj n,
    ⟨by_, 0, _, _, _, _, _, _, _, _, rfl, Nat.zero_le _, rfl⟩, fun w d ρ m hi hI => ?_, fun ρ m hI => ?_⟩
  rotate_left
  · obtain ⟨by', jj, s5, s8, s9, s10, s11, s12, s13, s14, rfl, hjj, rfl⟩ := hI
    walk_at "gd"
    exact ⟨jj, _, Nat.le_trans hjj (by decide), rfl, rfl, rfl⟩
  obtain ⟨by', jj, s5, s8, s9, s10, s11, s12, s13, s14, rfl, hjj, rfl⟩ := hI
  have hw : w < 5 := (List.getElem?_eq_some_iff.mp hi).1
  have hi : (intsD 0 5)[w]? = some d := hi
  rw [intsD_get hw, Int.zero_add] at hi
  injection hi with hi
  subst hi
  obtain ⟨ws, e1, e2, e3⟩ := words_at hw
  have w4 := words_4 hw
  walk_at "gd"
  refine w_forR1 ?_
  walk_at "gd"
  refine r_ixl (atI_nat e1) ?_
  walk_at "gd"
  refine c_len (.inl rfl) ?_
  rw [e2]
  walk_at "gd"
  refine ⟨_, rfl, by omega, by omega, ?_⟩
  rw [Int.toNat_natCast]
  refine ⟨fun t ρ m => ∃ (j2 : Nat) (s8 s9 s10 s11 s12 s13 s14 : Sl), ρ = [.raw (.ref b), .dat (boxD bx), .dat (.bool by'), .dat (.list countsL), .dat (.list wordsL), .dat (.int (w : Int)), .dat (.list costsL), .dat (.list suresL), s8, s9, s10, s11, s12, s13, s14] ∧ j2 ≤ 36 * w + 9 * t ∧ m = upN up j2 n,
    ⟨jj, _, _, _, _, _, _, _, rfl, by omega, rfl⟩, fun t d ρ m ht hI => ?_, fun ρ m hI => ?_⟩
  · obtain ⟨j2, s8, s9, s10, s11, s12, s13, s14, rfl, hj2, rfl⟩ := hI
    have lt : t < nWords w := by
      have := (List.getElem?_eq_some_iff.mp ht).1
      rwa [intsD_length] at this
    rw [intsD_get lt, Int.zero_add] at ht
    injection ht with ht
    subst ht
    refine w_name ?_
    have cj : cnt (upN up j2 n) = cnt n + j2 := upN_cnt L j2 n
    refine w_conS (spot_w L hb (by rw [cj]; omega) hw lt) fun ρ m ⟨j3, hj3, em, er⟩ => ?_
    exact ⟨j3 + j2, _, _, _, _, _, _, _, er, by omega, em.trans (upN_add j3 j2 n)⟩
  · obtain ⟨j2, s8, s9, s10, s11, s12, s13, s14, rfl, hj2, rfl⟩ := hI
    rw [intsD_length] at hj2
    walk_at "gd"
    exact ⟨!by', j2, _, _, _, _, _, _, _, _, rfl, by omega, rfl⟩
end
end K35
/-! the steps over data that need no thought -/
local macro_rules | `(tactic| walk_at "gd") => `(tactic| repeat (first
  | ((with_reducible refine' WkD.w_var ?hv ?hn ?_); (case hv => exact rfl); (case hn => exact (fun z => nomatch z)))
  | with_reducible refine WkD.w_int ?_ | with_reducible refine WkD.w_str ?_ | with_reducible refine WkD.w_non ?_ | with_reducible refine WkD.w_bl ?_
  | with_reducible refine WkD.w_chain ?_ | with_reducible refine WkD.w_tyc ?_ | ((with_reducible refine' WkD.c_isi ?hu ?_); (case hu => decide))
  | with_reducible refine WkD.w_op ?_ | with_reducible refine WkD.w_un ?_ | with_reducible refine WkD.w_nil ?_ | with_reducible refine WkD.w_cons ?_ | ((with_reducible refine' WkD.w_isi2 ?ha ?hb ?_); (case ha => decide); (case hb => decide)) | with_reducible refine WkD.w_CB ?_ | with_reducible refine WkD.w_call ?_
  | with_reducible refine WkD.w_if ?_ | with_reducible refine WkD.w_andV ?_ | with_reducible refine WkD.w_orV ?_ | with_reducible refine WkD.w_notV ?_ | with_reducible refine WkD.w_test ?_ | with_reducible refine WkD.w_tB ?_ | with_reducible refine WkD.w_not ?_
  | with_reducible refine WkD.w_and ?_ | with_reducible refine WkD.w_or ?_ | with_reducible refine WkD.w_yes ?_ | with_reducible refine WkD.w_next ?_ | with_reducible refine WkD.w_seq ?_ | with_reducible refine WkD.w_ret ?_ | with_reducible refine WkD.w_retN ?_
  | with_reducible refine WkD.w_drop ?_ | with_reducible refine WkD.w_ifS ?_ | with_reducible refine WkD.w_asg ?_ | with_reducible refine WkD.w_sl ?_ | with_reducible refine WkD.w_po0 ?_ | with_reducible refine WkD.w_po1 ?_ | with_reducible refine WkD.e_si ?_ | with_reducible refine WkD.l_A ?_ | with_reducible refine WkD.l_L ?_ | with_reducible refine WkD.w_cont ?_ | with_reducible refine WkD.w_break ?_ | with_reducible refine WkD.w_gt2 ?_ | with_reducible refine WkD.w_gt3 ?_ | with_reducible refine WkD.w_gcons ?_ | with_reducible refine WkD.w_gnil ?_ | with_reducible refine WkD.w_name ?_ | with_reducible refine WkD.w_par ?_
  | with_reducible refine WkD.r_I0i ?_ | with_reducible refine WkD.r_I0b ?_ | with_reducible refine WkD.u_U ?_ | with_reducible refine WkD.r_eqI ?_ | with_reducible refine WkD.r_neI ?_ | with_reducible refine WkD.r_eqS ?_ | with_reducible refine WkD.r_eqB ?_
  | ((with_reducible refine' WkD.r_ix ?hi ?_); (case hi => exact rfl)) | ((with_reducible refine' WkD.r_ixl ?hi ?_); (case hi => exact rfl))
  | ((with_reducible refine' WkD.r_ixT ?hi ?_); (case hi => exact rfl)) | ((with_reducible refine' WkD.r_ixL ?hi ?_); (case hi => exact rfl))
  | with_reducible refine WkD.c_gcd ?_ | with_reducible refine WkD.c_abs ?_ | with_reducible refine WkD.c_int ?_ | with_reducible refine WkD.e_bool ?_ | with_reducible refine WkD.w_tup ?_ | with_reducible refine WkD.w_lst ?_ | with_reducible refine WkD.e_ab ?_ | with_reducible refine WkD.d0 ?_ | with_reducible refine WkD.d1 ?_ | with_reducible refine WkD.d2 ?_ | with_reducible refine WkD.d3 ?_ | with_reducible refine WkD.d4 ?_))



namespace K35
open PySem PySem.Spec PyProof.Rows L2 WkH WkE WkQ WkS WkF WkD WkN WkC WkT WkP WkG
/-! the law's own boxes and costs -/
def gR (i : Nat) : Rat := ⟨0 + (i : Int) - 3, 1, by decide, Nat.coprime_one_right _⟩
abbrev p32 : Rat := ⟨1, 32, by decide, by decide⟩
def greatB : List (Rat × Rat) := (List.range 32).map fun i => (gR i, p32)
theorem and_con {S : Type} {F : Eff S} {K : PySem.W.Frag} {t : TE} {ρ : List Sl} {n : S} {p q : Prop} {r0 : Sl} {Φ Ψ : Sl → S → Prop} (h1 : p → wE F K t ρ n Ψ) (h2 : q → Ψ r0 n) (i : ∀ r m, Ψ r m → Φ r m) : (p → wE F K t ρ n Φ) ∧ (q → Φ r0 n) := ⟨fun h => w_conE (h1 h) i, fun h => i _ _ (h2 h)⟩
theorem up_of {b : List (Rat × Rat)} (h : ∀ i < b.length - 1, (b.getD i (0, 0)).1 < (b.getD (i + 1) (0, 0)).1) : K35M.Up b := fun i q r hq hr => by
  have l := (List.getElem?_eq_some_iff.mp hr).1
  have := h i (by omega)
  rw [List.getD_eq_getElem?_getD, List.getD_eq_getElem?_getD, hq, hr] at this
  exact this
theorem great_ok : LB greatB := by
  have a1 : ∀ q ∈ greatB, 0 < q.2 := by decide +kernel
  have a2 : ∀ i < greatB.length - 1, (greatB.getD i (0, 0)).1 < (greatB.getD (i + 1) (0, 0)).1 := by decide +kernel
  have a3 : K35M.chance greatB = 1 := by decide +kernel
  have a4 : ∀ q ∈ greatB, q.1.den ∣ 6 ∧ -((64 : Nat) : Rat) ≤ q.1 ∧ q.1 ≤ ((64 : Nat) : Rat) := by decide +kernel
  have a5 : ∀ q ∈ greatB, q.2.den ∣ 32 ∧ -((1 : Nat) : Rat) ≤ q.2 ∧ q.2 ≤ ((1 : Nat) : Rat) := by decide +kernel
  have w : ∀ q ∈ greatB, In 6 64 q.1 := fun q hq => ⟨by decide, (a4 q hq).1, (a4 q hq).2.1, (a4 q hq).2.2⟩
  exact ⟨⟨by decide, by decide, a1, up_of a2, a3⟩, ⟨32, by decide, by decide, by decide, by decide, by decide, fun q hq => (w q hq).mono (by decide) (Nat.dvd_refl _) (by decide), fun q hq => ⟨by decide, (a5 q hq).1, (a5 q hq).2.1, (a5 q hq).2.2⟩⟩, w⟩
def rI1 (i : Int) : Rat := ⟨i, 1, by decide, Nat.coprime_one_right _⟩
def twoB (r : Nat) : List (Rat × Rat) := [(rI1 0, half), (rI1 (1 + (r : Int)), half)]
theorem two_ok : ∀ r < 9, LB (twoB r) := fun r hr => by
  have a1 : ∀ r < 9, ∀ q ∈ twoB r, 0 < q.2 := by decide +kernel
  have a2 : ∀ r < 9, ∀ i < (twoB r).length - 1, ((twoB r).getD i (0, 0)).1 < ((twoB r).getD (i + 1) (0, 0)).1 := by decide +kernel
  have a3 : ∀ r < 9, K35M.chance (twoB r) = 1 := by decide +kernel
  have a4 : ∀ r < 9, ∀ q ∈ twoB r, q.1.den ∣ 6 ∧ -((64 : Nat) : Rat) ≤ q.1 ∧ q.1 ≤ ((64 : Nat) : Rat) := by decide +kernel
  have a5 : ∀ r < 9, ∀ q ∈ twoB r, q.2.den ∣ 2 ∧ -((1 : Nat) : Rat) ≤ q.2 ∧ q.2 ≤ ((1 : Nat) : Rat) := by decide +kernel
  have w : ∀ q ∈ twoB r, In 6 64 q.1 := fun q hq => ⟨by decide, (a4 r hr q hq).1, (a4 r hr q hq).2.1, (a4 r hr q hq).2.2⟩
  exact ⟨⟨(show 1 ≤ 2 by decide), (show 2 ≤ 32 by decide), a1 r hr, up_of (a2 r hr), a3 r hr⟩, ⟨2, by decide, by decide, by decide, by decide, (show 2 ≤ 32 by decide), fun q hq => (w q hq).mono (by decide) (Nat.dvd_refl _) (by decide), fun q hq => ⟨by decide, (a5 r hr q hq).1, (a5 r hr q hq).2.1, (a5 r hr q hq).2.2⟩⟩, w⟩
theorem lc_of {c : Rat} (h : 0 < c ∧ c ≤ ((32 : Nat) : Rat) ∧ c.den < 2 ^ 30) : LC c := ⟨h.1, ⟨c.den_pos, Nat.dvd_refl _, Rat.le_trans (b := 0) (by decide +kernel) (Rat.le_of_lt h.1), h.2.1⟩, h.2.2⟩
theorem cost1 : ∀ r < 8, ∀ t < 5, LC (Rat.divInt (1 + ((r : Nat) : Int)) (1 + ((t : Nat) : Int))) := fun r hr t ht => lc_of ((by decide +kernel : ∀ r < 8, ∀ t < 5, 0 < Rat.divInt (1 + ((r : Nat) : Int)) (1 + ((t : Nat) : Int)) ∧ Rat.divInt (1 + ((r : Nat) : Int)) (1 + ((t : Nat) : Int)) ≤ ((32 : Nat) : Rat) ∧ (Rat.divInt (1 + ((r : Nat) : Int)) (1 + ((t : Nat) : Int))).den < 2 ^ 30) r hr t ht)
def cost2 : Rat := ⟨1, 1000000007, by decide, by decide⟩
theorem cost2_ok : LC cost2 := lc_of (by decide +kernel)
theorem cost3 : ∀ r < 9, LC (rI1 (20 + ((r : Nat) : Int))) := fun r hr => lc_of ((by decide +kernel : ∀ r < 9, 0 < rI1 (20 + ((r : Nat) : Int)) ∧ rI1 (20 + ((r : Nat) : Int)) ≤ ((32 : Nat) : Rat) ∧ (rI1 (20 + ((r : Nat) : Int))).den < 2 ^ 30) r hr)
def LoopR (lo : Int) (n : Nat) (g : TG) (tb : TS) (D : Ends) (σ : L2.St) (H : Hp) : Prop := ∃ W : Nat → Nat → L2.St → Hp → Prop, (∃ m, W 0 m σ H) ∧ ∀ i m σ H, W i m σ H →
      ((Itr lo n).stop i H ∧ D.nx σ H) ∨ ((Itr lo n).go i H ∧ ∃ N : L2.St → Hp → Prop, (∀ σ' H', N σ' H' → ∃ m', m' < m ∧ W (i + 1) m' σ' H') ∧ ∀ x H', (Itr lo n).yld i H x H' → g x σ H' fun σ2 H2 => tb { D with nx := N, ct := N, bk := D.nx } σ2 H2)
theorem e_for1 {ta : TA} {g : TG} {tb : TS} {D : Ends} {σ : L2.St} {H : Hp} (q : ta σ H fun vs H1 => ∃ j : Int, vs = [.int j] ∧ -(2 ^ 62) ≤ j ∧ j < 2 ^ 62 ∧ LoopR 0 j.toNat g tb D σ H1) : tFor (iRng1 ta) g tb D σ H := q
theorem loop_by {n : Nat} {g : TG} {tb : TS} {D : Ends} {σ : L2.St} {H : Hp} (Pv : Nat → L2.St → Hp → Prop) (h0 : Pv 0 σ H)
    (hs : ∀ i σ H, i < n → Pv i σ H → g (.int (0 + (i : Int))) σ H fun σ2 H2 => tb { D with nx := Pv (i + 1), ct := Pv (i + 1), bk := D.nx } σ2 H2) (hd : ∀ σ H, Pv n σ H → D.nx σ H) : LoopR 0 n g tb D σ H := for_range Pv h0 hs hd
def spLaw (K : PySem.W.Frag) : Sp := fun vs H Q _ => ∃ (a : Addr) (ns : List Int), vs = [.ref a] ∧ SqL K H a (ns.map V.int) ∧ ns.length ≤ 100000 ∧ ∀ H', Q (.bl true) H'
section
variable {P : Program} {w : World} {K : PySem.W.Frag} {mg : Str → Option Value} {base : Heap}
theorem sclaw : FnScope ["script", "k", "draw", "one", "cost", "by_name", "great", "worth"] ["script"] dlaw.sco := ⟨rfl, rfl, rfl, by decide +kernel, rfl, by decide +kernel, by decide +kernel⟩
theorem ok_law {fd : FuncData} (F : Stands K dlaw fd) (T : Bg K mg) (Fcell : Fn P w K mg base CX0 1 "_law_cell" ["script", "k"] (WkD.spCell K)) (Fdraw : Fn P w K mg base CX0 1 "_law_draw" ["great"] spDraw) (Ftk : Fn P w K mg base CX0 1 "_law_take" ["draw", "many"] WkD.spTake) (Fbox : Fn P w K mg base CX0 3 "_law_box" ["draw", "many", "low"] (spLawBox (K := K)))
    (Flow : Fn P w K mg base CX0 1 "_law_low" ["top", "base"] (spReduced (K := K))) (Fsr : Fn P w K mg base CX0 12 "_law_search_right" ["draw", "one", "cost", "by_name"] (spSearch (K := K))) (Flr : Fn P w K mg base CX0 19 "_law_long_right" ["one", "cost", "by_name"] (spLong (K := K))) (Frr : FnC P w K mg base CX0 12 "_law_refused_right" ["draw", "one", "by_name"] (spRefused (K := K))) :
    FnG P w K mg base CX0 20 dlaw.adr fd ["script"] (spLaw K) := by
  refine okG F sclaw (fun vs H Q E h => ?_) (fun cdv A outer s H vs Q E hG hr h => ⟨_, PSs.nox (pss_cons (ps_for PassesOwn.never rfl (pi_range1 rfl T.range (pa_cons (pe_callB (call_max2 rfl) rfl T.max WkB.b_max (pa_cons pe_int (pa_cons (pe_callB (call_min2 rfl) rfl T.min WkB.b_min (pa_cons pe_int (pa_cons (pe_callB call_len_seq rfl T.len WkB.b_len (pa_cons (pv 0) pa_nil)) pa_nil))) pa_nil))) pa_nil)) (pg_name (i := 1) sclaw.nd rfl (by first | exact Or.inl rfl | exact Or.inr rfl)) (pss_cons (ps_set (i := 2) sclaw.nd rfl (by first | exact Or.inl rfl | exact Or.inr rfl) (pe_fn Fdraw hr rfl (pa_cons (pe_fn Fcell hr rfl (pa_cons (pv 0) (pa_cons (pv 1) pa_nil))) pa_nil)))
  (pss_cons (ps_par (i := 5) (j := 6) rfl sclaw.nd rfl rfl (by decide) rfl rfl (pa_cons (pe_cmpR op_eq (pe_fn Ftk hr rfl (pa_cons (pv 2) (pa_cons pe_int pa_nil))) pe_int (nomark _)) (pa_cons (pe_and (pe_cmpR op_eq (pe_fn Ftk hr rfl (pa_cons (pv 2) (pa_cons pe_int pa_nil))) pe_int (nomark _)) (pe_one (pe_cmpR op_eq (pv 1) pe_int (nomark _)))) pa_nil)) rfl)
  (pss_cons (ps_set (i := 3) sclaw.nd rfl (by first | exact Or.inl rfl | exact Or.inr rfl) (pe_ifExp (pt_val (pv 6)) (pe_callTy call_tuple_of rfl T.tuple WkB.b_tuple (pa_cons (pe_lc (own := [("worth", 7)]) (g := (gName 7)) rfl sclaw.nd (pi_range1 rfl T.range (pa_cons pe_int pa_nil)) (blkOk_by (own := [("worth", 7)]) (N := ["script", "k", "draw", "one", "cost", "by_name", "great", "worth"]) (sc := dlaw.sco) (by decide +kernel)) (fun _ _ _ _ _ => (pg_name (i := 7) sclaw.nd rfl (by first | exact Or.inl rfl | exact Or.inr rfl))) (fun _ _ _ _ _ => pts_nil) (fun _ _ _ _ _ => (pe_tup (pa_cons (pe_tup (pa_cons (pe_op op_sub (pv 7) pe_int) (pa_cons pe_int pa_nil))) (pa_cons (pe_tup (pa_cons pe_int (pa_cons pe_int pa_nil))) pa_nil))))) pa_nil)) (pe_fn Fbox hr rfl (pa_cons (pv 2) (pa_cons (pe_op op_add pe_int (pe_fn Ftk hr rfl (pa_cons (pv 2) (pa_cons pe_int pa_nil)))) (pa_cons (pe_un un_neg pe_int) pa_nil))))))
  (pss_cons (ps_set (i := 4) sclaw.nd rfl (by first | exact Or.inl rfl | exact Or.inr rfl) (pe_ix (show IxR _ (rIx K) from ix_seq) (pe_lst (pa_cons (pe_fn Flow hr rfl (pa_cons (pe_op op_add pe_int (pe_fn Ftk hr rfl (pa_cons (pv 2) (pa_cons pe_int pa_nil)))) (pa_cons (pe_op op_add pe_int (pe_fn Ftk hr rfl (pa_cons (pv 2) (pa_cons pe_int pa_nil)))) pa_nil))) (pa_cons (pe_tup (pa_cons pe_int (pa_cons (pe_op op_add (pe_op op_pow pe_int pe_int) pe_int) pa_nil))) (pa_cons (pe_tup (pa_cons (pe_op op_add pe_int (pe_fn Ftk hr rfl (pa_cons (pv 2) (pa_cons pe_int pa_nil)))) (pa_cons pe_int pa_nil))) pa_nil)))) (pe_fn Ftk hr rfl (pa_cons (pv 2) (pa_cons pe_int pa_nil))) (fun _ _ => rfl)))
  (pss_cons (ps_if (PW.pt (pw_or (pt_not (pt_val (pe_fn Fsr hr rfl (pa_cons (pv 2) (pa_cons (pv 3) (pa_cons (pv 4) (pa_cons (pv 5) pa_nil))))))) (pw_or1 (pt_not (pt_val (pe_fnC Frr hG hr rfl (pa_cons (pv 2) (pa_cons (pv 3) (pa_cons (pe_not (pv 5)) pa_nil))))))))) (pss_one (ps_ret pe_bl)) pss_nil)
  (pss_one (ps_if (PW.pt (pw_and (pt_cmpR op_eq (pe_fn Ftk hr rfl (pa_cons (pv 2) (pa_cons pe_int pa_nil))) pe_int (nomark _)) (pw_and1 (pt_not (pt_val (pe_fn Flr hr rfl (pa_cons (pe_tup (pa_cons (pe_tup (pa_cons (pe_tup (pa_cons pe_int (pa_cons pe_int pa_nil))) (pa_cons (pe_tup (pa_cons pe_int (pa_cons pe_int pa_nil))) pa_nil))) (pa_cons (pe_tup (pa_cons (pe_tup (pa_cons (pe_op op_add pe_int (pe_fn Ftk hr rfl (pa_cons (pv 2) (pa_cons pe_int pa_nil)))) (pa_cons pe_int pa_nil))) (pa_cons (pe_tup (pa_cons pe_int (pa_cons pe_int pa_nil))) pa_nil))) pa_nil))) (pa_cons (pv 4) (pa_cons (pv 5) pa_nil))))))))) (pss_one (ps_ret pe_bl)) pss_nil))))))))
  (pss_one (ps_ret pe_bl))), ?_⟩)
  · obtain ⟨a, ns, rfl, _⟩ := h
    rfl
  · obtain ⟨a, ns, rfl, hS, hl, hQ⟩ := h
    try dsimp only [cxOf, Cx.nox, Cx.wish]
    walk_at "go"
    with_reducible refine e_for1 ?_
    walk_at "go"
    refine ⟨a, _, rfl, Or.inl hS, ?_⟩
    walk_at "go"
    refine ⟨_, _, rfl, ?_⟩
    walk_at "go"
    refine ⟨_, _, rfl, ?_⟩
    walk_at "go"
    rw [List.length_map]
    have hj : ∀ L : Nat, 0 ≤ (if (if (L : Int) < 3 then (L : Int) else 3) > 1 then (if (L : Int) < 3 then (L : Int) else 3) else 1) ∧ (if (if (L : Int) < 3 then (L : Int) else 3) > 1 then (if (L : Int) < 3 then (L : Int) else 3) else 1) ≤ 3 := fun L => by
      split <;> split <;> omega
    obtain ⟨j0, j4⟩ := hj ns.length
    generalize (if (if (ns.length : Int) < 3 then (ns.length : Int) else 3) > 1 then (if (ns.length : Int) < 3 then (ns.length : Int) else 3) else 1) = J at j0 j4
    refine ⟨by omega, by omega, ?_⟩
    refine loop_by (fun i σ H' => ∃ x1 x2 x3 x4 x5 x6 x7, σ = [some (.ref a), x1, x2, x3, x4, x5, x6, x7] ∧ Same H H') ⟨_, _, _, _, _, _, _, rfl, Same.refl H⟩ (fun i σ H1 hi p => ?_) (fun σ H' p => ?_)
    rotate_left
    · obtain ⟨x1, x2, x3, x4, x5, x6, x7, rfl, s1⟩ := p
      walk_at "go"
      exact hQ _
    obtain ⟨x1, x2, x3, x4, x5, x6, x7, rfl, s1⟩ := p
    have hi3 : i < 3 := by omega
    rw [Int.zero_add]
    walk_at "go"
    refine ⟨a, ns, i, rfl, s1.seq hS, by omega, fun g H2 s2 => ?_⟩
    walk_at "go"
    refine ⟨g, rfl, fun b H3 n3 s3 hb => ?_⟩
    have nb : H b = none := Same.free s1 (Same.free s2 n3)
    have s13 : Same H H3 := s1.trans (s2.trans s3)
    have J3 : (pureE.drw b).J ((), 0) H3 := ⟨True.intro, fun z => z, hb⟩
    refine e_gName ?_
    dsimp only
    refine use_S (K := K) (F := pureE.drw b) (n := ((), 0)) (ρ := [.raw (.ref a), .dat (.int (i : Int)), .raw (.ref b), .no, .no, .no, .no, .no]) (P := { nx := fun ρ _ => ∃ s1 s2 s3 s4 s5 s6 s7, ρ = [.raw (.ref a), s1, s2, s3, s4, s5, s6, s7], rt := fun _ _ => False }) J3
      (.cons rfl (.cons ⟨_, rfl, .int _⟩ (.cons rfl (.cons True.intro (.cons True.intro (.cons True.intro (.cons True.intro (.cons True.intro .nil)))))))) ?_ ⟨fun σ' H' ρ' m ⟨s1', s2', s3', s4', s5', s6', s7', er⟩ j' s' r' => ?_, fun _ _ _ _ z => z.elim, fun _ _ _ _ z => z.elim, fun _ _ _ _ z => z.elim⟩
    rotate_left
    · subst er
      cases r' with | cons r0 r' =>
      cases r' with | cons r1 r' =>
      cases r' with | cons r2 r' =>
      cases r' with | cons r3 r' =>
      cases r' with | cons r4 r' =>
      cases r' with | cons r5 r' =>
      cases r' with | cons r6 r' =>
      cases r' with | cons r7 r' =>
      cases r'
      obtain rfl := (show _ = some (V.ref a) from r0)
      refine ⟨_, _, _, _, _, _, _, rfl, fun c o h => ?_⟩
      have cb : c ≠ b := ne_of_none h nb
      have e3 : (pureE.drw b).st H3 c = some o := by
        rw [drw_ne cb]
        rw [Eff.st_ne (fun z => z)]
        exact s13 _ _ h
      exact Eff.sub _ _ (s' _ _ e3)
    have L : DrwLens (pureE.drw b) b (·.2) (fun s => (s.1, s.2 + 1)) := DrwLens.drw
    have hcn : ∀ j, (upN (fun s : Unit × Nat => (s.1, s.2 + 1)) j ((), 0)).2 = 0 + j := fun j => upN_cnt L j ((), 0)
    generalize (fun s : Unit × Nat => (s.1, s.2 + 1)) = up at L hcn
    generalize ((), 0) = n at hcn
    have ct : ∀ j, j ≤ 1000 → (upN up j n).2 ≤ 100000 := fun j hj => by rw [hcn]; omega
    walk_at "gd"
    refine c_take (n := n) (many := 2) L (ct 0 (by decide)) (by decide) (by decide) fun r1 _ _ => ?_
    walk_at "gd"
    refine c_take (n := upN up 1 n) (many := 8) L (ct 1 (by decide)) (by decide) (by decide) fun r2 _ _ => ?_
    walk_at "gd"
    refine and_con (Ψ := fun r m => ∃ g : Bool, r = .dat (.bool g) ∧ m = upN up 2 n) (fun _ => ?_) (fun _ => ⟨false, rfl, rfl⟩) (fun r m hΨ => ?_)
    · walk_at "gd"
      exact rfl
    obtain ⟨great, rfl, rfl⟩ := hΨ
    walk_at "gd"
    refine if_con (Ψ := fun r m => ∃ (B : List (Rat × Rat)) (j : Nat), LB B ∧ j ≤ 30 ∧ r = .dat (boxD B) ∧ m = upN up j n) (fun _ => ?_) (fun _ => ?_) (fun r m hΨ => ?_)
    · walk_at "gd"
      refine w_lcR1 ?_ (sets_name (by decide))
      walk_at "gd"
      refine ⟨32, rfl, by decide, by decide, by decide, ?_⟩
      refine made_range (k := 32) (out := fun i => rowD (gR i, p32)) (fun D ys i hi => ?_) ?_
      · walk_at "gd"
        exact ⟨rfl, rfl⟩
      walk_at "gd"
      refine c_tupleOf ?_
      refine ⟨greatB, 2, great_ok, by decide, ?_, rfl⟩
      show Sl.dat (.tuple _) = .dat (.tuple (greatB.map rowD))
      unfold greatB
      rw [List.map_map]
      rfl
    · walk_at "gd"
      refine c_take (n := upN up 2 n) (many := 5) L (ct 2 (by decide)) (by decide) (by decide) fun r5 r50 r51 => ?_
      walk_at "gd"
      have e5 : 1 + r5 = (((1 + r5).toNat : Nat) : Int) := by omega
      rw [e5]
      refine c_dr (enc := encMB) (n := upN up 3 n) ((1 + r5).toNat, -4) rfl L ⟨by show 1 ≤ (1 + r5).toNat; omega, by show (1 + r5).toNat ≤ 5; omega, rfl⟩ (by show (upN up 3 n).2 + 4 * (1 + r5).toNat ≤ _; rw [hcn]; omega) fun j d hj hd => ?_
      obtain ⟨B, rfl, hB⟩ := hd
      have hj : j ≤ 4 * (1 + r5).toNat := hj
      exact ⟨B, j + 3, hB, by omega, rfl, upN_add j 3 n⟩
    obtain ⟨B, j1, hB, hj1, rfl, rfl⟩ := hΨ
    walk_at "gd"
    refine c_take (n := upN up j1 n) (many := 8) L (ct j1 (by omega)) (by decide) (by decide) fun r8 r80 r81 => ?_
    walk_at "gd"
    refine c_take (n := upN up (j1 + 1) n) (many := 5) L (ct (j1 + 1) (by omega)) (by decide) (by decide) fun t5 t50 t51 => ?_
    walk_at "gd"
    obtain ⟨a8, rfl⟩ := Int.eq_ofNat_of_zero_le r80
    obtain ⟨a5, rfl⟩ := Int.eq_ofNat_of_zero_le t50
    have k1 := cost1 a8 (by omega) a5 (by omega)
    refine c_fn (enc := twoI) (1 + ((a8 : Nat) : Int), 1 + ((a5 : Nat) : Int)) ⟨by show (0 : Int) < 1 + ((a5 : Nat) : Int); omega, Nat.lt_of_lt_of_le (show _ < 2 ^ 10 by show (1 + ((a8 : Nat) : Int)).natAbs < 1024; omega) (Nat.pow_le_pow_right (by decide) (by decide)), Nat.lt_of_lt_of_le (show _ < 2 ^ 10 by show (1 + ((a5 : Nat) : Int)).natAbs < 1024; omega) (Nat.pow_le_pow_right (by decide) (by decide))⟩ ?_
    walk_at "gd"
    refine r_I ?hp ?_
    case hp => exact ⟨by decide, by decide, by decide⟩
    walk_at "gd"
    refine c_take (n := upN up (j1 + 2) n) (many := 9) L (ct (j1 + 2) (by omega)) (by decide) (by decide) fun r9 r90 r91 => ?_
    obtain ⟨a9, rfl⟩ := Int.eq_ofNat_of_zero_le r90
    have k3 := cost3 a9 (by omega)
    walk_at "gd"
    refine c_take (n := upN up (j1 + 3) n) (many := 3) L (ct (j1 + 3) (by omega)) (by decide) (by decide) fun t3 t30 t31 => ?_
    obtain ⟨c, hc, ec⟩ : ∃ c, LC c ∧ atI [frD (Rat.divInt (1 + ((a8 : Nat) : Int)) (1 + ((a5 : Nat) : Int))), PyData.tuple [PyData.int 1, PyData.int (10 ^ Int.toNat 9 + 7)], PyData.tuple [PyData.int (20 + ((a9 : Nat) : Int)), PyData.int 1]] t3 = some (frD c) := by
      have : t3 = 0 ∨ t3 = 1 ∨ t3 = 2 := by omega
      rcases this with rfl | rfl | rfl
      · exact ⟨_, k1, rfl⟩
      · exact ⟨_, cost2_ok, rfl⟩
      · exact ⟨_, k3, rfl⟩
    refine r_ixl ec ?_
    walk_at "gd"
    refine c_dr (enc := encSr) (n := upN up (j1 + 4) n) (B, c, decide (r1 = 0)) rfl L ⟨hB, hc⟩ (by show (upN up (j1 + 4) n).2 + 12 ≤ _; rw [hcn]; omega) fun j2 d2 hj2 hd2 => ?_
    subst hd2
    have hj2 : j2 ≤ 12 := hj2
    rw [upN_add]
    walk_at "gd"
    refine ⟨(fun z => nomatch z), fun _ => ?_⟩
    walk_at "gd"
    refine c_dr (enc := encRr) (n := upN up (j2 + (j1 + 4)) n) (B, !decide (r1 = 0)) rfl L hB (by show (upN up (j2 + (j1 + 4)) n).2 + 200 ≤ _; rw [hcn]; omega) fun j3 d3 hj3 hd3 => ?_
    subst hd3
    have hj3 : j3 ≤ 200 := hj3
    rw [upN_add]
    walk_at "gd"
    refine ⟨(fun z => nomatch z), fun _ => ?_⟩
    walk_at "gd"
    have hj5 : j3 + (j2 + (j1 + 4)) ≤ 300 := by omega
    generalize j3 + (j2 + (j1 + 4)) = j5 at hj5
    refine c_take (n := upN up j5 n) (many := 3) L (ct j5 (by omega)) (by decide) (by decide) fun u3 _ _ => ?_
    walk_at "gd"
    refine ⟨fun _ => ?_, fun _ => ?_⟩
    · walk_at "gd"
      refine c_take (n := upN up (j5 + 1) n) (many := 9) L (ct (j5 + 1) (by omega)) (by decide) (by decide) fun u9 u90 u91 => ?_
      obtain ⟨a9', rfl⟩ := Int.eq_ofNat_of_zero_le u90
      walk_at "gd"
      refine c_fnE (enc := encLr) (twoB a9', c, decide (r1 = 0)) rfl ⟨two_ok a9' (by omega), hc⟩ ?_
      walk_at "gd"
      refine ⟨(fun z => nomatch z), fun _ => ?_⟩
      walk_at "gd"
      exact ⟨_, _, _, _, _, _, _, rfl⟩
    · walk_at "gd"
      refine ⟨(fun z => nomatch z), fun _ => ?_⟩
      walk_at "gd"
      exact ⟨_, _, _, _, _, _, _, rfl⟩
end
end K35
namespace K35
open PySem PySem.Spec PyProof.Rows L2 WkH WkE WkQ
abbrev hk : PySem.W.Hook := hookL asn ex fn
def ob (s : PySem.W.SharedT) : AlL := obL asn ex fn s
theorem ob_eq (s : PySem.W.SharedT) : ob s = hk.obs s.abs := obL_eq _ _ _ s
theorem run (w : World) : HandSHeadRun.RunEqI R vw hk ob 20000 loose w := by
  unfold HandSHeadRun.RunEqI
  kernel_rfl
end K35
namespace WkF
open PySem PySem.Spec PyProof.Rows L2 L2H WkH WkG WkP
theorem bind5 {K : PySem.W.Frag} {d : DefL} {fd : FuncData} {a b c e f : Str} (F : Stands K d fd)
    (h : ∀ (kV doc pm : Value) (an : Option Addr) (cdv ct : Value) (u v w x y : Value), bindArgs (PySem.W.fnOf d.nm d.qual d.pars d.bod d.sco .none kV doc pm an cdv ct) ⟨[u, v, w, x, y], []⟩ = pure [(a, u), (b, v), (c, w), (e, x), (f, y)]) : Binds K fd [a, b, c, e, f] [] :=
  FunD.bindsN F fun kV doc pm an cdv ct us hl => by
    match us, hl with
    | [u, v, w, x, y], _ => exact h kV doc pm an cdv ct u v w x y
theorem bind6 {K : PySem.W.Frag} {d : DefL} {fd : FuncData} {a b c e f g : Str} (F : Stands K d fd)
    (h : ∀ (kV doc pm : Value) (an : Option Addr) (cdv ct : Value) (u v w x y z : Value), bindArgs (PySem.W.fnOf d.nm d.qual d.pars d.bod d.sco .none kV doc pm an cdv ct) ⟨[u, v, w, x, y, z], []⟩ = pure [(a, u), (b, v), (c, w), (e, x), (f, y), (g, z)]) : Binds K fd [a, b, c, e, f, g] [] :=
  FunD.bindsN F fun kV doc pm an cdv ct us hl => by
    match us, hl with
    | [u, v, w, x, y, z], _ => exact h kV doc pm an cdv ct u v w x y z
end WkF
namespace K35
open PySem PySem.Spec PyProof.Rows L2 WkH WkE WkQ WkS WkF WkD WkN WkC WkT WkP WkG
theorem ba {a b : Bool} (h : (a && b) = true) : a = true ∧ b = true := Bool.and_eq_true_iff.mp h
theorem facts {P : Program} {w : World} {K : PySem.W.Frag} {h : Heap} {mg : Str → Option Value} {f : Addr} (X : K.In h) (G : h.Ns mainGlobals mg) (hfa : mg ("law" : Str) = some (.ref f)) (c : Told ex fn K) :
    ∃ fd : FuncData, (∀ (s : Shared) (v : Value), BindsTo s fd ⟨[v], []⟩ [("script", v)]) ∧ ∀ base : Heap, K.In base → base.Ns mainGlobals mg → FnG P w K mg base CX0 20 f fd ["script"] (spLaw K) := by
  have hG : exG K = true := (ba c.more).1
  have hE : exE K = true := (ba (ba c.more).2).2
  have gl : ∀ q ∈ globs, mg q.1 = some (.ref q.2) := fun q hq => gloB_ok X G (List.all_eq_true.mp (ba hG).1 q hq)
  have fr : ∀ x ∈ bltn, mg x = none := fun x hx => freeB_ok X G (List.all_eq_true.mp (ba (ba hG).2).1 x hx)
  have hW : BaseC K 52 := baseB_ok (ba (ba (ba hG).2).2).1
  have hy : sysB K = true := (ba (ba (ba (ba hG).2).2).2).1
  have htu : ∀ q ∈ tups, ∀ H, SqT K H q.1 (q.2.map V.int) := fun q hq => tupB_ok (List.all_eq_true.mp (ba (ba (ba (ba (ba hG).2).2).2).2).1 q hq)
  have hnu : ∀ q ∈ nums, ∃ t, mg q.1 = some (.int q.2 t) := fun q hq => intB_ok X G (List.all_eq_true.mp (ba (ba (ba (ba (ba (ba hG).2).2).2).2).2).1 q hq)
  have hgcd : mg "gcd" = some (.builtin "math.gcd") := nameB_ok X G (ba (ba (ba (ba (ba (ba hG).2).2).2).2).2).2
  have gat : ∀ (i : Nat) (q : Str × Addr), globs[i]? = some q → mg q.1 = some (.ref q.2) := fun i q e => gl q (List.mem_of_getElem? e)
  have fat : ∀ (i : Nat) (x : Str), bltn[i]? = some x → mg x = none := fun i x e => fr x (List.mem_of_getElem? e)
  have gW : mg "WorkError" = some (.ref 52) := gat 56 ("WorkError", 52) rfl
  have at_ : ∀ (i : Nat) (d : DefL), fn[i]? = some d → ∃ fd, Stands K d fd := fun i d e => c.defs d (List.mem_of_getElem? e)
  have T : Bg K mg := { gcd := hgcd, ZERO := gat 57 ("ZERO", 153) rfl, ONE := gat 58 ("ONE", 154) rfl, zero := htu (153, [0, 1]) (List.mem_of_getElem? (i := 0) rfl), one := htu (154, [1, 1]) (List.mem_of_getElem? (i := 1) rfl), all := fat 2 "all" rfl, int := fat 4 "int" rfl, bool := fat 3 "bool" rfl, isinstance := fat 5 "isinstance" rfl, len := fat 6 "len" rfl, list := fat 7 "list" rfl, range := fat 10 "range" rfl, tuple := fat 16 "tuple" rfl, sorted := fat 13 "sorted" rfl, set := fat 12 "set" rfl, sum := fat 15 "sum" rfl, abs := fat 1 "abs" rfl, str := fat 14 "str" rfl, repr := fat 11 "repr" rfl, max := fat 8 "max" rfl, min := fat 9 "min" rfl }
  have T2 : Bn mg := { MOST_WORTHS := hnu ("MOST_WORTHS", 32) (List.mem_of_getElem? (i := 0) rfl), MOST_DRAWS := hnu ("MOST_DRAWS", 12) (List.mem_of_getElem? (i := 1) rfl) }
  have hcl : ∀ q ∈ clss, mg q.1 = some (.ref q.2.1) ∧ excB K q.2.1 = true ∧ askB K q.2.1 = true ∧ xfB K q.2.1 = true ∧ iniB K q.2.1 q.2.2.1 q.2.2.2 = true ∧ PySem.W.kitOne K (.ref q.2.1) (.ref 52) = some true ∧ ∀ r ∈ clss, PySem.W.exmOne K (.ref q.2.1) (.ref r.2.1) = some (Nat.beq q.2.1 r.2.1) := fun q hq => by
    have z := List.all_eq_true.mp hE q hq
    obtain ⟨z1, z⟩ := ba z
    obtain ⟨z2, z⟩ := ba z
    obtain ⟨z3, z⟩ := ba z
    obtain ⟨z4, z⟩ := ba z
    obtain ⟨z5, z⟩ := ba z
    obtain ⟨z6, z⟩ := ba z
    exact ⟨gloB_ok X G z1, z2, z3, z4, z5, kitB_ok z6, fun r hr => of_decide_eq_true (List.all_eq_true.mp z r hr)⟩
  obtain ⟨f0, F0⟩ := at_ 0 d_is_integer rfl
  obtain ⟨f1, F1⟩ := at_ 1 d_is_within rfl
  obtain ⟨f2, F2⟩ := at_ 2 d_is_tuple rfl
  obtain ⟨f3, F3⟩ := at_ 3 d_reduced rfl
  obtain ⟨f4, F4⟩ := at_ 4 d_is_fraction rfl
  obtain ⟨f5, F5⟩ := at_ 5 d_add rfl
  obtain ⟨f6, F6⟩ := at_ 6 d_subtract rfl
  obtain ⟨f7, F7⟩ := at_ 7 d_multiply rfl
  obtain ⟨f8, F8⟩ := at_ 8 d_divide rfl
  obtain ⟨f9, F9⟩ := at_ 9 d_is_below rfl
  obtain ⟨f10, F10⟩ := at_ 10 d_greater_of rfl
  obtain ⟨f11, F11⟩ := at_ 11 d_greatest rfl
  obtain ⟨f12, F12⟩ := at_ 12 d_sum_of rfl
  obtain ⟨f13, F13⟩ := at_ 13 d_ascending rfl
  obtain ⟨f14, F14⟩ := at_ 14 d_is_box_row rfl
  obtain ⟨f15, F15⟩ := at_ 15 d_is_box rfl
  obtain ⟨f16, F16⟩ := at_ 16 d_check_box rfl
  obtain ⟨f17, F17⟩ := at_ 17 d_drawn_by rfl
  obtain ⟨f18, F18⟩ := at_ 18 d_check_search rfl
  obtain ⟨f19, F19⟩ := at_ 19 d_bar_of rfl
  obtain ⟨f20, F20⟩ := at_ 20 d_bar rfl
  obtain ⟨f21, F21⟩ := at_ 21 d_check_search_worth rfl
  obtain ⟨f22, F22⟩ := at_ 22 d_search_worth rfl
  obtain ⟨f23, F23⟩ := at_ 23 d_mean_draws rfl
  obtain ⟨f24, F24⟩ := at_ 24 d_check_draws rfl
  obtain ⟨f25, F25⟩ := at_ 25 d_few_draws rfl
  obtain ⟨f26, F26⟩ := at_ 26 d_few_without rfl
  obtain ⟨f27, F27⟩ := at_ 27 d_law_cell rfl
  obtain ⟨f28, F28⟩ := at_ 28 d_law_draw rfl
  obtain ⟨f29, F29⟩ := at_ 29 d_law_take rfl
  obtain ⟨f30, F30⟩ := at_ 30 d_law_mixed rfl
  obtain ⟨f31, F31⟩ := at_ 31 d_law_same rfl
  obtain ⟨f32, F32⟩ := at_ 32 d_law_low rfl
  obtain ⟨f33, F33⟩ := at_ 33 d_law_plus rfl
  obtain ⟨f34, F34⟩ := at_ 34 d_law_minus rfl
  obtain ⟨f35, F35⟩ := at_ 35 d_law_times rfl
  obtain ⟨f36, F36⟩ := at_ 36 d_law_over rfl
  obtain ⟨f37, F37⟩ := at_ 37 d_law_less rfl
  obtain ⟨f38, F38⟩ := at_ 38 d_law_sum rfl
  obtain ⟨f39, F39⟩ := at_ 39 d_law_is_fraction rfl
  obtain ⟨f40, F40⟩ := at_ 40 d_law_beside rfl
  obtain ⟨f41, F41⟩ := at_ 41 d_law_ascending rfl
  obtain ⟨f42, F42⟩ := at_ 42 d_law_box rfl
  obtain ⟨f43, F43⟩ := at_ 43 d_law_is_box rfl
  obtain ⟨f44, F44⟩ := at_ 44 d_law_bad_box rfl
  obtain ⟨f45, F45⟩ := at_ 45 d_law_more rfl
  obtain ⟨f46, F46⟩ := at_ 46 d_law_few rfl
  obtain ⟨f47, F47⟩ := at_ 47 d_law_below rfl
  obtain ⟨f48, F48⟩ := at_ 48 d_law_without rfl
  obtain ⟨f49, F49⟩ := at_ 49 d_law_called rfl
  obtain ⟨f50, F50⟩ := at_ 50 d_law_twice rfl
  obtain ⟨f51, F51⟩ := at_ 51 d_law_bar rfl
  obtain ⟨f52, F52⟩ := at_ 52 d_law_search_right rfl
  obtain ⟨f53, F53⟩ := at_ 53 d_law_long_right rfl
  obtain ⟨f54, F54⟩ := at_ 54 d_law_refused_right rfl
  obtain ⟨f55, F55⟩ := at_ 55 dlaw rfl
  obtain ⟨f56, F56⟩ := at_ 56 i_InvalidSure rfl
  obtain ⟨f57, F57⟩ := at_ 57 i_InvalidBox rfl
  obtain ⟨f58, F58⟩ := at_ 58 i_InvalidCount rfl
  obtain ⟨f59, F59⟩ := at_ 59 i_InvalidCost rfl
  have e := hfa.symm.trans (gat 55 ("law", 489) rfl)
  cases e
  have bl := FunD.bindsA (ps := ["script"]) F55 fun _ _ _ _ _ _ us hl => match us, hl with | [_], _ => rfl
  refine ⟨f55, fun s v => bl s [v] rfl, fun base KB GB => ?_⟩
  have E0 : ErrC P w K mg base "InvalidSure" 72 "given" := by
    obtain ⟨g, c1, c2, _, c3, _⟩ := hcl ("InvalidSure", 72, 69, some "given") (List.mem_of_getElem? (i := 0) rfl)
    exact errC_mk (d := i_InvalidSure) c1 c2 c3 g ⟨_, F56⟩ rfl rfl rfl (by decide) rfl hW gW
  have E1 : ErrC P w K mg base "InvalidBox" 91 "given" := by
    obtain ⟨g, c1, c2, _, c3, _⟩ := hcl ("InvalidBox", 91, 88, some "given") (List.mem_of_getElem? (i := 1) rfl)
    exact errC_mk (d := i_InvalidBox) c1 c2 c3 g ⟨_, F57⟩ rfl rfl rfl (by decide) rfl hW gW
  have E2 : ErrC P w K mg base "InvalidCount" 110 "given" := by
    obtain ⟨g, c1, c2, _, c3, _⟩ := hcl ("InvalidCount", 110, 107, some "given") (List.mem_of_getElem? (i := 2) rfl)
    exact errC_mk (d := i_InvalidCount) c1 c2 c3 g ⟨_, F58⟩ rfl rfl rfl (by decide) rfl hW gW
  have E3 : ErrC P w K mg base "InvalidCost" 129 "given" := by
    obtain ⟨g, c1, c2, _, c3, _⟩ := hcl ("InvalidCost", 129, 126, some "given") (List.mem_of_getElem? (i := 3) rfl)
    exact errC_mk (d := i_InvalidCost) c1 c2 c3 g ⟨_, F59⟩ rfl rfl rfl (by decide) rfl hW gW
  have R : Er P w K mg base := { sure := E0, box := E1, count := E2, cost := E3 }
  have cof : ∀ C ∈ errs, ∃ q ∈ clss, q.2.1 = C := by decide
  have C4 : Ex4 K mg := { gW := gW, xf := fun C hC => ?xf, ok := fun C hC => ?ok, ex := fun C hC D hD => ?ex }
  case xf =>
    obtain ⟨q, hq, rfl⟩ := cof C hC
    exact xfB_ok (hcl q hq).2.2.2.1
  case ok =>
    obtain ⟨q, hq, rfl⟩ := cof C hC
    exact (hcl q hq).2.2.2.2.2.1
  case ex =>
    obtain ⟨q, hq, rfl⟩ := cof C hC
    obtain ⟨r, hr, rfl⟩ := cof D hD
    have := (hcl q hq).2.2.2.2.2.2 r hr
    rw [this]
    congr 1
    rw [Bool.eq_iff_iff]
    simp
  have o_ok_reduced := ok_reduced (P := P) (w := w) (mg := mg) (base := base) F3 T
  have C_reduced : Fn P w K mg base CX0 1 "reduced" ["top", "base"] (spF K twoI (fun q => 0 < q.2 ∧ q.1.natAbs < 2 ^ 8900 ∧ q.2.natAbs < 2 ^ 8900) fun q => frD (Rat.divInt q.1 q.2)) := .mk' F3 (gat 3 ("reduced", 161) rfl) (bind2 F3 fun _ _ _ _ _ _ _ _ => rfl) o_ok_reduced
  have o_ok_add := ok_add (P := P) (w := w) (mg := mg) (base := base) F5 C_reduced
  have C_add : Fn P w K mg base CX0 2 "add" ["one", "other"] (spF K twoR (fun q => Bits 4000 q.1 ∧ Bits 4000 q.2) fun q => frD (q.1 + q.2)) := .mk' F5 (gat 5 ("add", 173) rfl) (bind2 F5 fun _ _ _ _ _ _ _ _ => rfl) o_ok_add
  have o_ok_subtract := ok_subtract (P := P) (w := w) (mg := mg) (base := base) F6 C_reduced
  have C_subtract : Fn P w K mg base CX0 2 "subtract" ["one", "other"] (spF K twoR (fun q => Bits 4000 q.1 ∧ Bits 4000 q.2) fun q => frD (q.1 - q.2)) := .mk' F6 (gat 6 ("subtract", 180) rfl) (bind2 F6 fun _ _ _ _ _ _ _ _ => rfl) o_ok_subtract
  have o_ok_multiply := ok_multiply (P := P) (w := w) (mg := mg) (base := base) F7 C_reduced
  have C_multiply : Fn P w K mg base CX0 2 "multiply" ["one", "other"] (spF K twoR (fun q => Bits 4000 q.1 ∧ Bits 4000 q.2) fun q => frD (q.1 * q.2)) := .mk' F7 (gat 7 ("multiply", 187) rfl) (bind2 F7 fun _ _ _ _ _ _ _ _ => rfl) o_ok_multiply
  have o_ok_divide := ok_divide (P := P) (w := w) (mg := mg) (base := base) F8 C_reduced
  have C_divide : Fn P w K mg base CX0 2 "divide" ["one", "other"] (spF K twoR (fun q => Bits 4000 q.1 ∧ Bits 4000 q.2 ∧ 0 < q.2.num) fun q => frD (q.1 / q.2)) := .mk' F8 (gat 8 ("divide", 194) rfl) (bind2 F8 fun _ _ _ _ _ _ _ _ => rfl) o_ok_divide
  have o_ok_is_below := ok_is_below (P := P) (w := w) (mg := mg) (base := base) F9
  have C_is_below : Fn P w K mg base CX0 1 "is_below" ["one", "other"] (spF K twoR (fun q => Bits 4000 q.1 ∧ Bits 4000 q.2) fun q => .bool (decide (q.1 < q.2))) := .mk' F9 (gat 9 ("is_below", 201) rfl) (bind2 F9 fun _ _ _ _ _ _ _ _ => rfl) o_ok_is_below
  have o_ok_greater_of := ok_greater_of (P := P) (w := w) (mg := mg) (base := base) F10 C_is_below
  have C_greater_of : Fn P w K mg base CX0 2 "greater_of" ["one", "other"] (spGreater (K := K)) := .mk' F10 (gat 10 ("greater_of", 208) rfl) (bind2 F10 fun _ _ _ _ _ _ _ _ => rfl) o_ok_greater_of
  have o_ok_greatest := ok_greatest (P := P) (w := w) (mg := mg) (base := base) F11 C_greater_of
  have C_greatest : Fn P w K mg base CX0 3 "greatest" ["fractions"] (spGreatest (K := K)) := .mk' F11 (gat 11 ("greatest", 215) rfl) (bind1 F11 fun _ _ _ _ _ _ _ => rfl) o_ok_greatest
  have o_ok_sum_of := ok_sum_of (P := P) (w := w) (mg := mg) (base := base) F12 T C_add
  have C_sum_of : Fn P w K mg base CX0 3 "sum_of" ["fractions"] (spSum (K := K)) := .mk' F12 (gat 12 ("sum_of", 222) rfl) (bind1 F12 fun _ _ _ _ _ _ _ => rfl) o_ok_sum_of
  have o_ok_is_integer := ok_is_integer (P := P) (w := w) (mg := mg) (base := base) F0 T
  have C_is_integer : Fn P w K mg base CX0 1 "is_integer" ["value"] (spInteger (K := K)) := .mk' F0 (gat 0 ("is_integer", 138) rfl) (bind1 F0 fun _ _ _ _ _ _ _ => rfl) o_ok_is_integer
  have o_ok_is_tuple := ok_is_tuple (P := P) (w := w) (mg := mg) (base := base) F2 T
  have C_is_tuple : Fn P w K mg base CX0 1 "is_tuple" ["value", "many"] (spTuple (K := K)) := .mk' F2 (gat 2 ("is_tuple", 152) rfl) (bind2 F2 fun _ _ _ _ _ _ _ _ => rfl) o_ok_is_tuple
  have o_ok_is_within := ok_is_within (P := P) (w := w) (mg := mg) (base := base) F1 C_is_integer
  have C_is_within : Fn P w K mg base CX0 2 "is_within" ["value", "low", "high"] (spWithin (K := K)) := .mk' F1 (gat 1 ("is_within", 145) rfl) (bind3 F1 fun _ _ _ _ _ _ _ _ _ => rfl) o_ok_is_within
  have o_ok_is_fraction := ok_is_fraction (P := P) (w := w) (mg := mg) (base := base) F4 T C_is_integer C_is_tuple
  have C_is_fraction : Fn P w K mg base CX0 2 "is_fraction" ["value"] (spFraction (K := K)) := .mk' F4 (gat 4 ("is_fraction", 166) rfl) (bind1 F4 fun _ _ _ _ _ _ _ => rfl) o_ok_is_fraction
  have o_ok_is_box_row := ok_is_box_row (P := P) (w := w) (mg := mg) (base := base) F14 T C_is_tuple C_is_fraction C_is_below
  have C_is_box_row : Fn P w K mg base CX0 3 "is_box_row" ["value"] (spBoxRow (K := K)) := .mk' F14 (gat 14 ("is_box_row", 234) rfl) (bind1 F14 fun _ _ _ _ _ _ _ => rfl) o_ok_is_box_row
  have o_ok_is_box := ok_is_box (P := P) (w := w) (mg := mg) (base := base) F15 T T2 C_is_box_row C_sum_of C_is_below
  have C_is_box : Fn P w K mg base CX0 4 "is_box" ["value"] (spBox (K := K)) := .mk' F15 (gat 15 ("is_box", 239) rfl) (bind1 F15 fun _ _ _ _ _ _ _ => rfl) o_ok_is_box
  have o_ok_check_box := ok_check_box (P := P) (w := w) (mg := mg) (base := base) F16 R C_is_box
  have C_check_box : Fn P w K mg base (L2.CX P w) 5 "check_box" ["box"] (spCheckBox (K := K)) := .mk' F16 (gat 16 ("check_box", 246) rfl) (bind1 F16 fun _ _ _ _ _ _ _ => rfl) o_ok_check_box
  have o_ok_check_search := ok_check_search (P := P) (w := w) (mg := mg) (base := base) F18 T R C_check_box C_is_fraction C_is_below
  have C_check_search : Fn P w K mg base (L2.CX P w) 6 "check_search" ["box", "cost"] (spCheck_check_search (K := K)) := .mk' F18 (gat 18 ("check_search", 258) rfl) (bind2 F18 fun _ _ _ _ _ _ _ _ => rfl) o_ok_check_search
  have o_ok_check_search_worth := ok_check_search_worth (P := P) (w := w) (mg := mg) (base := base) F21 R C_check_search C_is_fraction
  have C_check_search_worth : Fn P w K mg base (L2.CX P w) 7 "check_search_worth" ["box", "cost", "worth"] (spCheck_check_search_worth (K := K)) := .mk' F21 (gat 21 ("check_search_worth", 277) rfl) (bind3 F21 fun _ _ _ _ _ _ _ _ _ => rfl) o_ok_check_search_worth
  have o_ok_check_draws := ok_check_draws (P := P) (w := w) (mg := mg) (base := base) F24 T2 R C_check_search_worth C_is_within
  have C_check_draws : Fn P w K mg base (L2.CX P w) 8 "check_draws" ["box", "cost", "worth", "count"] (spCheck_check_draws (K := K)) := .mk' F24 (gat 24 ("check_draws", 296) rfl) (bind4 F24 fun _ _ _ _ _ _ _ _ _ _ => rfl) o_ok_check_draws
  have o_ok_drawn_by := ok_drawn_by (P := P) (w := w) (mg := mg) (base := base) F17 C_sum_of C_multiply C_greatest
  have C_drawn_by : Fn P w K mg base CX0 4 "drawn_by" ["box", "worth"] (spDrawn (K := K)) := .mk' F17 (gat 17 ("drawn_by", 251) rfl) (bind2 F17 fun _ _ _ _ _ _ _ _ => rfl) o_ok_drawn_by
  have o_ok_bar_of := ok_bar_of (P := P) (w := w) (mg := mg) (base := base) F19 T C_sum_of C_multiply C_divide C_subtract C_is_below
  have C_bar_of : Fn P w K mg base CX0 4 "bar_of" ["box", "cost"] (spBarOf (K := K)) := .mk' F19 (gat 19 ("bar_of", 263) rfl) (bind2 F19 fun _ _ _ _ _ _ _ _ => rfl) o_ok_bar_of
  have o_ok_bar := ok_bar (P := P) (w := w) (mg := mg) (base := base) F20 C_check_search C_bar_of
  have C_bar : Fn P w K mg base (L2.CX P w) 7 "bar" ["box", "cost"] (sp_bar (K := K)) := .mk' F20 (gat 20 ("bar", 270) rfl) (bind2 F20 fun _ _ _ _ _ _ _ _ => rfl) o_ok_bar
  have K_bar : FnK P w K mg base (L2.CX P w) 7 "bar" ["box", "cost"] (sp_bar (K := K)) := ⟨_, _, (gat 20 ("bar", 270) rfl), F20.kp, kb_of F20 (by decide) (fun _ _ _ _ _ _ ws hl => match ws, hl with | [_, _], _ => rfl), o_ok_bar⟩
  have o_ok_search_worth := ok_search_worth (P := P) (w := w) (mg := mg) (base := base) F22 C_check_search_worth C_bar_of C_greatest
  have C_search_worth : Fn P w K mg base (L2.CX P w) 8 "search_worth" ["box", "cost", "worth"] (sp_search_worth (K := K)) := .mk' F22 (gat 22 ("search_worth", 284) rfl) (bind3 F22 fun _ _ _ _ _ _ _ _ _ => rfl) o_ok_search_worth
  have K_search_worth : FnK P w K mg base (L2.CX P w) 8 "search_worth" ["box", "cost", "worth"] (sp_search_worth (K := K)) := ⟨_, _, (gat 22 ("search_worth", 284) rfl), F22.kp, kb_of F22 (by decide) (fun _ _ _ _ _ _ ws hl => match ws, hl with | [_, _, _], _ => rfl), o_ok_search_worth⟩
  have o_ok_mean_draws := ok_mean_draws (P := P) (w := w) (mg := mg) (base := base) F23 C_check_search T C_bar_of C_sum_of C_divide C_is_below
  have C_mean_draws : Fn P w K mg base (L2.CX P w) 7 "mean_draws" ["box", "cost"] (sp_mean_draws (K := K)) := .mk' F23 (gat 23 ("mean_draws", 289) rfl) (bind2 F23 fun _ _ _ _ _ _ _ _ => rfl) o_ok_mean_draws
  have K_mean_draws : FnK P w K mg base (L2.CX P w) 7 "mean_draws" ["box", "cost"] (sp_mean_draws (K := K)) := ⟨_, _, (gat 23 ("mean_draws", 289) rfl), F23.kp, kb_of F23 (by decide) (fun _ _ _ _ _ _ ws hl => match ws, hl with | [_, _], _ => rfl), o_ok_mean_draws⟩
  have o_ok_few_without := ok_few_without (P := P) (w := w) (mg := mg) (base := base) F26 C_check_draws T C_drawn_by C_subtract C_greatest
  have C_few_without : Fn P w K mg base (L2.CX P w) 9 "few_without" ["box", "cost", "worth", "count"] (sp_few_without (K := K)) := .mk' F26 (gat 26 ("few_without", 308) rfl) (bind4 F26 fun _ _ _ _ _ _ _ _ _ _ => rfl) o_ok_few_without
  have K_few_without : FnK P w K mg base (L2.CX P w) 9 "few_without" ["box", "cost", "worth", "count"] (sp_few_without (K := K)) := ⟨_, _, (gat 26 ("few_without", 308) rfl), F26.kp, kb_of F26 (by decide) (fun _ _ _ _ _ _ ws hl => match ws, hl with | [_, _, _, _], _ => rfl), o_ok_few_without⟩
  have o_ok_ascending := ok_ascending (P := P) (w := w) (mg := mg) (base := base) F13 T C_is_below
  have C_ascending : Fn P w K mg base CX0 2 "ascending" ["fractions"] (spAscending (K := K)) := .mk' F13 (gat 13 ("ascending", 227) rfl) (bind1 F13 fun _ _ _ _ _ _ _ => rfl) o_ok_ascending
  have o_ok_few_draws := ok_few_draws (P := P) (w := w) (mg := mg) (base := base) F25 C_check_draws T C_sum_of C_multiply C_subtract C_greatest C_ascending
  have C_few_draws : Fn P w K mg base (L2.CX P w) 9 "few_draws" ["box", "cost", "worth", "count"] (sp_few_draws (K := K)) := .mk' F25 (gat 25 ("few_draws", 301) rfl) (bind4 F25 fun _ _ _ _ _ _ _ _ _ _ => rfl) o_ok_few_draws
  have K_few_draws : FnK P w K mg base (L2.CX P w) 9 "few_draws" ["box", "cost", "worth", "count"] (sp_few_draws (K := K)) := ⟨_, _, (gat 25 ("few_draws", 301) rfl), F25.kp, kb_of F25 (by decide) (fun _ _ _ _ _ _ ws hl => match ws, hl with | [_, _, _, _], _ => rfl), o_ok_few_draws⟩
  have o_ok_cell := ok_cell (P := P) (w := w) (mg := mg) (base := base) F27 T
  have C_law_cell : Fn P w K mg base CX0 1 "_law_cell" ["script", "k"] (WkD.spCell K) := .mk' F27 (gat 27 ("_law_cell", 315) rfl) (bind2 F27 fun _ _ _ _ _ _ _ _ => rfl) o_ok_cell
  have o_ok_draw := ok_draw (P := P) (w := w) (mg := mg) (base := base) F28 T
  have C_law_draw : Fn P w K mg base CX0 1 "_law_draw" ["great"] spDraw := .mk' F28 (gat 28 ("_law_draw", 322) rfl) (bind1 F28 fun _ _ _ _ _ _ _ => rfl) o_ok_draw
  have o_ok_take := ok_take (P := P) (w := w) (mg := mg) (base := base) F29 T
  have C_law_take : Fn P w K mg base CX0 1 "_law_take" ["draw", "many"] spTake := .mk' F29 (gat 29 ("_law_take", 329) rfl) (bind2 F29 fun _ _ _ _ _ _ _ _ => rfl) o_ok_take
  have o_ok_llow := ok_llow (P := P) (w := w) (mg := mg) (base := base) F32 T
  have C_law_low : Fn P w K mg base CX0 1 "_law_low" ["top", "base"] (spReduced (K := K)) := .mk' F32 (gat 32 ("_law_low", 348) rfl) (bind2 F32 fun _ _ _ _ _ _ _ _ => rfl) o_ok_llow
  have o_ok_lplus := ok_lplus (P := P) (w := w) (mg := mg) (base := base) F33 C_law_low
  have C_law_plus : Fn P w K mg base CX0 2 "_law_plus" ["one", "other"] (spF K twoR (fun q => Bits 4000 q.1 ∧ Bits 4000 q.2) fun q => frD (q.1 + q.2)) := .mk' F33 (gat 33 ("_law_plus", 355) rfl) (bind2 F33 fun _ _ _ _ _ _ _ _ => rfl) o_ok_lplus
  have o_ok_lminus := ok_lminus (P := P) (w := w) (mg := mg) (base := base) F34 C_law_low
  have C_law_minus : Fn P w K mg base CX0 2 "_law_minus" ["one", "other"] (spF K twoR (fun q => Bits 4000 q.1 ∧ Bits 4000 q.2) fun q => frD (q.1 - q.2)) := .mk' F34 (gat 34 ("_law_minus", 362) rfl) (bind2 F34 fun _ _ _ _ _ _ _ _ => rfl) o_ok_lminus
  have o_ok_ltimes := ok_ltimes (P := P) (w := w) (mg := mg) (base := base) F35 C_law_low
  have C_law_times : Fn P w K mg base CX0 2 "_law_times" ["one", "other"] (spF K twoR (fun q => Bits 4000 q.1 ∧ Bits 4000 q.2) fun q => frD (q.1 * q.2)) := .mk' F35 (gat 35 ("_law_times", 369) rfl) (bind2 F35 fun _ _ _ _ _ _ _ _ => rfl) o_ok_ltimes
  have o_ok_lover := ok_lover (P := P) (w := w) (mg := mg) (base := base) F36 C_law_low
  have C_law_over : Fn P w K mg base CX0 2 "_law_over" ["one", "other"] (spF K twoR (fun q => Bits 4000 q.1 ∧ Bits 4000 q.2 ∧ 0 < q.2.num) fun q => frD (q.1 / q.2)) := .mk' F36 (gat 36 ("_law_over", 376) rfl) (bind2 F36 fun _ _ _ _ _ _ _ _ => rfl) o_ok_lover
  have o_ok_lless := ok_lless (P := P) (w := w) (mg := mg) (base := base) F37
  have C_law_less : Fn P w K mg base CX0 1 "_law_less" ["one", "other"] (spF K twoR (fun q => Bits 4000 q.1 ∧ Bits 4000 q.2) fun q => .bool (decide (q.1 < q.2))) := .mk' F37 (gat 37 ("_law_less", 383) rfl) (bind2 F37 fun _ _ _ _ _ _ _ _ => rfl) o_ok_lless
  have o_ok_lmore := ok_lmore (P := P) (w := w) (mg := mg) (base := base) F45 C_law_less
  have C_law_more : Fn P w K mg base CX0 2 "_law_more" ["one", "other"] (spMx (K := K)) := .mk' F45 (gat 45 ("_law_more", 431) rfl) (bind2 F45 fun _ _ _ _ _ _ _ _ => rfl) o_ok_lmore
  have o_ok_lsum := ok_lsum (P := P) (w := w) (mg := mg) (base := base) F38 C_law_plus
  have C_law_sum : Fn P w K mg base CX0 3 "_law_sum" ["items"] (spSum (K := K)) := .mk' F38 (gat 38 ("_law_sum", 390) rfl) (bind1 F38 fun _ _ _ _ _ _ _ => rfl) o_ok_lsum
  have o_ok_lbeside := ok_lbeside (P := P) (w := w) (mg := mg) (base := base) F40 C_law_sum C_law_times C_law_less
  have C_law_beside : Fn P w K mg base CX0 4 "_law_beside" ["form", "mark"] (spDrawn (K := K)) := .mk' F40 (gat 40 ("_law_beside", 400) rfl) (bind2 F40 fun _ _ _ _ _ _ _ _ => rfl) o_ok_lbeside
  have C_law_few_5 : Fn P w K mg base CX0 10 "_law_few" ["one", "cost", "mark", "count", "memo"] (spFew (K := K) P w 5) := .mk' F46 (gat 46 ("_law_few", 436) rfl)  (bind5 F46 fun _ _ _ _ _ _ _ _ _ _ _ => rfl) (ok_few F46 (gat 46 ("_law_few", 436) rfl)  (bind5 F46 fun _ _ _ _ _ _ _ _ _ _ _ => rfl) C_law_times C_law_more C_law_minus C_law_sum 5)
  have C_law_few_13 : Fn P w K mg base CX0 18 "_law_few" ["one", "cost", "mark", "count", "memo"] (spFew (K := K) P w 13) := .mk' F46 (gat 46 ("_law_few", 436) rfl)  (bind5 F46 fun _ _ _ _ _ _ _ _ _ _ _ => rfl) (ok_few F46 (gat 46 ("_law_few", 436) rfl)  (bind5 F46 fun _ _ _ _ _ _ _ _ _ _ _ => rfl) C_law_times C_law_more C_law_minus C_law_sum 13)
  have C_law_below_5 : Fn P w K mg base CX0 10 "_law_below" ["one", "cost", "mark", "count", "limit", "memo"] (spBelowM (K := K) P w 5) := .mk' F47 (gat 47 ("_law_below", 441) rfl) (bind6 F47 fun _ _ _ _ _ _ _ _ _ _ _ _ => rfl) (ok_below F47 (gat 47 ("_law_below", 441) rfl) (bind6 F47 fun _ _ _ _ _ _ _ _ _ _ _ _ => rfl) C_law_times C_law_less C_law_more C_law_minus C_law_sum 5)
  have o_ok_without := ok_without (P := P) (w := w) (mg := mg) (base := base) F48 T C_law_times C_law_more C_law_minus C_law_sum
  have C_law_without : Fn P w K mg base CX0 4 "_law_without" ["one", "cost", "mark", "count"] (spWithout (K := K)) := .mk' F48 (gat 48 ("_law_without", 446) rfl) (bind4 F48 fun _ _ _ _ _ _ _ _ _ _ => rfl) o_ok_without
  have o_ok_lbar := ok_lbar (P := P) (w := w) (mg := mg) (base := base) F51 T C_law_sum C_law_times C_law_over C_law_minus C_law_beside
  have C_law_bar : Fn P w K mg base CX0 5 "_law_bar" ["one", "cost"] (spLawBar (K := K)) := .mk' F51 (gat 51 ("_law_bar", 465) rfl) (bind2 F51 fun _ _ _ _ _ _ _ _ => rfl) o_ok_lbar
  have C_law_same_4 : Fn P w K mg base CX0 5 "_law_same" ["given", "due"] (spSame (K := K) 4) := .mk' F31 (gat 31 ("_law_same", 341) rfl) (bind2 F31 fun _ _ _ _ _ _ _ _ => rfl) (ok_same F31 (gat 31 ("_law_same", 341) rfl) (bind2 F31 fun _ _ _ _ _ _ _ _ => rfl) T 4)
  have o_ok_mixed := ok_mixed (P := P) (w := w) (mg := mg) (base := base) F30 T C_law_take
  have C_law_mixed : Fn P w K mg base CX0 2 "_law_mixed" ["draw", "items"] (spMixed (K := K)) := .mk' F30 (gat 30 ("_law_mixed", 336) rfl) (bind2 F30 fun _ _ _ _ _ _ _ _ => rfl) o_ok_mixed
  have o_ok_lascending := ok_lascending (P := P) (w := w) (mg := mg) (base := base) F41 T C_law_less
  have C_law_ascending : Fn P w K mg base CX0 2 "_law_ascending" ["worths"] (spLawAsc (K := K)) := .mk' F41 (gat 41 ("_law_ascending", 407) rfl) (bind1 F41 fun _ _ _ _ _ _ _ => rfl) o_ok_lascending
  have o_ok_lbox := ok_lbox (P := P) (w := w) (mg := mg) (base := base) F42 T C_law_take C_law_low C_law_ascending
  have C_law_box : Fn P w K mg base CX0 3 "_law_box" ["draw", "many", "low"] (spLawBox (K := K)) := .mk' F42 (gat 42 ("_law_box", 412) rfl) (bind3 F42 fun _ _ _ _ _ _ _ _ _ => rfl) o_ok_lbox
  have o_ok_lbad_box := ok_lbad_box (P := P) (w := w) (mg := mg) (base := base) F44 T C_law_take
  have C_law_bad_box : Fn P w K mg base CX0 2 "_law_bad_box" ["draw", "one"] (spBadBox (K := K)) := .mk' F44 (gat 44 ("_law_bad_box", 424) rfl) (bind2 F44 fun _ _ _ _ _ _ _ _ => rfl) o_ok_lbad_box
  have o_ok_lcalled := ok_lcalled (P := P) (w := w) (mg := mg) (base := base) F49 T R C4 C_bar C_search_worth C_mean_draws C_few_draws C_few_without K_bar K_search_worth K_mean_draws K_few_draws K_few_without
  have C_law_called : Fn P w K mg base CX0 10 "_law_called" ["way", "args", "by_name"] (spCalled K) := .mk' F49 (gat 49 ("_law_called", 453) rfl) (bind3 F49 fun _ _ _ _ _ _ _ _ _ => rfl) o_ok_lcalled
  have o_ok_ltwice := ok_ltwice (P := P) (w := w) (mg := mg) (base := base) F50 T C_law_called C_law_same_4
  have C_law_twice : Fn P w K mg base CX0 11 "_law_twice" ["way", "args", "due", "by_name"] (spTwice (K := K)) := .mk' F50 (gat 50 ("_law_twice", 460) rfl) (bind4 F50 fun _ _ _ _ _ _ _ _ _ _ => rfl) o_ok_ltwice
  have o_ok_lsearch := ok_lsearch (P := P) (w := w) (mg := mg) (base := base) F52 T C_law_take C_law_mixed C_law_bar C_law_twice C_law_sum C_law_less C_law_over C_law_minus C_law_plus C_law_more C_law_few_5 C_law_below_5 C_law_without
  have C_law_search_right : Fn P w K mg base CX0 12 "_law_search_right" ["draw", "one", "cost", "by_name"] (spSearch (K := K)) := .mk' F52 (gat 52 ("_law_search_right", 470) rfl) (bind4 F52 fun _ _ _ _ _ _ _ _ _ _ => rfl) o_ok_lsearch
  have o_ok_llong := ok_llong (P := P) (w := w) (mg := mg) (base := base) F53 T C_law_twice C_law_few_13 C_law_without
  have C_law_long_right : Fn P w K mg base CX0 19 "_law_long_right" ["one", "cost", "by_name"] (spLong (K := K)) := .mk' F53 (gat 53 ("_law_long_right", 477) rfl) (bind3 F53 fun _ _ _ _ _ _ _ _ _ => rfl) o_ok_llong
  have o_ok_lrefused := ok_lrefused (P := P) (w := w) (mg := mg) (base := base) hy F54 T C_law_take C_law_bad_box C_law_called
  have C_law_refused_right : FnC P w K mg base CX0 12 "_law_refused_right" ["draw", "one", "by_name"] (spRefused (K := K)) := .mk' F54 (gat 54 ("_law_refused_right", 484) rfl) (bind3 F54 fun _ _ _ _ _ _ _ _ _ => rfl) o_ok_lrefused
  exact ok_law F55 T C_law_cell C_law_draw C_law_take C_law_box C_law_low C_law_search_right C_law_long_right C_law_refused_right
end K35
open PySem PySem.W PySem.Calls PyProof.Rows
theorem PySem.Challenge.cw_workwide_k35_searches_holds : PySem.Challenge.rw_workwide_k35_searches.Holds := by
  w_on; o_law
  refine HandSHeadRun.head_imp (r := OpenLaw.row PySem.Challenge.rw_workwide_k35_searches) (q := K35.vw) (H := K35.hk) (ob := K35.ob) (M := 20000) (loose := K35.loose) (d := HandSHeadRun.topDef (OpenLaw.row PySem.Challenge.rw_workwide_k35_searches).prog 71) (kwd := []) K35.ob_eq
    K35.run (by kernel_rfl) (by kernel_rfl) (by kernel_rfl) (by rfl) (by first | assumption | decide +kernel) (by decide +kernel) ⟨rfl, rfl, rfl, rfl, rfl, by decide +kernel⟩ ?hw ?hc
  case hw => w_witness2
  case hc =>
    refine WkG.walkG (l := PySem.Challenge.rw_workwide_k35_searches) (n := 63) (k := 20) (x := "script") (CX := L2.CX0) rfl (by rw [PySem.sizeLine_eq]; decide) (by kernel_rfl) ⟨rfl, by decide, by decide⟩ ?F (fun _ _ _ _ z => z)
    intro w mg fa h Y G hmg0
    obtain ⟨K, KX, c⟩ := Y
    have hmg : mg ("law" : PySem.Str) = some (.ref fa) := by
      have e : (HandSHeadRun.topDef (OpenLaw.row PySem.Challenge.rw_workwide_k35_searches).prog 71).name = ("law" : PySem.Str) := by kernel_rfl
      rw [← e]
      exact hmg0
    obtain ⟨fd, hb, hF⟩ := K35.facts (P := (PySem.Challenge.rw_workwide_k35_searches).prog) (w := w) KX G hmg c
    exact ⟨K, fd, K35.spLaw K, KX, hb, fun H a ns hl _ hS => ⟨a, ns, rfl, hS, by omega, fun _ => rfl⟩, hF⟩
#print axioms PySem.Challenge.cw_workwide_k35_searches_holds
