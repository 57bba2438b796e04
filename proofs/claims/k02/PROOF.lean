import PyProof.Rows.All
import Wide.All
import OpenK.AllK
import Wide.FinOn
import HandS.ForMost
import HandS.ForExc
import HandS.More
import HandS.CallSlots
import HandS.Property
import KE.KDictKeyed
import HandS.Wide
import HandS.TupAny
import HandS.TupMul
import HandS.FStr
import HandS.RaiseMore
import HandS.IsInst
import HandS.Flow
import HandS.TryOnly
import PyProof.ReprRoads
import HandS.ExcOwn
import HandS.Comp
import HandS.Defaults
import HandS.Head0
import HandS.Head1
import HandS.Head2
import HandS.HeadEnd
import HandS.HeadHook1
import HandS.HeadHook2
import KE.KStateDown
import PyProof.Walk
import PyProof.WalkLemmas
import PyProof.Pure
import KE.KOpsOwn
import HandS.SlotsOwn
import KE.KCallOwn
import PyProof.DictUpdate
import HandS.Small
import HandS.DictComp
import HandS.CallLocal
import HandS.MakeKwOnly
import HandS.HeadHook3
import HandS.ListItems
import HandS.NoneIn
import HandS.Style
import HandS.SortInts
import HandS.Iter
import HandS.Conv
import HandS.ClsMeth
import OpenK.KMeth
import HandS.DictTup
import HandS.TupLen
import HandS.Zip
import HandS.Deep
import KE.GoesMore
import HandS.Strs
import HandS.SetFor
import KE.KExcSuper
import HandS.ExcInit
import HandS.ExcField
import HandS.ExcIs
import KE.KExcIs
import PyProof.P3Eq
import PySem.Challenge.RW_gatheredbells_k02_no_shares
set_option Elab.async false
set_option autoImplicit false
set_option linter.all false
set_option maxRecDepth 100000
set_option maxHeartbeats 4000000
/-! VL, part 0: promises of defs that are called where no repr is under way (the guards are known to be none). -/
namespace VL
open PySem PySem.Spec PyProof.Rows L2
/-- room for a call, and nothing is being shown -/
structure RoomG (k : Nat) (A : Around) : Prop extends Room k A where
  gd : A.guards = some []
theorem RoomG.mono {j k : Nat} {A : Around} (r : RoomG k A) (h : j ≤ k) : RoomG j A := ⟨r.toRoom.mono h, r.gd⟩
theorem RoomG.deeper {k : Nat} {A : Around} (r : RoomG (k + 1) A) (env : Env) : RoomG k (A.deeper env) := ⟨r.toRoom.deeper env, r.gd⟩
theorem RoomG.in1 {k : Nat} {A : Around} (r : RoomG (k + 1) A) : RoomG k A.in1 := ⟨r.toRoom.in1, r.gd⟩
theorem guards_make {A : Around} {C : Addr} {us : List Value} {kw : List (Str × Value)} : (A.under (.builtin "type.__call__" ⟨.ref C :: us, kw⟩)).guards = A.guards := by
  first | rfl | simp [Around.under, Code.guards, Code.isGuard, guardIds, pushGuards]
theorem RoomG.make {k : Nat} {A : Around} (r : RoomG (k + 1) A) (C : Addr) (us : List Value) (kw : List (Str × Value)) : RoomG k (A.under (.builtin "type.__call__" ⟨.ref C :: us, kw⟩)) := ⟨r.toRoom.make C us kw, guards_make.trans r.gd⟩
/-- a def's promise, kept where nothing is being shown -/
structure FnOkG (P : Program) (w : World) (K : PySem.W.Frag) (mg : Str → Option Value) (base : Heap) (CX : CXT) (k : Nat) (f : Addr) (fd : FuncData) (ps : List Str) (sp : Sp) : Prop where
  len : ∀ vs H Q E, sp vs H Q E → vs.length = ps.length
  run : ∀ (A : Around) (outer : List Env) (s : Shared) (H : Hp) (args : Args) (us : List Value) (vs : List V) (Q : VK) (E : XK), RoomG k A → Env0 P w K mg base A outer s H → BindsTo s fd args (ps.zip us) → Vals vs us → sp vs H Q E → codeAny (model P w) A (.call (.ref f) args) (CR CX outer P w H s Q E) s
section
variable {X : Cx} {k : Nat} {f : Addr} {fd : FuncData} {ps : List Str} {sp : Sp} {dvs : List V} {ds : List Value} {pins : List (Addr × Obj)} {σ : L2.St} {H : Hp} {s : Shared} {Q : VK}
theorem run_G {CX : CXT} {E : L2.St → XK} {us : List Value} {vs : List V} (F : FnOkG X.prog X.w X.K X.mg X.base CX k f fd ps sp) (hr : RoomG k X.A) (hb : Binds X.K fd ps ds) (hd : Vals dvs ds) (hx : PassesAt CX X σ (E σ)) (I : Inv X pins σ H s) (r : Vals vs us) (h : sp (vs ++ dvs) H Q (E σ)) :
    wpAny (model X.prog X.w) X.A (call (.ref f) us) (EP X pins σ Q) X.xe s := by
  have rv := r.append hd
  have n : (us ++ ds).length = ps.length := rv.length.symm.trans (F.len _ _ _ _ h)
  refine wpAny_call (codeAny_mono (F.run X.A X.stack s H ⟨us, []⟩ _ _ Q (E σ) hr I.env0 (hb s us I.kIn n) rv h) fun res s2 hq => ?_)
  match res, hq with
  | .error er, hq => exact hx pins H s er s2 I hq
  | .ok (.ret u), hq => exact I.after hq
/-- e.f, a property -/
theorem pe_propG {CX : CXT} {C p g : Addr} {fl : Str} {E : XK} {e : Expr} {pos : Pos} {ta : TE} (he : PE X e ta) (c : Cls X.K C) (hp : PropOf X.K C fl p g) (F : FnOkG X.prog X.w X.K X.mg X.base CX k g fd ps sp) (hr : RoomG (k + 1) X.A) (hb : Binds X.K fd ps ds) (hd : Vals dvs ds) (hx : Passes CX X.nox E)
    (hab : attributeBase e fl X.env (eval e X.env) = eval e X.env) : PE X (.Attribute e fl pos) (tProp C sp dvs E ta) := by
  refine ⟨fun pins s σ H Q I h => attr_of hab (thn (he.run pins s σ H _ I h) fun u s1 ⟨x, H1, I0, rx, a, dx, fs, ex, ea, q⟩ => ?_)⟩
  subst ex
  obtain rfl : u = Value.ref a := rx
  obtain ⟨_, O, _, _, _, _⟩ := ins_get I0.hok ea
  obtain ⟨_, J, _⟩ := O.look
  obtain ⟨_, hrec⟩ := hp.rec_
  have I1 := I0.tok (s1.toks + 1)
  have n : ([Value.ref a] ++ ds).length = ps.length := by
    have z := F.len _ _ _ _ q
    rw [← z, List.length_cons, hd.length]; simp
  obtain ⟨cd, hc0, _⟩ := PySem.W.any_some c.hd
  have hc : (PySem.W.clsIn X.K C).isSome = true := by rw [hc0]; rfl
  have pg := PySem.W.plainGet_of (c.get fl)
  refine PySem.W.get_bind I0.kIn J pg.1 (PySem.W.findObj_data hc hp.at_ hp.get hp.tak) pg.2 (wpAny_call (PySem.W.prop_get (s := { s1 with toks := s1.toks + 1 }) I0.kIn hrec ?_))
  refine codeAny_mono (F.run X.A.in1 X.stack { s1 with toks := s1.toks + 1 } H1 ⟨[.ref a], []⟩ _ (.ref a :: dvs) Q E hr.in1 I1.env0.in1 (hb _ [.ref a] I1.kIn n) (.cons rfl hd) q) fun res s2 hq => ?_
  match res, hq with
  | .error er, hq => exact (hx pins σ H1 { s1 with toks := s1.toks + 1 } er s2 (I1.wish _) hq).elim
  | .ok (.ret u), hq =>
    obtain ⟨v, H', I3, rv, q3⟩ := I1.after hq
    show wpAny _ _ (handedOut u) _ _ _
    rw [PySem.W.handedOut_of (handed_of rv)]
    exact wpAny_pure ⟨v, H', I3, rv, q3⟩
end
/-- a def of the text keeps its promise, if its body does where nothing is being shown -/
theorem fn_ofG {CX : CXT} {P : Program} {w : World} {K : PySem.W.Frag} {mg : Str → Option Value} {base : Heap} {k : Nat} {f : Addr} {name qual : Str} {params : Arguments} {body : List Stmt} {scope : Scope} {dV kV doc pm cdv ct oc : Value} {an od : Option Addr} {osl : Array (Option Value)} {N ps : List Str} {sp : Sp}
    (lk : K.lookup f = some ⟨oc, od, .func (PySem.W.fnOf name qual params body scope dV kV doc pm an cdv ct), osl⟩) (hcd : PySem.W.codeIn K cdv qual = true) (S : FnScope N ps scope) (len : ∀ vs H Q E, sp vs H Q E → vs.length = ps.length)
    (walk : ∀ (A : Around) (outer : List Env) (s : Shared) (H : Hp) (vs : List V) (Q : VK) (E : XK), RoomG k (A.deeper (envOfC qual scope s.heap.objs.size f cdv)) → sp vs H Q E → ∃ t, PSs (cxOf CX P w K mg base N qual scope f cdv A outer s H E) body t ∧ t { nx := fun _ H' => Q .non H', rt := Q } (start N vs) H) :
    FnOkG P w K mg base CX (k + 1) f (PySem.W.fnOf name qual params body scope dV kV doc pm an cdv ct) ps sp := by
  refine ⟨len, fun A outer s H args us vs Q E hr e0 hb r hs => ?_⟩
  have here : ∀ (b : Addr) (o : Obj), base.get? b = some o → s.heap.get? b = some o := fun b o e => (e0.bs b o e).1
  have KX : K.In s.heap := e0.mod.kin.keeps here
  have kinds : ∀ y ∈ ps.zip us, scope.names.lookup y.1 = some .local ∨ (scope.names.lookup y.1 = some .cell ∧ ((cellsFrom (s.heap.objs.size + 1) scope.names []).lookup y.1).isSome = true) := fun y hy => (S.par y.1 (List.of_mem_zip (a := y.1) (b := y.2) hy).1).imp id fun q => ⟨q, PySem.W.cellsFrom_some _ _ _ (.inl q)⟩
  refine codeAny_call_function hr.toRoom.depth (KX _ _ lk) rfl S.co S.gen rfl (PySem.W.codeRec_of KX hcd) (hb _ _ _ _ (wpAny_newFunctionEnv_cells S.kind kinds fun env he s1 x => ?_))
  subst he
  refine ⟨(e0.mod.nolimit.keeps here).keeps x.toInCall.keep, codeAny_func ?_⟩
  obtain ⟨t, ht, hq⟩ := walk A outer s H vs Q E (hr.deeper _) hs
  have I := inv_start (E := E) (CX := CX) S hr.toRoom.hd e0 (len _ _ _ _ hs) r x
  refine wpAny_mono (ht.run [] s1 (start N vs) H _ I hq) (fun fl s' z => ?_) fun e s' z => z
  match fl, z with
  | .ret u, ⟨v, σ', H', J, rv, q⟩ => exact ⟨v, H', J.os, J.bare, J.base, J.hok, rv, q⟩
  | .next, ⟨σ', H', J, q⟩ => exact ⟨V.non, H', J.os, J.bare, J.base, J.hok, rfl, q⟩
  | .brk, ⟨_, _, _, q⟩ => exact q.elim
  | .cont, ⟨_, _, _, q⟩ => exact q.elim
theorem roomG_caller {k : Nat} (hr : Room k callerA) : RoomG k callerA := ⟨hr, rfl⟩
end VL
namespace VL
open PySem PySem.Spec PyProof.Rows L2
section
variable {P : Program} {w : World} {K : PySem.W.Frag} {mg mb : Str → Option Value} {CX : CXT} {k : Nat} {fa a : Addr} {fd : FuncData} {x : Str} {sp : Sp} {s₁ : Shared} {vs : List Value} {ns : List Int}
/-- the law's call over a heap that tracks the script at most -/
theorem law_over (KX : K.In s₁.heap) (hns : s₁.heap.Ns mainGlobals mg) (hb : s₁.heap.Ns builtinsNs mb) (hbb : ∀ x : Str, x ≠ "__name__" → mb x = bootBuiltins x) (hlim : s₁.heap.NoLimit) (hg : s₁.gens = #[])
    (ha : s₁.heap.get? a = some { cls := .type "list", data := .seq vs.toArray }) (hr : RoomG k callerA) (F : ∀ base : Heap, K.In base → base.Ns mainGlobals mg → FnOkG P w K mg base CX k fa fd [x] sp) (hbind : ∀ (s : Shared) (u : Value), BindsTo s fd ⟨[u], []⟩ [(x, u)])
    (hsp : ∀ H : Hp, Only H → SqL K H a (ns.map V.int) → sp [.ref a] H (fun v _ => v = .bl true) fun _ _ _ => False) (hCX : ∀ H e s', CX [] H s₁ (fun _ _ _ => False) e s' → False)
    (H : Hp) (hO : Only H) (hS : SqL K H a (ns.map V.int)) (ok : HOk P w H s₁.heap) (one : ∀ b u, H b = some u → b = a) (off : ∀ u, H a = some u → K.lookup a = none) :
    codeAny (model P w) callerA (.call (.ref fa) ⟨[.ref a], []⟩) (fun r s' => r = .ok (.ret (.bool true)) ∧ OldK s₁.heap s'.heap ∧ s'.os = s₁.os ∧ AllBare s'.gens) s₁ := by
  -- what is no list stands in the base
  have plain : ∀ {b : Addr} {o : Obj}, s₁.heap.get? b = some o → (b = a → False) → (hidT s₁.heap H).get? b = some o := fun {b o} e nb => hidT_get e (by
    cases q : H b with
    | none => rfl
    | some u => exact (nb (one b u q)).elim)
  have dict : ∀ {b : Addr} {o : Obj} {es : Array DictEntry} {ep : Nat}, s₁.heap.get? b = some o → o.data = .dict es ep → (hidT s₁.heap H).get? b = some o := fun {b o es ep} e d => plain e fun z => by
    rw [z, ha] at e
    cases e
    exact nomatch (show Data.seq vs.toArray _ = Data.dict es ep from d)
  have ns' : ∀ {b : Addr} {m : Str → Option Value}, s₁.heap.Ns b m → (hidT s₁.heap H).Ns b m := fun ⟨o, es, ep, e, d, r⟩ => ⟨o, es, ep, dict e d, d, r⟩
  have kin : K.In (hidT s₁.heap H) := fun b o e => hidT_get (KX b o e) (by
    cases q : H b with
    | none => rfl
    | some u =>
      obtain rfl := one b u q
      rw [off u q] at e; cases e)
  obtain ⟨mc, l1, l2⟩ := hlim
  have md : Mod K mg (hidT s₁.heap H) := ⟨kin, ns' hns, ⟨mb, ns' hb, hbb⟩, mc, ns' l1, l2⟩
  have e0 : Env0 P w K mg (hidT s₁.heap H) callerA [] s₁ H := ⟨rfl, md, fun b o e => of_hidT e, Nat.le_of_eq (hidT_size _ _), trivial, (fun b z => nomatch (show b ∈ ([] : List Addr) from z)), ok, .of_eq hg⟩
  have none0 : ∀ b : Addr, b ∉ frs [] := fun b z => nomatch (show b ∈ ([] : List Addr) from z)
  refine codeAny_mono ((F _ kin (ns' hns)).run callerA [] s₁ H ⟨[.ref a], []⟩ [.ref a] [.ref a] _ _ hr e0 (hbind s₁ (.ref a)) (.cons rfl .nil) (hsp H hO hS)) fun r s' z => ?_
  match r, z with
  | .error e, z => exact (hCX H e s' z).elim
  | .ok (.ret u), ⟨v, H', os, bare, un, ok', rv, q⟩ =>
    have ev : v = .bl true := q
    subst ev
    obtain rfl : u = Value.bool true := rv
    refine ⟨rfl, OldK.of_keep fun b o e => ?_, os, bare⟩
    cases q : H b with
    | none => exact un.keep b o e q (none0 b) (fun z => nomatch z)
    | some u =>
      rcases hO b with z | ⟨ob, xs, z⟩
      · rw [q] at z; cases z
      · have g1 := (ok b _ z).1
        rw [e] at g1; cases g1
        exact (ok' b _ (un.frzs b _ _ z)).1
theorem law_callG (KX : K.In s₁.heap) (hns : s₁.heap.Ns mainGlobals mg) (hb : s₁.heap.Ns builtinsNs mb) (hbb : ∀ x : Str, x ≠ "__name__" → mb x = bootBuiltins x) (hlim : s₁.heap.NoLimit) (hg : s₁.gens = #[])
    (ha : s₁.heap.get? a = some { cls := .type "list", data := .seq vs.toArray }) (hi : IntsAre vs ns) (hl : ns.length ≤ sizeLine) (hr : RoomG k callerA) (F : ∀ base : Heap, K.In base → base.Ns mainGlobals mg → FnOkG P w K mg base CX k fa fd [x] sp) (hbind : ∀ (s : Shared) (u : Value), BindsTo s fd ⟨[u], []⟩ [(x, u)])
    (hsp : ∀ H : Hp, Only H → SqL K H a (ns.map V.int) → sp [.ref a] H (fun v _ => v = .bl true) fun _ _ _ => False) (hCX : ∀ H e s', CX [] H s₁ (fun _ _ _ => False) e s' → False) :
    codeAny (model P w) callerA (.call (.ref fa) ⟨[.ref a], []⟩) (fun r s' => r = .ok (.ret (.bool true)) ∧ OldK s₁.heap s'.heap ∧ s'.os = s₁.os ∧ AllBare s'.gens) s₁ := by
  have over := law_over KX hns hb hbb hlim hg ha hr F hbind hsp hCX
  have rv := vals_ints hi
  have sz : vs.toArray.size ≤ sizeLine := by rw [List.size_toArray, hi.length]; exact hl
  cases hk : K.lookup a with
  | some o =>
    have e := KX a o hk
    rw [ha] at e
    cases e
    exact over (fun _ => none) (fun _ => .inl rfl) (.inr ⟨_, vs.toArray, _, hk, rfl, rfl, rfl, sz, by simpa using rv⟩) (fun b u z => nomatch (show (none : Option HO) = some u from z)) (fun b u z => nomatch (show (none : Option HO) = some u from z)) fun u z => nomatch (show (none : Option HO) = some u from z)
  | none =>
    let S : HO := .frz { cls := .type "list", data := .seq vs.toArray } (.lst (ns.map V.int))
    let Hs : Hp := fun b => if b = a then some S else none
    have at_a : Hs a = some S := if_pos rfl
    have els : ∀ b, b ≠ a → Hs b = none := fun b nb => if_neg nb
    refine over Hs (fun b => ?_) (.inl (.inr ⟨_, at_a⟩)) (fun b u z => ?_) (fun b u z => Classical.byContradiction fun nb => by rw [els b nb] at z; cases z) fun _ _ => hk
    · by_cases e : b = a
      · subst e; exact .inr ⟨_, _, at_a⟩
      · exact .inl (els b e)
    · by_cases e : b = a
      · subst e
        rw [at_a] at z
        cases z
        exact ⟨ha, by rw [List.length_map]; exact hl, vs, _, rv, ha⟩
      · rw [els b e] at z; cases z
end
end VL
/-! VL, part A: plain values, what they stand for in the heap, who may change what. -/
namespace VL
open PySem L2

/-- how a dict's keys are kept: ints and texts, flat tuples, any data -/
inductive DK where
  | k | t | n
  deriving DecidableEq

/-- a value as a tree; o: whether it may still be changed by the one who holds it -/
inductive Val where
  | non | bl (b : Bool) | int (i : Int) | str (x : Str) | ty (n : String) | cn (n : Nat)
  | tup (xs : List Val)
  | lst (o : Bool) (xs : List Val)
  | dct (o : Bool) (d : DK) (ks : List Val) (xs : List Val)
  | obj (o : Bool) (C : Nat) (fs : List Str) (xs : List Val)
  | exn (C : Nat) (fs : List Str) (xs : List Val)
  /-- the script -/
  | scr (ns : List Int)
  /-- a dict of the module's own -/
  | wdk (ks : List Val) (xs : List Val)
  /-- a tuple of the module's own -/
  | wtp (xs : List Val)
  /-- a def, held as a value -/
  | fn (n : Nat)

mutual
def Val.fz : Val → Bool
  | .non => true | .bl _ => true | .int _ => true | .str _ => true | .ty _ => true | .cn _ => true
  | .tup xs => fzs xs
  | .lst o xs => !o && fzs xs
  | .dct o _ _ xs => !o && fzs xs
  | .obj o _ _ xs => !o && fzs xs
  | .exn _ _ _ => true
  | .scr _ => true
  | .wdk _ _ => true
  | .wtp _ => true
  | .fn _ => true
def fzs : List Val → Bool
  | [] => true
  | x :: xs => x.fz && fzs xs
end
mutual
def Val.frz : Val → Val
  | .non => .non | .bl b => .bl b | .int i => .int i | .str x => .str x | .ty n => .ty n | .cn n => .cn n
  | .tup xs => .tup (frzs xs)
  | .lst _ xs => .lst false (frzs xs)
  | .dct _ d ks xs => .dct false d ks (frzs xs)
  | .obj _ C fs xs => .obj false C fs (frzs xs)
  | .exn C fs xs => .exn C fs xs
  | .scr ns => .scr ns
  | .wdk ks xs => .wdk ks xs
  | .wtp xs => .wtp xs
  | .fn n => .fn n
def frzs : List Val → List Val
  | [] => []
  | x :: xs => x.frz :: frzs xs
end
theorem frzs_map : ∀ xs : List Val, frzs xs = xs.map Val.frz
  | [] => by simp [frzs]
  | x :: xs => by simp [frzs, frzs_map xs]
theorem fzs_all : ∀ xs : List Val, fzs xs = xs.all Val.fz
  | [] => by simp [fzs]
  | x :: xs => by simp [fzs, fzs_all xs]

def ofKey : Key → Val
  | .inl i => .int i
  | .inr x => .str x

/-- what is fixed while the law runs -/
structure Gam where
  K : PySem.W.Frag
  cn : Nat → Option Addr
  fa : Nat → Option Addr
  hot : List (Addr × Value × Option Addr)
  w : World

/-- a dict of the module's own: what is found at each text -/
def WDct (K : PySem.W.Frag) (w : World) (a : Addr) (kvs : List (Key × V)) : Prop := (∃ es n, KDict K w a es n) ∧ (∀ z v, valV kvs (.inr z) = some v → KDct K w a z v) ∧ ∀ z, valV kvs (.inr z) = none → PySem.W.nsIn K a z = some none
def KT (K : PySem.W.Frag) (a : Addr) (xs : List V) : Prop := SqT K (fun _ => none) a xs
/-- it is there, and nobody changes it -/
def Fz (W : Addr → Prop) (H : Hp) (a : Addr) (u : HO) : Prop := H a = some u ∧ ¬ W a

/-- .. as a dict that may stand locked -/
def Fd (W : Addr → Prop) (H : Hp) (a : Addr) (u : HO) : Prop := Rd H a u ∧ ¬ W a
mutual
/-- a tree as a key of a dict: None, ints, texts, tuples of such -/
def keyN : Val → Option NestedKey
  | .non => some .none
  | .int i => some (.num i)
  | .str x => some (.text x)
  | .tup xs => match keyNs xs with
    | some ks => some (.tup ks)
    | none => none
  | _ => none
def keyNs : List Val → Option (List NestedKey)
  | [] => some []
  | x :: xs => match keyN x, keyNs xs with
    | some k, some ks => some (k :: ks)
    | _, _ => none
end
/-- an entry of a dict whose keys are tuples: the key, where its tuple stands, the value -/
abbrev NEnt := NestedKey × Addr × V
def nkRel (p : NEnt) (q : NestedKey × Addr × Value) : Prop := p.1 = q.1 ∧ p.2.1 = q.2.1 ∧ RelV p.2.2 q.2.2
def nentry (w : World) (x : NestedKey × Addr × Value) : DictEntry := ⟨x.1.hash w, .ref x.2.1, x.2.2⟩
def NdP (w : World) (a : Addr) (xs : List NEnt) (h : Heap) : Prop := xs.length ≤ sizeLine ∧ (a == sysModules) = false ∧ ∃ us, Paired nkRel xs us ∧ ∃ o es ep, h.get? a = some o ∧ o.ExactDict ∧ o.data = .dict es ep ∧ es.toList = us.map (nentry w) ∧ (us.map (·.1)).Nodup
/-- such a dict -/
abbrev ndO (w : World) (a : Addr) (xs : List NEnt) : HO := .ext (NdP w a xs)
mutual
/-- x, in the heap H, is the tree v; the addresses of what may be changed: O -/
inductive Rep (G : Gam) (W : Addr → Prop) (H : Hp) : V → Val → List Addr → Prop
  | non : Rep G W H .non .non []
  | bl (b : Bool) : Rep G W H (.bl b) (.bl b) []
  | int (i : Int) : Rep G W H (.int i) (.int i) []
  | str (x : Str) : Rep G W H (.str x) (.str x) []
  | ty (n : String) : Rep G W H (.ty n) (.ty n) []
  | cn {n : Nat} {a : Addr} (h : G.cn n = some a) : Rep G W H (.ref a) (.cn n) []
  | fn {n : Nat} {a : Addr} (h : G.fa n = some a) : Rep G W H (.ref a) (.fn n) []
  | tup {a : Addr} {xs : List V} {vs : List Val} {O : List Addr} (h : Fz W H a (.tup xs)) (r : Reps G W H xs vs O) : Rep G W H (.ref a) (.tup vs) O
  | lstO {a : Addr} {xs : List V} {vs : List Val} {O : List Addr} (h : H a = some (.lst xs)) (r : Reps G W H xs vs O) : Rep G W H (.ref a) (.lst true vs) (a :: O)
  | lstF {a : Addr} {xs : List V} {vs : List Val} (h : Fz W H a (.lst xs)) (r : Reps G W H xs vs []) : Rep G W H (.ref a) (.lst false vs) []
  | dkO {a : Addr} {kvs : List (Key × V)} {ks vs : List Val} {O : List Addr} (h : H a = some (.dK kvs)) (hk : ks = kvs.map fun p => ofKey p.1) (r : Reps G W H (kvs.map (·.2)) vs O) : Rep G W H (.ref a) (.dct true .k ks vs) (a :: O)
  | dkF {a : Addr} {kvs : List (Key × V)} {ks vs : List Val} (h : Fd W H a (.dK kvs)) (hk : ks = kvs.map fun p => ofKey p.1) (r : Reps G W H (kvs.map (·.2)) vs []) : Rep G W H (.ref a) (.dct false .k ks vs) []
  | dtO {a : Addr} {kvs : List (List Key × V)} {ks vs : List Val} {O : List Addr} (h : H a = some (.dT kvs)) (hk : ks = kvs.map fun p => Val.tup (p.1.map ofKey)) (r : Reps G W H (kvs.map (·.2)) vs O) : Rep G W H (.ref a) (.dct true .t ks vs) (a :: O)
  | dtF {a : Addr} {kvs : List (List Key × V)} {ks vs : List Val} (h : Fz W H a (.dT kvs)) (hk : ks = kvs.map fun p => Val.tup (p.1.map ofKey)) (r : Reps G W H (kvs.map (·.2)) vs []) : Rep G W H (.ref a) (.dct false .t ks vs) []
  | dnO {a : Addr} {xs : List NEnt} {ks vs : List Val} (h : H a = some (ndO G.w a xs)) (hk : Reps G W H (xs.map fun x => V.ref x.2.1) ks []) (hn : ks.map keyN = xs.map fun x => some x.1) (r : Reps G W H (xs.map fun x => x.2.2) vs []) : Rep G W H (.ref a) (.dct true .n ks vs) [a]
  | dnF {a : Addr} {xs : List NEnt} {ks vs : List Val} (h : Fd W H a (ndO G.w a xs)) (hk : Reps G W H (xs.map fun x => V.ref x.2.1) ks []) (hn : ks.map keyN = xs.map fun x => some x.1) (r : Reps G W H (xs.map fun x => x.2.2) vs []) : Rep G W H (.ref a) (.dct false .n ks vs) []
  | objO {a C dx : Addr} {fs : List (Str × V)} {n : Nat} {ns : List Str} {vs : List Val} {O : List Addr} (h : H a = some (.ins C dx fs)) (hc : G.cn n = some C) (hn : ns = fs.map (·.1)) (r : Reps G W H (fs.map (·.2)) vs O) : Rep G W H (.ref a) (.obj true n ns vs) (a :: O)
  | objF {a C dx : Addr} {fs : List (Str × V)} {n : Nat} {ns : List Str} {vs : List Val} (h : Fz W H a (.ins C dx fs)) (hc : G.cn n = some C) (hn : ns = fs.map (·.1)) (r : Reps G W H (fs.map (·.2)) vs []) : Rep G W H (.ref a) (.obj false n ns vs) []
  | exn {a C d : Addr} {fs : List (Str × V)} {n : Nat} {ns : List Str} {vs : List Val} (hh : (a, Value.ref C, some d) ∈ G.hot) (hc : G.fa n = some C) (h : H d = some (.xd fs) ∧ ¬ W d) (hn : ns = fs.map (·.1)) (r : Reps G W H (fs.map (·.2)) vs []) : Rep G W H (.ref a) (.exn n ns vs) []
  | scr {a : Addr} {ns : List Int} (h : (∃ o, H a = some (.frz o (.lst (ns.map V.int))) ∧ ¬ W a) ∨ SqL G.K (fun _ => none) a (ns.map V.int)) : Rep G W H (.ref a) (.scr ns) []
  | wdk {a : Addr} {kvs : List (Key × V)} {ks vs : List Val} (h : WDct G.K G.w a kvs) (hk : ks = kvs.map fun p => ofKey p.1) (r : Reps G W H (kvs.map (·.2)) vs []) : Rep G W H (.ref a) (.wdk ks vs) []
  | wtp {a : Addr} {xs : List V} {vs : List Val} (h : KT G.K a xs) (r : Reps G W H xs vs []) : Rep G W H (.ref a) (.wtp vs) []
inductive Reps (G : Gam) (W : Addr → Prop) (H : Hp) : List V → List Val → List Addr → Prop
  | nil : Reps G W H [] [] []
  | cons {x : V} {v : Val} {xs : List V} {vs : List Val} {O O' : List Addr} (r : Rep G W H x v O) (t : Reps G W H xs vs O') : Reps G W H (x :: xs) (v :: vs) (O ++ O')
end

/-- nothing but what W names changes -/
def Keep (W : Addr → Prop) (H : Hp) (W' : Addr → Prop) (H' : Hp) : Prop := ∀ a o, H a = some o → ¬ W a → H' a = some o ∧ ¬ W' a

section
variable {G : Gam} {W W' : Addr → Prop} {H H' : Hp}
theorem Fd.mono {a : Addr} {u : HO} (h : Fd W H a u) (k : Keep W H W' H') : Fd W' H' a u := by
  obtain ⟨r, nw⟩ := h
  rcases r with r | ⟨o, r⟩
  · exact ⟨.inl (k a _ r nw).1, (k a _ r nw).2⟩
  · exact ⟨.inr ⟨o, (k a _ r nw).1⟩, (k a _ r nw).2⟩
theorem Fz.mono {a : Addr} {u : HO} (h : Fz W H a u) (k : Keep W H W' H') : Fz W' H' a u := by
  obtain ⟨r, nw⟩ := h
  exact k a _ r nw
mutual
theorem Rep.mono {x : V} {v : Val} {O : List Addr} (r : Rep G W H x v O) (k : Keep W H W' H') (ko : ∀ a ∈ O, ∀ o, H a = some o → H' a = some o) : Rep G W' H' x v O := by
  cases r with
  | non => exact .non
  | bl b => exact .bl b
  | int i => exact .int i
  | str x => exact .str x
  | ty n => exact .ty n
  | cn h => exact .cn h
  | fn h => exact .fn h
  | tup h r => exact .tup (h.mono k) (r.mono k ko)
  | wtp h r => exact .wtp h (r.mono k fun a ha => nomatch ha)
  | lstO h r => exact .lstO (ko _ List.mem_cons_self _ h) (r.mono k fun a ha => ko a (List.mem_cons_of_mem _ ha))
  | lstF h r => exact .lstF (h.mono k) (r.mono k fun a ha => nomatch ha)
  | scr h => exact .scr (h.imp (fun ⟨o, e, nw⟩ => ⟨o, k _ _ e nw⟩) id)
  | wdk h hk r => exact .wdk h hk (r.mono k fun a ha => nomatch ha)
  | dkO h hk r => exact .dkO (ko _ List.mem_cons_self _ h) hk (r.mono k fun a ha => ko a (List.mem_cons_of_mem _ ha))
  | dkF h hk r => exact .dkF (h.mono k) hk (r.mono k fun a ha => nomatch ha)
  | dtO h hk r => exact .dtO (ko _ List.mem_cons_self _ h) hk (r.mono k fun a ha => ko a (List.mem_cons_of_mem _ ha))
  | dtF h hk r => exact .dtF (h.mono k) hk (r.mono k fun a ha => nomatch ha)
  | dnO h hk hn r => exact .dnO (ko _ List.mem_cons_self _ h) (hk.mono k fun a ha => nomatch ha) hn (r.mono k fun a ha => nomatch ha)
  | dnF h hk hn r => exact .dnF (h.mono k) (hk.mono k fun a ha => nomatch ha) hn (r.mono k fun a ha => nomatch ha)
  | objO h hc hn r => exact .objO (ko _ List.mem_cons_self _ h) hc hn (r.mono k fun a ha => ko a (List.mem_cons_of_mem _ ha))
  | objF h hc hn r => exact .objF (h.mono k) hc hn (r.mono k fun a ha => nomatch ha)
  | exn hh hc h hn r => exact .exn hh hc (k _ _ h.1 h.2) hn (r.mono k fun a ha => nomatch ha)
theorem Reps.mono {xs : List V} {vs : List Val} {O : List Addr} (r : Reps G W H xs vs O) (k : Keep W H W' H') (ko : ∀ a ∈ O, ∀ o, H a = some o → H' a = some o) : Reps G W' H' xs vs O := by
  cases r with
  | nil => exact .nil
  | cons r t => exact .cons (r.mono k fun a ha => ko a (List.mem_append_left _ ha)) (t.mono k fun a ha => ko a (List.mem_append_right _ ha))
end
mutual
theorem Rep.there {x : V} {v : Val} {O : List Addr} (r : Rep G W H x v O) : ∀ a ∈ O, ∃ o, H a = some o := by
  cases r with
  | tup h r => exact r.there
  | lstO h r => exact fun a ha => (List.mem_cons.mp ha).elim (fun e => ⟨_, e ▸ h⟩) (r.there a)
  | dkO h hk r => exact fun a ha => (List.mem_cons.mp ha).elim (fun e => ⟨_, e ▸ h⟩) (r.there a)
  | dtO h hk r => exact fun a ha => (List.mem_cons.mp ha).elim (fun e => ⟨_, e ▸ h⟩) (r.there a)
  | dnO h hk hn r => exact fun a ha => (List.mem_cons.mp ha).elim (fun e => ⟨_, e ▸ h⟩) (fun z => nomatch z)
  | objO h hc hn r => exact fun a ha => (List.mem_cons.mp ha).elim (fun e => ⟨_, e ▸ h⟩) (r.there a)
  | _ => exact fun a ha => nomatch ha
theorem Reps.there {xs : List V} {vs : List Val} {O : List Addr} (r : Reps G W H xs vs O) : ∀ a ∈ O, ∃ o, H a = some o := by
  cases r with
  | nil => exact fun a ha => nomatch ha
  | cons r t => exact fun a ha => (List.mem_append.mp ha).elim (r.there a) (t.there a)
end
mutual
theorem Rep.none_of_fz {x : V} {v : Val} {O : List Addr} (r : Rep G W H x v O) (h : v.fz = true) : O = [] := by
  cases r with
  | tup h' r => exact r.none_of_fz (by simpa [Val.fz] using h)
  | lstO h' r => simp [Val.fz] at h
  | dkO h' hk r => simp [Val.fz] at h
  | dtO h' hk r => simp [Val.fz] at h
  | dnO h' hk hn r => simp [Val.fz] at h
  | objO h' hc hn r => simp [Val.fz] at h
  | _ => rfl
theorem Reps.none_of_fz {xs : List V} {vs : List Val} {O : List Addr} (r : Reps G W H xs vs O) (h : fzs vs = true) : O = [] := by
  cases r with
  | nil => rfl
  | cons r t =>
    simp only [fzs, Bool.and_eq_true] at h
    rw [r.none_of_fz h.1, t.none_of_fz h.2]
    rfl
end
mutual
theorem Rep.fz_of_none {x : V} {v : Val} {O : List Addr} (r : Rep G W H x v O) (h : O = []) : v.fz = true := by
  cases r with
  | tup h' r => simpa [Val.fz] using r.fz_of_none h
  | lstO h' r => cases h
  | dkO h' hk r => cases h
  | dtO h' hk r => cases h
  | dnO h' hk hn r => cases h
  | objO h' hc hn r => cases h
  | lstF h' r => simpa [Val.fz] using r.fz_of_none rfl
  | dkF h' hk r => simpa [Val.fz] using r.fz_of_none rfl
  | dtF h' hk r => simpa [Val.fz] using r.fz_of_none rfl
  | dnF h' hk hn r => simpa [Val.fz] using r.fz_of_none rfl
  | objF h' hc hn r => simpa [Val.fz] using r.fz_of_none rfl
  | _ => rfl
theorem Reps.fz_of_none {xs : List V} {vs : List Val} {O : List Addr} (r : Reps G W H xs vs O) (h : O = []) : fzs vs = true := by
  cases r with
  | nil => rfl
  | cons r t =>
    obtain ⟨h1, h2⟩ := List.append_eq_nil_iff.mp h
    simp only [fzs, Bool.and_eq_true]
    exact ⟨r.fz_of_none h1, t.fz_of_none h2⟩
end
mutual
/-- from now on nobody changes it -/
theorem Rep.freeze {x : V} {v : Val} {O : List Addr} (r : Rep G W H x v O) (k : ∀ a, ¬ W a → ¬ W' a) (ko : ∀ a ∈ O, ¬ W' a) : Rep G W' H x v.frz [] := by
  have kf : ∀ {a : Addr} {u : HO}, Fz W H a u → Fz W' H a u := fun z => ⟨z.1, k _ z.2⟩
  cases r with
  | non => simp only [Val.frz]; exact .non
  | bl b => simp only [Val.frz]; exact .bl b
  | int i => simp only [Val.frz]; exact .int i
  | str x => simp only [Val.frz]; exact .str x
  | ty n => simp only [Val.frz]; exact .ty n
  | cn h => simp only [Val.frz]; exact .cn h
  | fn h => simp only [Val.frz]; exact .fn h
  | tup h r => simp only [Val.frz]; exact .tup (kf h) (r.freeze k ko)
  | wtp h r => simp only [Val.frz]; exact .wtp h (r.mono (fun a o e nw => ⟨e, k a nw⟩) fun a ha => nomatch ha)
  | lstO h r => simp only [Val.frz]; exact .lstF ⟨h, ko _ List.mem_cons_self⟩ (r.freeze k fun a ha => ko a (List.mem_cons_of_mem _ ha))
  | lstF h r => simp only [Val.frz]; exact .lstF (kf h) (r.freeze k fun a ha => nomatch ha)
  | scr h => simp only [Val.frz]; exact .scr (h.imp (fun ⟨o, e, nw⟩ => ⟨o, e, k _ nw⟩) id)
  | wdk h hk r => simp only [Val.frz]; exact .wdk h hk (r.mono (fun a o e nw => ⟨e, k a nw⟩) fun a ha => nomatch ha)
  | dkO h hk r => simp only [Val.frz]; exact .dkF ⟨.inl h, ko _ List.mem_cons_self⟩ hk (r.freeze k fun a ha => ko a (List.mem_cons_of_mem _ ha))
  | dkF h hk r => simp only [Val.frz]; exact .dkF ⟨h.1, k _ h.2⟩ hk (r.freeze k fun a ha => nomatch ha)
  | dtO h hk r => simp only [Val.frz]; exact .dtF ⟨h, ko _ List.mem_cons_self⟩ hk (r.freeze k fun a ha => ko a (List.mem_cons_of_mem _ ha))
  | dtF h hk r => simp only [Val.frz]; exact .dtF (kf h) hk (r.freeze k fun a ha => nomatch ha)
  | dnO h hk hn r => simp only [Val.frz]; exact .dnF ⟨.inl h, ko _ List.mem_cons_self⟩ (hk.mono (fun a o e nw => ⟨e, k a nw⟩) fun a ha => nomatch ha) hn (r.freeze k fun a ha => nomatch ha)
  | dnF h hk hn r => simp only [Val.frz]; exact .dnF ⟨h.1, k _ h.2⟩ (hk.mono (fun a o e nw => ⟨e, k a nw⟩) fun a ha => nomatch ha) hn (r.freeze k fun a ha => nomatch ha)
  | objO h hc hn r => simp only [Val.frz]; exact .objF ⟨h, ko _ List.mem_cons_self⟩ hc hn (r.freeze k fun a ha => ko a (List.mem_cons_of_mem _ ha))
  | objF h hc hn r => simp only [Val.frz]; exact .objF (kf h) hc hn (r.freeze k fun a ha => nomatch ha)
  | exn hh hc h hn r => simp only [Val.frz]; exact .exn hh hc ⟨h.1, k _ h.2⟩ hn (r.mono (fun a o e nw => ⟨e, k a nw⟩) fun a ha => nomatch ha)
theorem Reps.freeze {xs : List V} {vs : List Val} {O : List Addr} (r : Reps G W H xs vs O) (k : ∀ a, ¬ W a → ¬ W' a) (ko : ∀ a ∈ O, ¬ W' a) : Reps G W' H xs (frzs vs) [] := by
  cases r with
  | nil => simp only [frzs]; exact .nil
  | cons r t =>
    simp only [frzs]
    exact .cons (O := []) (O' := []) (r.freeze k fun a ha => ko a (List.mem_append_left _ ha)) (t.freeze k fun a ha => ko a (List.mem_append_right _ ha))
end
theorem Reps.length {xs : List V} {vs : List Val} {O : List Addr} (r : Reps G W H xs vs O) : xs.length = vs.length := by
  induction vs generalizing xs O with
  | nil => cases r; rfl
  | cons v vs ih => cases r with | cons r t => simp [ih t]
/-- one of them -/
theorem Reps.split {xs : List V} {vs : List Val} {O : List Addr} (r : Reps G W H xs vs O) {i : Nat} {v : Val} (h : vs[i]? = some v) :
    ∃ x O1 Oi O2, xs[i]? = some x ∧ O = O1 ++ (Oi ++ O2) ∧ Rep G W H x v Oi := by
  induction vs generalizing xs O i with
  | nil => simp at h
  | cons w vs ih =>
    cases r with
    | @cons x _ xs' _ Oh Ot r t =>
      cases i with
      | zero =>
        simp at h
        subst h
        exact ⟨x, [], Oh, Ot, by simp, by simp, r⟩
      | succ i =>
        obtain ⟨y, O1, Oi, O2, e1, e2, q⟩ := ih t (by simpa using h)
        exact ⟨y, Oh ++ O1, Oi, O2, by simpa using e1, by rw [e2]; simp [List.append_assoc], q⟩
/-- one of them is exchanged -/
theorem Reps.set {xs : List V} {vs : List Val} {O : List Addr} (r : Reps G W H xs vs O) {i : Nat} {v : Val} (h : vs[i]? = some v) :
    ∃ x O1 Oi O2, xs[i]? = some x ∧ O = O1 ++ (Oi ++ O2) ∧ Rep G W H x v Oi ∧
      ∀ W' H' y w Ow, (∀ z u Oz, (∀ a ∈ Oz, a ∈ O1 ++ O2) → Rep G W H z u Oz → Rep G W' H' z u Oz) → Rep G W' H' y w Ow → Reps G W' H' (xs.set i y) (vs.set i w) (O1 ++ (Ow ++ O2)) := by
  induction vs generalizing xs O i with
  | nil => simp at h
  | cons w vs ih =>
    cases r with
    | @cons x _ xs' _ Oh Ot r t =>
      cases i with
      | zero =>
        simp at h
        subst h
        refine ⟨x, [], Oh, Ot, by simp, by simp, r, fun W' H' y w Ow k q => ?_⟩
        have t' : Reps G W' H' xs' vs Ot := by
          clear ih r q
          induction t using Reps.rec (motive_1 := fun _ _ _ _ => True) with
          | nil => exact .nil
          | cons r t _ ih => exact .cons (k _ _ _ (fun a ha => by simp [ha]) r) (ih fun z u Oz hz => k z u Oz fun a ha => by have := hz a ha; simp at this ⊢; exact .inr this)
          | _ => trivial
        simpa using Reps.cons q t'
      | succ i =>
        obtain ⟨y, O1, Oi, O2, e1, e2, q, c⟩ := ih t (by simpa using h)
        refine ⟨y, Oh ++ O1, Oi, O2, by simpa using e1, by rw [e2]; simp [List.append_assoc], q, fun W' H' y w Ow k q' => ?_⟩
        have r' := k _ _ _ (fun a ha => by simp [ha]) r
        have t' := c W' H' y w Ow (fun z u Oz hz => k z u Oz fun a ha => by have := hz a ha; simp at this ⊢; exact .inr this) q'
        simpa [List.append_assoc] using Reps.cons r' t'
theorem Reps.append {xs ys : List V} {vs ws : List Val} {O O' : List Addr} (r : Reps G W H xs vs O) (q : Reps G W H ys ws O') : Reps G W H (xs ++ ys) (vs ++ ws) (O ++ O') := by
  induction vs generalizing xs O with
  | nil => cases r; simpa using q
  | cons w vs ih =>
    cases r with
    | cons r t => simpa [List.append_assoc] using Reps.cons r (ih t)
end
end VL
/-! VL, part B: a frame's names as trees; expressions as functions on them. -/
namespace VL
open PySem L2

abbrev VEnv := List (Option Val)
def We (Os : Nat → List Addr) (a : Addr) : Prop := ∃ i, a ∈ Os i
def WW (R : Addr → Prop) (Os : Nat → List Addr) (a : Addr) : Prop := R a ∨ We Os a
/-- the frame's names stand for the trees; R: what is others' -/
structure Rel (G : Gam) (R : Addr → Prop) (H : Hp) (σ : St) (ρ : VEnv) (Os : Nat → List Addr) : Prop where
  len : σ.length = ρ.length
  rep : ∀ i v, ρ[i]? = some (some v) → ∃ x, σ[i]? = some (some x) ∧ Rep G (WW R Os) H x v (Os i)
  nil : ∀ i, (∀ v, ρ[i]? ≠ some (some v)) → Os i = []
  nd : ∀ i, (Os i).Nodup
  dj : ∀ i j a, a ∈ Os i → a ∈ Os j → i = j
  dr : ∀ i a, a ∈ Os i → ¬ R a
  rt : ∀ a, R a → ∃ o, H a = some o

/-- an exception: its class, its fields -/
structure Exc where
  cls : Val
  fs : List Str
  xs : List Val
def RepX (G : Gam) (W : Addr → Prop) (H : Hp) (c : Value) (d : Option Addr) (e : Exc) : Prop :=
  match e.cls with
  | .fn n => ∃ (C dd : Addr) (fs : List (Str × V)), c = .ref C ∧ G.fa n = some C ∧ d = some dd ∧ H dd = some (.xd fs) ∧ ¬ W dd ∧ e.fs = fs.map (·.1) ∧ Reps G W H (fs.map (·.2)) e.xs []
  | .ty n => c = .type n ∧ d = none ∧ e.fs = [] ∧ e.xs = []
  | _ => False
inductive RE where
  | ok (v : Val) (ρ : VEnv) | exc (e : Exc) (ρ : VEnv) | bad
abbrev ME := VEnv → RE

def KeepE (H : Hp) (Os : Nat → List Addr) (H' : Hp) (Os' : Nat → List Addr) (O : Addr → Prop) : Prop := ∀ a o, H a = some o → ¬ We Os a → H' a = some o ∧ ¬ We Os' a ∧ ¬ O a
def Rp (R : Addr → Prop) (s : Bool) (O : List Addr) (a : Addr) : Prop := R a ∨ (s = true ∧ a ∈ O)

section
variable {G : Gam} {R R' : Addr → Prop} {H H' H1 H2 : Hp} {σ : St} {ρ ρ' : VEnv} {Os Os' Os1 Os2 : Nat → List Addr}
theorem Rel.there (r : Rel G R H σ ρ Os) {i : Nat} : ∀ a ∈ Os i, ∃ o, H a = some o := fun a ha => by
  by_cases h : ∃ v, ρ[i]? = some (some v)
  · obtain ⟨v, hv⟩ := h
    obtain ⟨x, _, q⟩ := r.rep i v hv
    exact q.there a ha
  · rw [r.nil i fun v hv => h ⟨v, hv⟩] at ha
    cases ha
theorem Rel.we (r : Rel G R H σ ρ Os) {a : Addr} (h : We Os a) : ∃ o, H a = some o := let ⟨_, ha⟩ := h; r.there a ha
theorem Rel.ww (r : Rel G R H σ ρ Os) {a : Addr} (h : WW R Os a) : ∃ o, H a = some o := h.elim (r.rt a) r.we
theorem Rel.nr (r : Rel G R H σ ρ Os) {a : Addr} (h : R a) : ¬ We Os a := fun ⟨i, ha⟩ => r.dr i a ha h
theorem keepW_of_same (s : Same H H') (h : ∀ a o, H a = some o → ¬ WW R Os a → ¬ WW R' Os a) : Keep (WW R Os) H (WW R' Os) H' := fun a o e nw => ⟨s a o e, h a o e nw⟩
/-- the heap has grown -/
theorem Rel.grow (r : Rel G R H σ ρ Os) (s : Same H H') (hr : ∀ a, R' a → R a ∨ H a = none) (ht : ∀ a, R' a → ∃ o, H' a = some o) : Rel G R' H' σ ρ Os := by
  have kw : ∀ a o, H a = some o → ¬ WW R Os a → ¬ WW R' Os a := fun a o e nw z => z.elim (fun z => (hr a z).elim (fun z => nw (.inl z)) fun z => by rw [e] at z; cases z) fun z => nw (.inr z)
  refine ⟨r.len, fun i v h => ?_, r.nil, r.nd, r.dj, fun i a ha z => ?_, ht⟩
  · obtain ⟨x, e, q⟩ := r.rep i v h
    exact ⟨x, e, q.mono (keepW_of_same s kw) fun a _ o e => s a o e⟩
  · obtain ⟨o, e⟩ := r.there a ha
    exact (hr a z).elim (r.dr i a ha) fun z => by rw [e] at z; cases z
theorem Rel.weak (r : Rel G R H σ ρ Os) (hr : ∀ a, R' a → R a) : Rel G R' H σ ρ Os := r.grow (fun _ _ e => e) (fun a z => .inl (hr a z)) fun a z => r.rt a (hr a z)
theorem KeepE.refl : KeepE H Os H Os fun _ => False := fun a o e nw => ⟨e, nw, id⟩
theorem KeepE.trans {O1 O2 : Addr → Prop} (k1 : KeepE H Os H1 Os1 O1) (k2 : KeepE H1 Os1 H2 Os2 O2) : KeepE H Os H2 Os2 O2 := fun a o e nw =>
  let ⟨e1, n1, _⟩ := k1 a o e nw
  k2 a o e1 n1
theorem KeepE.grow {O O' : Addr → Prop} (k : KeepE H Os H1 Os1 O) (s : Same H1 H2) (f : ∀ a, O' a → O a ∨ H1 a = none) : KeepE H Os H2 Os1 O' := fun a o e nw => by
  obtain ⟨e1, n1, n2⟩ := k a o e nw
  exact ⟨s a o e1, n1, fun z => (f a z).elim n2 fun z => by rw [e1] at z; cases z⟩
theorem KeepE.imp {O O' : Addr → Prop} (k : KeepE H Os H1 Os1 O) (f : ∀ a, O' a → O a) : KeepE H Os H1 Os1 O' := fun a o e nw => by
  obtain ⟨e1, n1, n2⟩ := k a o e nw
  exact ⟨e1, n1, fun z => n2 (f a z)⟩
/-- what others hold, and what nobody changes, behind a step -/
theorem KeepE.keep {O : Addr → Prop} (k : KeepE H Os H1 Os1 O) (h : ∀ a o, H a = some o → R' a → WW R Os a ∨ O a) : Keep (WW R Os) H (WW R' Os1) H1 := fun a o e nw => by
  obtain ⟨e1, n1, n2⟩ := k a o e fun z => nw (.inr z)
  exact ⟨e1, fun z => z.elim (fun z => (h a o e z).elim nw n2) n1⟩
theorem RepX.mono {W W' : Addr → Prop} {c : Value} {d : Option Addr} {e : Exc} (r : RepX G W H c d e) (k : Keep W H W' H') : RepX G W' H' c d e := by
  unfold RepX at r ⊢
  split at r
  · obtain ⟨C, dd, fs, h1, h2, h3, h4, h5, h6, h7⟩ := r
    exact ⟨C, dd, fs, h1, h2, h3, (k _ _ h4 h5).1, (k _ _ h4 h5).2, h6, h7.mono k fun a ha => nomatch ha⟩
  · exact r
  · exact r
end

/-- what is wanted behind an expression; p: it changes none of the frame's names; s: nobody else can change what it gave -/
def Post (G : Gam) (R : Addr → Prop) (E : WX) (σ : St) (H : Hp) (Os : Nat → List Addr) (p s : Bool) (ρ : VEnv) (Q : VK) : RE → Prop
  | .ok v ρ' => ∀ x H' Os' O, Rel G (Rp R s O) H' σ ρ' Os' → Rep G (WW (Rp R s O) Os') H' x v O → (s = true → O.Nodup) → KeepE H Os H' Os' (fun a => s = true ∧ a ∈ O) → (p = true → ρ' = ρ ∧ Os' = Os ∧ Same H H') → Q x H'
  | .exc e ρ' => ∀ c d H' Os', Rel G R H' σ ρ' Os' → RepX G (WW R Os') H' c d e → KeepE H Os H' Os' (fun _ => False) → E c d σ H'
  | .bad => False
def rd (G : Gam) (E : WX) (p s : Bool) (m : ME) : TE := fun σ H Q => ∃ R ρ Os, Rel G R H σ ρ Os ∧ Post G R E σ H Os p s ρ Q (m ρ)
/-- the expression e computes m -/
def VE (G : Gam) (X : Cx) (E : WX) (p s : Bool) (e : Expr) (m : ME) : Prop := PE X e (rd G E p s m)
theorem PE.pre {X : Cx} {e : Expr} {t t' : TE} (h : PE X e t) (k : ∀ σ H Q, t' σ H Q → t σ H Q) : PE X e t' := ⟨fun pins s σ H Q I q => h.run pins s σ H Q I (k σ H Q q)⟩
theorem PT.pre {X : Cx} {e : Expr} {t t' : TT} (h : PT X e t) (k : ∀ σ H Q, t' σ H Q → t σ H Q) : PT X e t' := ⟨fun pins s σ H Q I q => h.run pins s σ H Q I (k σ H Q q)⟩
theorem PA.pre {X : Cx} {e : List Expr} {t t' : TA} (h : PA X e t) (k : ∀ σ H Q, t' σ H Q → t σ H Q) : PA X e t' := ⟨fun pos pins s σ H Q I q => h.run pos pins s σ H Q I (k σ H Q q)⟩
theorem PS.pre {X : Cx} {e : Stmt} {t t' : TS} (h : PS X e t) (k : ∀ D σ H, t' D σ H → t D σ H) : PS X e t' := ⟨fun pins s σ H D I q => h.run pins s σ H D I (k D σ H q)⟩
theorem PSs.pre {X : Cx} {e : List Stmt} {t t' : TS} (h : PSs X e t) (k : ∀ D σ H, t' D σ H → t D σ H) : PSs X e t' := ⟨fun pins s σ H D I q => h.run pins s σ H D I (k D σ H q)⟩

/-! ### several expressions in a row -/
structure Op where
  p : Bool
  s : Bool
  m : ME
inductive RA where
  | ok (vs : List Val) (ρ : VEnv) | exc (e : Exc) (ρ : VEnv) | bad
def evalA : List Op → VEnv → RA
  | [], ρ => .ok [] ρ
  | o :: os, ρ => match o.m ρ with
    | .ok v ρ1 => match evalA os ρ1 with
      | .ok vs ρ2 => .ok (v :: vs) ρ2
      | r => r
    | .exc e ρ1 => .exc e ρ1
    | .bad => .bad
def nest (G : Gam) (E : WX) : List Op → St → Hp → (List V → Hp → Prop) → Prop
  | [], _, H, K => K [] H
  | o :: os, σ, H, K => rd G E o.p o.s o.m σ H fun x H1 => nest G E os σ H1 fun xs H2 => K (x :: xs) H2
def wfA : List Op → Bool
  | [] => true
  | o :: os => (o.s || os.all (·.p)) && wfA os
inductive RepL (G : Gam) (W : Addr → Prop) (H : Hp) : List V → List Val → List (List Addr) → Prop
  | nil : RepL G W H [] [] []
  | cons {x : V} {v : Val} {O : List Addr} {xs : List V} {vs : List Val} {Ol : List (List Addr)} (r : Rep G W H x v O) (t : RepL G W H xs vs Ol) : RepL G W H (x :: xs) (v :: vs) (O :: Ol)
/-- the addresses of those that nobody else can change -/
def stab : List Op → List (List Addr) → List Addr
  | o :: os, O :: Ol => (if o.s then O else []) ++ stab os Ol
  | _, _ => []
def PostA (G : Gam) (R : Addr → Prop) (E : WX) (σ : St) (H : Hp) (Os : Nat → List Addr) (os : List Op) (ρ : VEnv) (K : List V → Hp → Prop) : RA → Prop
  | .ok vs ρ' => ∀ xs H' Os' Ol, Rel G (fun a => R a ∨ a ∈ stab os Ol) H' σ ρ' Os' → RepL G (WW (fun a => R a ∨ a ∈ stab os Ol) Os') H' xs vs Ol → (stab os Ol).Nodup → KeepE H Os H' Os' (fun a => a ∈ stab os Ol) →
      (os.all (·.p) = true → ρ' = ρ ∧ Os' = Os ∧ Same H H') → K xs H'
  | .exc e ρ' => ∀ c d H' Os', Rel G R H' σ ρ' Os' → RepX G (WW R Os') H' c d e → KeepE H Os H' Os' (fun _ => False) → E c d σ H'
  | .bad => False
section
variable {G : Gam} {E : WX} {σ : St}
theorem mem_stab1 {o : Op} {os : List Op} {O : List Addr} {Ol : List (List Addr)} {a : Addr} : a ∈ stab (o :: os) (O :: Ol) ↔ (o.s = true ∧ a ∈ O) ∨ a ∈ stab os Ol := by
  rw [stab]
  cases h : o.s <;> simp
theorem RepL.mono {W W' : Addr → Prop} {H H' : Hp} {xs : List V} {vs : List Val} {Ol : List (List Addr)} (r : RepL G W H xs vs Ol) (k : Keep W H W' H') (ko : ∀ O ∈ Ol, ∀ a ∈ O, ∀ o, H a = some o → H' a = some o) : RepL G W' H' xs vs Ol := by
  induction r with
  | nil => exact .nil
  | cons r t ih => exact .cons (r.mono k fun a ha => ko _ List.mem_cons_self a ha) (ih fun O hO => ko O (List.mem_cons_of_mem _ hO))
theorem nest_of {os : List Op} (wf : wfA os = true) : ∀ {R : Addr → Prop} {ρ : VEnv} {Os : Nat → List Addr} {H : Hp} {K : List V → Hp → Prop}, Rel G R H σ ρ Os → PostA G R E σ H Os os ρ K (evalA os ρ) → nest G E os σ H K := by
  induction os with
  | nil =>
    intro R ρ Os H K r h
    refine h [] H Os [] (r.weak fun a z => z.elim id fun z => nomatch z) .nil (by simp [stab]) (KeepE.refl.imp fun a z => nomatch z) fun _ => ⟨rfl, rfl, fun _ _ e => e⟩
  | cons o os ih =>
    intro R ρ Os H K r h
    simp only [wfA, Bool.and_eq_true, Bool.or_eq_true] at wf
    refine ⟨R, ρ, Os, r, ?_⟩
    unfold evalA at h
    cases hm : o.m ρ with
    | bad => rw [hm] at h; exact h
    | exc e ρ1 => rw [hm] at h; exact h
    | ok v ρ1 =>
      rw [hm] at h
      dsimp only at h
      intro x H1 Os1 O1 r1 q1 nd1 k1 p1
      refine ih wf.2 (R := Rp R o.s O1) (ρ := ρ1) (Os := Os1) r1 ?_
      have k1' : KeepE H Os H1 Os1 fun _ => False := k1.imp fun _ z => z.elim
      cases he : evalA os ρ1 with
      | bad => rw [he] at h; exact h
      | exc e ρ2 =>
        rw [he] at h
        intro c d H2 Os2 r2 q2 k2
        refine h c d H2 Os2 (r2.weak fun a z => .inl z) (q2.mono fun a o e nw => ⟨e, fun z => nw (z.elim (fun z => .inl (.inl z)) .inr)⟩) (k1'.trans k2)
      | ok vs ρ2 =>
        rw [he] at h
        intro xs H2 Os2 Ol r2 q2 nd2 k2 p2
        have eq : ∀ a, (Rp R o.s O1 a ∨ a ∈ stab os Ol) ↔ (R a ∨ a ∈ stab (o :: os) (O1 :: Ol)) := fun a => by
          rw [mem_stab1]; unfold Rp; exact or_assoc
        have efun : (fun a => Rp R o.s O1 a ∨ a ∈ stab os Ol) = (fun a => R a ∨ a ∈ stab (o :: os) (O1 :: Ol)) := funext fun a => propext (eq a)
        rw [efun] at r2 q2
        have same1 : ∀ a ∈ O1, ∀ ob, H1 a = some ob → H2 a = some ob ∧ ¬ a ∈ stab os Ol ∨ (o.s = false ∧ H2 a = some ob) := fun a ha ob e => by
          cases hs : o.s with
          | true =>
            have nw : ¬ We Os1 a := r1.nr (.inr ⟨hs, ha⟩)
            obtain ⟨e2, _, n2⟩ := k2 a ob e nw
            exact .inl ⟨e2, n2⟩
          | false =>
            have hp : os.all (·.p) = true := by simpa [hs] using wf.1
            exact .inr ⟨rfl, (p2 hp).2.2 a ob e⟩
        have head : Rep G (WW (fun a => R a ∨ a ∈ stab (o :: os) (O1 :: Ol)) Os2) H2 x v O1 := by
          refine q1.mono (k2.keep fun a ob e z => ?_) fun a ha ob e => (same1 a ha ob e).elim (·.1) (·.2)
          rcases (eq a).mpr z with z | z
          · exact .inl (.inl z)
          · exact .inr z
        refine h (x :: xs) H2 Os2 (O1 :: Ol) r2 (.cons head q2) ?_ (fun a ob e nw => ?_) fun hp => ?_
        · unfold stab
          refine List.nodup_append.mpr ⟨?_, nd2, fun a ha b hb => ?_⟩
          · cases hs : o.s with
            | true => simpa using nd1 hs
            | false => simp
          · cases hs : o.s with
            | true =>
              rw [hs] at ha
              have ha' : a ∈ O1 := by simpa using ha
              obtain ⟨ob, e⟩ := q1.there a ha'
              rcases same1 a ha' ob e with z | z
              · exact fun e' => z.2 (e' ▸ hb)
              · rw [hs] at z; cases z.1
            | false => rw [hs] at ha; simp at ha
        · obtain ⟨e1, n1, m1⟩ := k1 a ob e nw
          obtain ⟨e2, n2, m2⟩ := k2 a ob e1 n1
          exact ⟨e2, n2, fun z => (mem_stab1.mp z).elim m1 m2⟩
        · simp only [List.all_cons, Bool.and_eq_true] at hp
          obtain ⟨a1, a2, a3⟩ := p1 hp.1
          obtain ⟨b1, b2, b3⟩ := p2 hp.2
          exact ⟨b1.trans a1, b2.trans a2, a3.trans b3⟩
end
end VL
/-! VL, part C: expressions that run nothing of the program's own. -/
namespace VL
open PySem L2

def evalM : List ME → VEnv → RA
  | [], ρ => .ok [] ρ
  | m :: ms, ρ => match m ρ with
    | .ok v ρ1 => match evalM ms ρ1 with
      | .ok vs ρ2 => .ok (v :: vs) ρ2
      | .exc e ρ2 => .exc e ρ2
      | .bad => .bad
    | .exc e ρ1 => .exc e ρ1
    | .bad => .bad
theorem evalA_eq : ∀ (os : List Op) (ρ : VEnv), evalA os ρ = evalM (os.map Op.m) ρ
  | [], ρ => rfl
  | o :: os, ρ => by
    unfold evalA
    rw [List.map_cons]
    unfold evalM
    cases o.m ρ with
    | ok v ρ1 =>
      dsimp only
      rw [evalA_eq os ρ1]
      cases evalM (os.map Op.m) ρ1 <;> rfl
    | exc e ρ1 => rfl
    | bad => rfl
/-- a function of the values of some expressions -/
def mFun (sem : List Val → Option Val) (ms : List ME) : ME := fun ρ => match evalM ms ρ with
  | .ok vs ρ' => match sem vs with
    | some v => .ok v ρ'
    | none => .bad
  | .exc e ρ' => .exc e ρ'
  | .bad => .bad

/-- what a thing that is made anew may be -/
def Made (G : Gam) (W : Addr → Prop) (H : Hp) (v : Val) (Q : VK) : Prop := ∀ x H' O, Same H H' → (∀ a ∈ O, H a = none) → Rep G (fun z => W z ∨ z ∈ O) H' x v O → O.Nodup → Q x H'
def FunOk (G : Gam) (r : List V → Hp → VK → Prop) (sem : List Val → Option Val) : Prop := ∀ W H xs vs Ol v Q, RepL G W H xs vs Ol → sem vs = some v → Made G W H v Q → r xs H Q
section
variable {G : Gam} {W : Addr → Prop} {H : Hp} {v : Val} {Q : VK} {x : V}
/-- nothing new: a value that needs no object of its own, or one that is there and frozen -/
theorem Made.same (m : Made G W H v Q) (r : Rep G W H x v []) : Q x H := m x H [] (fun _ _ e => e) (fun _ z => nomatch z) (r.mono (fun a o e nw => ⟨e, fun z => z.elim nw fun z => nomatch z⟩) fun _ z => nomatch z) List.nodup_nil
theorem Rep.upd {W' : Addr → Prop} {a : Addr} {o : HO} {y : V} {u : Val} {O : List Addr} (r : Rep G W H y u O) (hn : H a = none) (k : ∀ z, W' z → W z ∨ H z = none) : Rep G W' (upd H a o) y u O :=
  r.mono (fun b ob e nw => ⟨by rw [upd_ne (ne_of_none e hn)]; exact e, fun z => (k b z).elim nw fun z => by rw [e] at z; cases z⟩) fun b hb ob e => by rw [upd_ne (ne_of_none e hn)]; exact e
theorem Reps.upd {W' : Addr → Prop} {a : Addr} {o : HO} {y : List V} {u : List Val} {O : List Addr} (r : Reps G W H y u O) (hn : H a = none) (k : ∀ z, W' z → W z ∨ H z = none) : Reps G W' (upd H a o) y u O :=
  r.mono (fun b ob e nw => ⟨by rw [upd_ne (ne_of_none e hn)]; exact e, fun z => (k b z).elim nw fun z => by rw [e] at z; cases z⟩) fun b hb ob e => by rw [upd_ne (ne_of_none e hn)]; exact e
theorem same_upd {a : Addr} {o : HO} (hn : H a = none) : Same H (upd H a o) := fun b ob e => by rw [upd_ne (ne_of_none e hn)]; exact e
/-- a new list -/
theorem Made.lst {xs : List V} {vs : List Val} (m : Made G W H (.lst true vs) Q) (r : Reps G W H xs vs []) : ∀ p, H p = none → Q (.ref p) (upd H p (.lst xs)) := fun p hp =>
  m (.ref p) _ [p] (same_upd hp) (fun a ha => by rw [List.mem_singleton.mp ha]; exact hp) (.lstO upd_same (r.upd hp fun z hz => hz.imp id fun q => by rw [List.mem_singleton.mp q]; exact hp)) (by simp)
theorem Made.tup {xs : List V} {vs : List Val} (m : Made G W H (.tup vs) Q) (r : Reps G W H xs vs []) (hw : ∀ p, H p = none → ¬ W p) : ∀ p, H p = none → Q (.ref p) (upd H p (.tup xs)) := fun p hp =>
  m (.ref p) _ [] (same_upd hp) (fun a ha => nomatch ha) (.tup ⟨upd_same, fun z => z.elim (hw p hp) fun z => nomatch z⟩ (r.upd hp fun z hz => .inl (hz.elim id fun z => nomatch z))) List.nodup_nil
end

theorem fun_pre {G : Gam} {E : WX} {os : List Op} {r : List V → Hp → VK → Prop} {sem : List Val → Option Val} {t : TE} (ht : ∀ σ H Q, nest G E os σ H (fun xs H' => r xs H' Q) → t σ H Q)
    (ok : ∀ (W : Addr → Prop) H xs vs Ol v Q, (∀ p, W p → ∃ o, H p = some o) → RepL G W H xs vs Ol → sem vs = some v → Made G W H v Q → r xs H Q) (wf : wfA os = true) : ∀ σ H Q, rd G E (os.all (·.p)) true (mFun sem (os.map Op.m)) σ H Q → t σ H Q := by
  intro σ H Q h
  refine ht σ H Q ?_
  obtain ⟨R, ρ, Os, rel, post⟩ := h
  refine nest_of wf rel ?_
  rw [evalA_eq]
  unfold mFun at post
  cases he : evalM (os.map Op.m) ρ with
  | bad => rw [he] at post; exact post
  | exc e ρ' => rw [he] at post; exact post
  | ok vs ρ' =>
    rw [he] at post
    dsimp only at post
    cases hs : sem vs with
    | none => rw [hs] at post; exact post.elim
    | some v =>
      rw [hs] at post
      intro xs H' Os' Ol rel' reps nd keep pure
      have hR : ∀ a, (R a ∨ a ∈ stab os Ol) → ∃ o, H' a = some o := rel'.rt
      refine ok _ H' xs vs Ol v Q (fun p hp => rel'.ww hp) reps hs fun x H2 O same fresh rep nd2 => ?_
      refine post x H2 Os' O (rel'.grow same (fun a z => z.elim (fun z => .inl (.inl z)) fun z => .inr (fresh a z.2)) fun a z => ?_) ?_ (fun _ => nd2) (keep.grow same fun a z => .inr (fresh a z.2)) fun hp => ?_
      · rcases z with z | z
        · obtain ⟨o, e⟩ := hR a (.inl z)
          exact ⟨o, same a o e⟩
        · exact rep.there a z.2
      · refine rep.mono (fun a o e nw => ⟨e, fun z => nw ?_⟩) fun _ _ _ e => e
        rcases z with (z | z) | z
        · exact .inl (.inl (.inl z))
        · exact .inr z.2
        · exact .inl (.inr z)
      · obtain ⟨h1, h2, h3⟩ := pure hp
        exact ⟨h1, h2, h3.trans same⟩
theorem ve_fun {G : Gam} {X : Cx} {E : WX} {e : Expr} {os : List Op} {r : List V → Hp → VK → Prop} {sem : List Val → Option Val} {t : TE} (pe : PE X e t) (ht : ∀ σ H Q, nest G E os σ H (fun xs H' => r xs H' Q) → t σ H Q)
    (ok : ∀ (W : Addr → Prop) H xs vs Ol v Q, (∀ p, W p → ∃ o, H p = some o) → RepL G W H xs vs Ol → sem vs = some v → Made G W H v Q → r xs H Q) (wf : wfA os = true) : VE G X E (os.all (·.p)) true e (mFun sem (os.map Op.m)) :=
  PE.pre pe (fun_pre ht ok wf)

/-! ### names, constants -/
def mVar (i : Nat) : ME := fun ρ => match ρ[i]? with
  | some (some v) => .ok v ρ
  | _ => .bad
def mC (v : Val) : ME := fun ρ => .ok v ρ
/-- only what nobody can change any more -/
def mStab (m : ME) : ME := fun ρ => match m ρ with
  | .ok v ρ' => if v.fz = true then .ok v ρ' else .bad
  | .exc e ρ' => .exc e ρ'
  | .bad => .bad
def mFrz (i : Nat) : ME := fun ρ => match ρ[i]? with
  | some (some v) => .ok v.frz (ρ.set i (some v.frz))
  | _ => .bad
def mMov (i : Nat) : ME := fun ρ => match ρ[i]? with
  | some (some v) => .ok v (ρ.set i none)
  | _ => .bad
section
variable {G : Gam} {X : Cx} {E : WX} {e : Expr}
theorem ve_var {i : Nat} (h : PE X e (tVar i)) : VE G X E true false e (mVar i) := by
  refine PE.pre h fun σ H Q z => ?_
  obtain ⟨R, ρ, Os, rel, post⟩ := z
  unfold mVar at post
  cases hv : ρ[i]? with
  | none => rw [hv] at post; exact post.elim
  | some o =>
    cases o with
    | none => rw [hv] at post; exact post.elim
    | some v =>
      rw [hv] at post
      obtain ⟨x, hx, rep⟩ := rel.rep i v hv
      refine ⟨x, hx, post x H Os (Os i) (rel.weak fun a z => z.elim id fun z => by cases z.1) (rep.mono (fun a o e nw => ⟨e, fun z => nw (z.imp (fun z => z.elim id fun z => by cases z.1) id)⟩) fun _ _ _ e => e) (fun z => by cases z) (KeepE.refl.imp fun a z => by cases z.1) fun _ => ⟨rfl, rfl, fun _ _ e => e⟩⟩
theorem Post.stab {R : Addr → Prop} {σ : L2.St} {H : Hp} {Os : Nat → List Addr} {p s : Bool} {ρ : VEnv} {Q : VK} {m : ME} (post : Post G R E σ H Os p true ρ Q (mStab m ρ)) : Post G R E σ H Os p s ρ Q (m ρ) := by
  unfold mStab at post
  cases hm : m ρ with
  | bad => rw [hm] at post; exact post
  | exc e ρ' => rw [hm] at post; exact post
  | ok v ρ' =>
    rw [hm] at post
    dsimp only at post
    by_cases hf : v.fz = true
    · rw [if_pos hf] at post
      intro x H' Os' O rel rep nd keep pure
      have hO := rep.none_of_fz hf
      subst hO
      have hw : ∀ a, Rp R true [] a → Rp R s [] a := fun a z => z.elim .inl fun z => nomatch z.2
      exact post x H' Os' [] (rel.weak hw) (rep.mono (fun a o e nw => ⟨e, fun z => nw (z.imp (hw a) id)⟩) fun _ z => nomatch z) (fun _ => List.nodup_nil) (keep.imp fun a z => nomatch z.2) pure
    · rw [if_neg hf] at post
      exact post.elim
theorem ve_stab {p s : Bool} {m : ME} (h : VE G X E p s e m) : VE G X E p true e (mStab m) := PE.pre h fun σ H Q ⟨R, ρ, Os, rel, post⟩ => ⟨R, ρ, Os, rel, post.stab⟩
/-- a name's tree, out of its name's hands -/
theorem Rel.take {R : Addr → Prop} {H : Hp} {σ : L2.St} {ρ : VEnv} {Os : Nat → List Addr} (rel : Rel G R H σ ρ Os) {i : Nat} {v : Val} (hv : ρ[i]? = some (some v)) :
    ∃ x, σ[i]? = some (some x) ∧ Rel G (fun a => R a ∨ a ∈ Os i) H σ (ρ.set i none) (fun j => if j = i then [] else Os j) ∧ Rep G (WW (fun a => R a ∨ a ∈ Os i) (fun j => if j = i then [] else Os j)) H x v (Os i) := by
  obtain ⟨x, hx, rep⟩ := rel.rep i v hv
  have eqW : ∀ a, WW (fun a => R a ∨ a ∈ Os i) (fun j => if j = i then [] else Os j) a → WW R Os a := fun a z => by
    rcases z with (z | z) | ⟨j, z⟩
    · exact .inl z
    · exact .inr ⟨i, z⟩
    · by_cases hj : j = i
      · simp only [hj, if_true] at z; cases z
      · simp only [hj, if_false] at z; exact .inr ⟨j, z⟩
  have mono : ∀ {y : V} {u : Val} {O : List Addr}, Rep G (WW R Os) H y u O → Rep G (WW (fun a => R a ∨ a ∈ Os i) (fun j => if j = i then [] else Os j)) H y u O := fun r => r.mono (fun a o e nw => ⟨e, fun z => nw (eqW a z)⟩) fun _ _ _ e => e
  have hi : i < ρ.length := (List.getElem?_eq_some_iff.mp hv).1
  refine ⟨x, hx, ⟨by rw [List.length_set]; exact rel.len, fun j u hu => ?_, fun j hj => ?_, fun j => ?_, fun j k a ha hb => ?_, fun j a ha z => ?_, fun a z => ?_⟩, mono rep⟩
  · by_cases hj : j = i
    · subst hj; rw [List.getElem?_set_self hi] at hu; cases hu
    · rw [List.getElem?_set_ne (Ne.symm hj)] at hu
      obtain ⟨y, hy, r⟩ := rel.rep j u hu
      exact ⟨y, hy, by rw [if_neg hj]; exact mono r⟩
  · by_cases h : j = i
    · simp [h]
    · simp only [h, if_false]
      refine rel.nil j fun u hu => hj u ?_
      rw [List.getElem?_set_ne (Ne.symm h)]; exact hu
  · by_cases h : j = i
    · simp [h]
    · simp only [h, if_false]; exact rel.nd j
  · by_cases h : j = i
    · simp [h] at ha
    · by_cases h' : k = i
      · simp [h'] at hb
      · simp only [h, h', if_false] at ha hb; exact rel.dj j k a ha hb
  · by_cases h : j = i
    · simp [h] at ha
    · simp only [h, if_false] at ha
      rcases z with z | z
      · exact rel.dr j a ha z
      · exact h (rel.dj j i a ha z)
  · exact z.elim (rel.rt a) (rel.there a)
theorem ve_mov {i : Nat} (h : PE X e (tVar i)) : VE G X E false true e (mMov i) := by
  refine PE.pre h fun σ H Q z => ?_
  obtain ⟨R, ρ, Os, rel, post⟩ := z
  unfold mMov at post
  cases hv : ρ[i]? with
  | none => rw [hv] at post; exact post.elim
  | some o =>
    cases o with
    | none => rw [hv] at post; exact post.elim
    | some v =>
      rw [hv] at post
      obtain ⟨x, hx, rel', rep⟩ := rel.take hv
      have ef : (fun a => R a ∨ a ∈ Os i) = Rp R true (Os i) := funext fun a => propext ⟨fun z => z.imp id fun z => ⟨rfl, z⟩, fun z => z.imp id fun z => z.2⟩
      rw [ef] at rel' rep
      refine ⟨x, hx, post x H _ (Os i) rel' rep (fun _ => rel.nd i) (fun a o e nw => ⟨e, fun z => nw ?_, fun z => nw ⟨i, z.2⟩⟩) fun z => by cases z⟩
      obtain ⟨j, z⟩ := z
      by_cases h : j = i
      · simp [h] at z
      · simp only [h, if_false] at z; exact ⟨j, z⟩
/-- what a name holds is put there -/
theorem Rel.put {R : Addr → Prop} {H : Hp} {σ : L2.St} {ρ : VEnv} {Os : Nat → List Addr} {O : List Addr} {x : V} {v : Val} {i : Nat} (rel : Rel G (fun a => R a ∨ a ∈ O) H σ ρ Os) (rep : Rep G (WW (fun a => R a ∨ a ∈ O) Os) H x v O) (nd : O.Nodup) (hi : i < ρ.length) (hO : ∀ a ∈ O, ¬ R a) :
    Rel G R H (σ.set i (some x)) (ρ.set i (some v)) (fun j => if j = i then O else Os j) := by
  have eqW : ∀ a, WW R (fun j => if j = i then O else Os j) a → WW (fun a => R a ∨ a ∈ O) Os a := fun a z => by
    rcases z with z | ⟨j, z⟩
    · exact .inl (.inl z)
    · by_cases hj : j = i
      · simp only [hj, if_true] at z; exact .inl (.inr z)
      · simp only [hj, if_false] at z; exact .inr ⟨j, z⟩
  have mono : ∀ {y : V} {u : Val} {P : List Addr}, Rep G (WW (fun a => R a ∨ a ∈ O) Os) H y u P → Rep G (WW R (fun j => if j = i then O else Os j)) H y u P := fun r => r.mono (fun a o e nw => ⟨e, fun z => nw (eqW a z)⟩) fun _ _ _ e => e
  refine ⟨by rw [List.length_set, List.length_set]; exact rel.len, fun j u hu => ?_, fun j hj => ?_, fun j => ?_, fun j k a ha hb => ?_, fun j a ha z => ?_, fun a z => rel.rt a (.inl z)⟩
  · by_cases hj : j = i
    · subst hj
      rw [List.getElem?_set_self hi] at hu
      cases hu
      exact ⟨x, List.getElem?_set_self (by rw [rel.len]; exact hi), by rw [if_pos rfl]; exact mono rep⟩
    · rw [List.getElem?_set_ne (Ne.symm hj)] at hu
      obtain ⟨y, hy, r⟩ := rel.rep j u hu
      exact ⟨y, by rw [List.getElem?_set_ne (Ne.symm hj)]; exact hy, by rw [if_neg hj]; exact mono r⟩
  · by_cases h : j = i
    · subst h
      exact absurd (List.getElem?_set_self hi) (hj v)
    · simp only [h, if_false]
      refine rel.nil j fun u hu => hj u ?_
      rw [List.getElem?_set_ne (Ne.symm h)]; exact hu
  · by_cases h : j = i
    · simp only [h, if_true]; exact nd
    · simp only [h, if_false]; exact rel.nd j
  · by_cases h : j = i <;> by_cases h' : k = i
    · rw [h, h']
    · simp only [h, h', if_true, if_false] at ha hb; exact absurd (.inr ha) (rel.dr k a hb)
    · simp only [h, h', if_true, if_false] at ha hb; exact absurd (.inr hb) (rel.dr j a ha)
    · simp only [h, h', if_false] at ha hb; exact rel.dj j k a ha hb
  · by_cases h : j = i
    · simp only [h, if_true] at ha; exact hO a ha z
    · simp only [h, if_false] at ha; exact rel.dr j a ha (.inl z)
theorem ve_frz {i : Nat} (h : PE X e (tVar i)) : VE G X E false true e (mFrz i) := by
  refine PE.pre h fun σ H Q z => ?_
  obtain ⟨R, ρ, Os, rel, post⟩ := z
  unfold mFrz at post
  cases hv : ρ[i]? with
  | none => rw [hv] at post; exact post.elim
  | some o =>
    cases o with
    | none => rw [hv] at post; exact post.elim
    | some v =>
      rw [hv] at post
      dsimp only at post
      obtain ⟨x, hx, rel', rep⟩ := rel.take hv
      have hi : i < ρ.length := (List.getElem?_eq_some_iff.mp hv).1
      have e1 : ((fun j => if j = i then [] else if j = i then ([] : List Addr) else Os j) : Nat → List Addr) = fun j => if j = i then [] else Os j := funext fun j => by by_cases h : j = i <;> simp [h]
      have rep2 : Rep G (WW R fun j => if j = i then [] else Os j) H x v.frz [] := rep.freeze (fun a nw z => nw (z.imp .inl id)) fun a ha z => by
        rcases z with z | ⟨j, z⟩
        · exact rel.dr i a ha z
        · by_cases h : j = i
          · simp [h] at z
          · simp only [h, if_false] at z; exact h (rel.dj j i a z ha)
      have relw : Rel G R H σ (ρ.set i none) (fun j => if j = i then [] else Os j) := rel'.weak fun a z => .inl z
      have e0 : (fun a => R a ∨ a ∈ ([] : List Addr)) = R := funext fun a => propext ⟨fun z => z.elim id (fun z => nomatch z), Or.inl⟩
      have rel2 := Rel.put (O := []) (i := i) (v := v.frz) (by rw [e0]; exact relw) (by rw [e0]; exact rep2) List.nodup_nil (by rw [List.length_set]; exact hi) (fun _ z => nomatch z)
      rw [e1, List.set_set] at rel2
      have hσ : σ.set i (some x) = σ := by
        apply List.ext_getElem?
        intro j
        by_cases h : j = i
        · subst h; rw [List.getElem?_set_self (by rw [rel.len]; exact hi)]; exact hx.symm
        · rw [List.getElem?_set_ne (Ne.symm h)]
      rw [hσ] at rel2
      have hw : ∀ a, Rp R true [] a → R a := fun a z => z.elim id fun z => nomatch z.2
      refine ⟨x, hx, post x H _ [] (rel2.weak hw) (rep2.mono (fun a o e nw => ⟨e, fun z => nw (z.imp (hw a) id)⟩) fun _ z => nomatch z) (fun _ => List.nodup_nil) (fun a o e nw => ⟨e, fun z => nw ?_, fun z => nomatch z.2⟩) fun z => by cases z⟩
      obtain ⟨j, z⟩ := z
      by_cases h : j = i
      · simp [h] at z
      · simp only [h, if_false] at z; exact ⟨j, z⟩
theorem ve_c {x : V} {v : Val} (h : PE X e (tC x)) (r : ∀ W H, Rep G W H x v []) : VE G X E true true e (mC v) := by
  refine PE.pre h fun σ H Q z => ?_
  obtain ⟨R, ρ, Os, rel, post⟩ := z
  exact post x H Os [] (rel.weak fun a z => z.elim id fun z => nomatch z.2) (r _ _) (fun _ => List.nodup_nil) (KeepE.refl.imp fun a z => nomatch z.2) fun _ => ⟨rfl, rfl, fun _ _ e => e⟩
end
end VL
/-! VL, part D: operators, comparisons, subscripts, calls of what is built in. -/
namespace VL
open PySem L2

def OkF (G : Gam) (r : List V → Hp → VK → Prop) (sem : List Val → Option Val) : Prop :=
  ∀ (W : Addr → Prop) (H : Hp) xs vs Ol v Q, (∀ p, W p → ∃ o, H p = some o) → RepL G W H xs vs Ol → sem vs = some v → Made G W H v Q → r xs H Q
def r2 (r : V → V → Hp → VK → Prop) : List V → Hp → VK → Prop := fun xs H Q => match xs with
  | [x, y] => r x y H Q
  | _ => False
def r1 (r : V → Hp → VK → Prop) : List V → Hp → VK → Prop := fun xs H Q => match xs with
  | [x] => r x H Q
  | _ => False
theorem fresh_nw {W : Addr → Prop} {H : Hp} (w : ∀ p, W p → ∃ o, H p = some o) : ∀ p, H p = none → ¬ W p := fun p hp z => by
  obtain ⟨o, e⟩ := w p z
  rw [hp] at e; cases e

theorem wf2 {p1 s1 p2 s2 : Bool} {m1 m2 : ME} (h : (s1 || p2) = true) : wfA [⟨p1, s1, m1⟩, ⟨p2, s2, m2⟩] = true := by
  cases s1 <;> cases p2 <;> cases s2 <;> first | rfl | cases h
theorem wf1 {p1 s1 : Bool} {m1 : ME} : wfA [⟨p1, s1, m1⟩] = true := by
  cases s1 <;> rfl
section
variable {G : Gam} {X : Cx} {E : WX} {a b : Expr} {pos : Pos} {p1 s1 p2 s2 : Bool} {m1 m2 : ME}
theorem ve_bin {op : Operator} {r : R2} {sem : List Val → Option Val} (ho : OpR X (binaryOp op) r) (ok : OkF G (r2 r) sem) (h1 : VE G X E p1 s1 a m1) (h2 : VE G X E p2 s2 b m2) (wf : (s1 || p2) = true := by rfl) :
    VE G X E (p1 && p2) true (.BinOp a op b pos) (mFun sem [m1, m2]) := by
  have h := ve_fun (G := G) (E := E) (os := [⟨p1, s1, m1⟩, ⟨p2, s2, m2⟩]) (r := r2 r) (pe_op (pos := pos) ho h1 h2) (fun σ H Q z => z) ok (wf2 wf)
  simpa using h
theorem ve_un {op : UnaryOp} {r : V → Hp → VK → Prop} {sem : List Val → Option Val} (ho : UnR X (unaryOp op) r) (ok : OkF G (r1 r) sem) (h1 : VE G X E p1 s1 a m1) : VE G X E p1 true (.UnaryOp op a pos) (mFun sem [m1]) := by
  have h := ve_fun (G := G) (E := E) (os := [⟨p1, s1, m1⟩]) (r := r1 r) (pe_un (pos := pos) ho h1) (fun σ H Q z => z) ok wf1
  simpa using h
theorem ve_cmp {op : CmpOp} {r : R2} {sem : List Val → Option Val} (ho : OpR X (compareOp op) r) (ok : OkF G (r2 r) sem) (h1 : VE G X E p1 s1 a m1) (h2 : VE G X E p2 s2 b m2) (hm : behindInMarks op b = false) (wf : (s1 || p2) = true := by rfl) :
    VE G X E (p1 && p2) true (.Compare a [op] [b] pos) (mFun sem [m1, m2]) := by
  have h := ve_fun (G := G) (E := E) (os := [⟨p1, s1, m1⟩, ⟨p2, s2, m2⟩]) (r := r2 r) (pe_cmpR (pos := pos) ho h1 h2 hm) (fun σ H Q z => z) ok (wf2 wf)
  simpa using h
theorem ve_ix {r : R2} {sem : List Val → Option Val} (hr : IxR X r) (ok : OkF G (r2 r) sem) (h1 : VE G X E p1 s1 a m1) (h2 : VE G X E p2 s2 b m2) (hs : PlainIx b) (wf : (s1 || p2) = true := by rfl) :
    VE G X E (p1 && p2) true (.Subscript a b pos) (mFun sem [m1, m2]) := by
  have h := ve_fun (G := G) (E := E) (os := [⟨p1, s1, m1⟩, ⟨p2, s2, m2⟩]) (r := r2 r) (pe_ix (pos := pos) hr h1 h2 hs) (fun σ H Q z => z) ok (wf2 wf)
  simpa using h

/-! ### arguments -/
def VAs (G : Gam) (X : Cx) (E : WX) (es : List Expr) (os : List Op) : Prop := PA X es (nest G E os)
theorem va_nil : VAs G X E [] [] := PA.pre pa_nil fun σ H Q h => h
theorem va_cons {e : Expr} {es : List Expr} {p s : Bool} {m : ME} {os : List Op} (h : VE G X E p s e m) (t : VAs G X E es os) (hs : starEach (e :: es) X.env = (false, eval e X.env) :: starEach es X.env := by rfl) : VAs G X E (e :: es) (⟨p, s, m⟩ :: os) :=
  PA.pre (pa_cons h t hs) fun σ H Q h => h
/-- f(e, ..), f a built-in function -/
theorem ve_callB {id : String} {x : Str} {p : Pos} {e : Expr} {es : List Expr} {os : List Op} {r : List V → Hp → VK → Prop} {sem : List Val → Option Val} (hc : CallR X (.builtin id) r) (ok : OkF G r sem) (hg : Gl X x) (hm : X.mg x = none) (hv : bootBuiltins x = some (.builtin id)) (ha : VAs G X E (e :: es) os) (wf : wfA os = true := by rfl)
    (hn : x ≠ "__name__" := by decide) (hdb : (x == ("__debug__" : Str)) = false := by decide)
    (he : starEach (e :: es) X.env = (false, eval e X.env) :: starEach es X.env := by rfl) (hpl : (backTo pos (starEach es X.env)).any (·.1) = false := by rfl) : VE G X E (os.all (·.p)) true (.Call (.Name x p) (e :: es) [] pos) (mFun sem (os.map Op.m)) :=
  ve_fun (pe_callB hc hg hm hv ha hn hdb he hpl) (fun σ H Q h => h) ok wf
theorem ve_callTy {T : String} {x : Str} {p : Pos} {e : Expr} {es : List Expr} {os : List Op} {r : List V → Hp → VK → Prop} {sem : List Val → Option Val} (hc : CallR X (.type T) r) (ok : OkF G r sem) (hg : Gl X x) (hm : X.mg x = none) (hv : bootBuiltins x = some (.type T)) (ha : VAs G X E (e :: es) os) (wf : wfA os = true := by rfl)
    (hn : x ≠ "__name__" := by decide) (hdb : (x == ("__debug__" : Str)) = false := by decide)
    (he : starEach (e :: es) X.env = (false, eval e X.env) :: starEach es X.env := by rfl) (hpl : (backTo pos (starEach es X.env)).any (·.1) = false := by rfl) : VE G X E (os.all (·.p)) true (.Call (.Name x p) (e :: es) [] pos) (mFun sem (os.map Op.m)) :=
  ve_fun (pe_callTy hc hg hm hv ha hn hdb he hpl) (fun σ H Q h => h) ok wf
end

/-! ### lists of flat things -/
section
variable {G : Gam} {W : Addr → Prop} {H : Hp}
theorem Reps.ints : ∀ {ns : List Int} {xs : List V} {O : List Addr}, Reps G W H xs (ns.map Val.int) O → xs = ns.map V.int ∧ O = []
  | [], xs, O, r => by cases r; exact ⟨rfl, rfl⟩
  | n :: ns, xs, O, r => by
    cases r with
    | cons r t =>
      cases r
      obtain ⟨rfl, rfl⟩ := Reps.ints t
      exact ⟨rfl, rfl⟩
theorem Reps.of_ints : ∀ (ns : List Int), Reps G W H (ns.map V.int) (ns.map Val.int) []
  | [] => .nil
  | n :: ns => .cons (O := []) (.int n) (Reps.of_ints ns)
theorem Reps.fz {xs : List V} {vs : List Val} {O : List Addr} (r : Reps G W H xs vs O) (h : fzs vs = true) : Reps G W H xs vs [] := by
  have e := r.none_of_fz h
  subst e
  exact r
theorem Rep.fz' {x : V} {v : Val} {O : List Addr} (r : Rep G W H x v O) (h : v.fz = true) : Rep G W H x v [] := by
  have e := r.none_of_fz h
  subst e
  exact r
theorem Reps.fzs_of {xs : List V} {vs : List Val} (r : Reps G W H xs vs []) : fzs vs = true := r.fz_of_none rfl
end

/-! ### numbers -/
def mulOk (i j : Int) : Prop := i.natAbs.log2 + j.natAbs.log2 < 1000000 ∨ ((-(2 ^ 64) < i ∧ i < 2 ^ 64) ∨ (-(2 ^ 64) < j ∧ j < 2 ^ 64))
instance (i j : Int) : Decidable (mulOk i j) := by unfold mulOk; infer_instance
def divOk (j : Int) : Prop := 0 < j ∧ j.natAbs.log2 < 9000
instance (j : Int) : Decidable (divOk j) := by unfold divOk; infer_instance
def powOk (i j : Int) : Prop := 0 ≤ j ∧ j ≤ 1000000 ∧ i.natAbs < 2 ^ 64
instance (i j : Int) : Decidable (powOk i j) := by unfold powOk; infer_instance
def semAdd : List Val → Option Val
  | [.int a, .int b] => some (.int (a + b))
  | [.str a, .str b] => if a.length + b.length ≤ 16777216 then some (.str (a ++ b)) else none
  | [.lst _ a, .lst _ b] => if a.length + b.length ≤ 16777216 ∧ fzs a = true ∧ fzs b = true then some (.lst true (a ++ b)) else none
  | [.tup a, .tup b] => if a.length + b.length ≤ 16777216 ∧ fzs a = true ∧ fzs b = true then some (.tup (a ++ b)) else none
  | _ => none
def semSub : List Val → Option Val
  | [.int a, .int b] => some (.int (a - b))
  | _ => none
def semMul : List Val → Option Val
  | [.int a, .int b] => if mulOk a b then some (.int (a * b)) else none
  | [.lst _ a, .int k] => if -(2 ^ 63) ≤ k ∧ k < 2 ^ 63 ∧ a.length * k.toNat ≤ 16777216 ∧ fzs a = true then some (.lst true (List.replicate k.toNat a).flatten) else none
  | [.tup a, .int k] => if a ≠ [] ∧ 2 ≤ k ∧ k ≤ 1000 ∧ a.length ≤ 1000 ∧ fzs a = true then some (.tup (List.replicate k.toNat a).flatten) else none
  | _ => none
def semDiv : List Val → Option Val
  | [.int a, .int b] => if divOk b then some (.int (a / b)) else none
  | _ => none
def semMod : List Val → Option Val
  | [.int a, .int b] => if 0 < b then some (.int (a % b)) else none
  | _ => none
def semPow : List Val → Option Val
  | [.int a, .int b] => if powOk a b then some (.int (a ^ b.toNat)) else none
  | _ => none
def semNeg : List Val → Option Val
  | [.int a] => some (.int (-a))
  | _ => none
theorem RepL.inv2 {G : Gam} {W : Addr → Prop} {H : Hp} {xs : List V} {a b : Val} {Ol : List (List Addr)} (r : RepL G W H xs [a, b] Ol) : ∃ x y O O', xs = [x, y] ∧ Rep G W H x a O ∧ Rep G W H y b O' := by
  cases r with
  | cons r t =>
    cases t with
    | cons r' t =>
      cases t
      exact ⟨_, _, _, _, rfl, r, r'⟩
theorem RepL.inv1 {G : Gam} {W : Addr → Prop} {H : Hp} {xs : List V} {a : Val} {Ol : List (List Addr)} (r : RepL G W H xs [a] Ol) : ∃ x O, xs = [x] ∧ Rep G W H x a O := by
  cases r with
  | cons r t =>
    cases t
    exact ⟨_, _, rfl, r⟩
theorem sz_le {n : Nat} (h : n ≤ 16777216) : n ≤ sizeLine := by rw [sizeLine_eq]; exact h
theorem le_sz {n : Nat} (h : n ≤ sizeLine) : n ≤ 16777216 := by rw [sizeLine_eq] at h; exact h
section
variable {G : Gam} {X : Cx}
def rAddV (K : PySem.W.Frag) : R2 := fun x y H Q => rI0 (fun i j => .int (i + j)) x y H Q ∨ ((∃ i j, x = .str i ∧ y = .str j ∧ i.length + j.length ≤ sizeLine ∧ Q (.str (i ++ j)) H) ∨ (rCat x y H Q ∨ rCatA K x y H Q))
theorem op_addV (hK : X.K = G.K) : OpR X (binaryOp .Add) (rAddV G.K) := by
  rw [← hK]
  exact op_add.or (op_add_str.or (op_cat.or op_catA))
theorem rep_tupT {W : Addr → Prop} {H : Hp} {x : V} {vs : List Val} {O : List Addr} (r : Rep G W H x (.tup vs) O) : ∃ a xs, x = .ref a ∧ SqT G.K H a xs ∧ Reps G W H xs vs O := by
  cases r with
  | tup h r => exact ⟨_, _, rfl, .inl (.inl h.1), r⟩
theorem rep_lstL {W : Addr → Prop} {H : Hp} {x : V} {o : Bool} {vs : List Val} {O : List Addr} (r : Rep G W H x (.lst o vs) O) : ∃ a xs O', x = .ref a ∧ H a = some (.lst xs) ∧ Reps G W H xs vs O' := by
  cases r with
  | lstO h r => exact ⟨_, _, _, rfl, h, r⟩
  | lstF h r => exact ⟨_, _, _, rfl, h.1, r⟩
theorem ok_add : OkF G (r2 (rAddV G.K)) semAdd := by
  intro W H xs vs Ol v Q w r hs m
  unfold semAdd at hs
  split at hs
  · obtain ⟨x, y, O, O', rfl, r1, r2⟩ := r.inv2
    cases r1; cases r2; cases hs
    exact .inl ⟨_, _, rfl, rfl, m.same (.int _)⟩
  · obtain ⟨x, y, O, O', rfl, r1, r2⟩ := r.inv2
    cases r1; cases r2
    split at hs
    · rename_i h
      cases hs
      exact .inr (.inl ⟨_, _, rfl, rfl, sz_le h, m.same (.str _)⟩)
    · cases hs
  · obtain ⟨x, y, O, O', rfl, r1, r2⟩ := r.inv2
    split at hs
    · rename_i h
      cases hs
      obtain ⟨a, xs, O1, rfl, e1, q1⟩ := rep_lstL r1
      obtain ⟨b, ys, O2, rfl, e2, q2⟩ := rep_lstL r2
      exact .inr (.inr (.inl ⟨a, b, xs, ys, rfl, rfl, e1, e2, sz_le (by rw [q1.length, q2.length]; exact h.1), m.lst (by simpa using (q1.fz h.2.1).append (q2.fz h.2.2))⟩))
    · cases hs
  · obtain ⟨x, y, O, O', rfl, r1, r2⟩ := r.inv2
    split at hs
    · rename_i h
      cases hs
      obtain ⟨a, xs, rfl, e1, q1⟩ := rep_tupT r1
      obtain ⟨b, ys, rfl, e2, q2⟩ := rep_tupT r2
      refine .inr (.inr (.inr ⟨a, b, xs, ys, rfl, rfl, e1, e2, sz_le (by rw [q1.length, q2.length]; exact h.1), fun hx => ?_, fun _ hy => ?_, fun _ _ => m.tup (by simpa using (q1.fz h.2.1).append (q2.fz h.2.2)) (fresh_nw w)⟩))
      · subst hx
        cases q1
        exact m.same (r2.fz' (by simpa [Val.fz] using h.2.2))
      · subst hy
        cases q2
        rw [List.append_nil] at m
        exact m.same (r1.fz' (by simpa [Val.fz] using h.2.1))
    · cases hs
  · cases hs
theorem ok_sub : OkF G (r2 (rI0 fun i j => .int (i - j))) semSub := by
  intro W H xs vs Ol v Q w r hs m
  unfold semSub at hs
  split at hs
  · obtain ⟨x, y, O, O', rfl, r1, r2⟩ := r.inv2
    cases r1; cases r2; cases hs
    exact ⟨_, _, rfl, rfl, m.same (.int _)⟩
  · cases hs
def rMulV (K : PySem.W.Frag) : R2 := fun x y H Q => rI CMulW (fun i j => .int (i * j)) x y H Q ∨ (rI CMul (fun i j => .int (i * j)) x y H Q ∨ (rRep x y H Q ∨ rRepT K x y H Q))
theorem op_mulV (hK : X.K = G.K) : OpR X (binaryOp .Mult) (rMulV G.K) := by
  rw [← hK]
  exact op_mulW.or (op_mul.or (op_rep.or op_repT))
theorem Reps.rep {W : Addr → Prop} {H : Hp} {xs : List V} {vs : List Val} (r : Reps G W H xs vs []) : ∀ n : Nat, Reps G W H (List.replicate n xs).flatten (List.replicate n vs).flatten []
  | 0 => by simpa using Reps.nil
  | n + 1 => by
    rw [List.replicate_succ, List.replicate_succ, List.flatten_cons, List.flatten_cons]
    exact r.append (Reps.rep r n)
theorem ok_mul : OkF G (r2 (rMulV G.K)) semMul := by
  intro W H xs vs Ol v Q w r hs m
  unfold semMul at hs
  split at hs
  · obtain ⟨x, y, O, O', rfl, r1, r2⟩ := r.inv2
    cases r1; cases r2
    split at hs
    · rename_i h
      cases hs
      rcases h with h | h
      · exact .inl ⟨_, _, rfl, rfl, h, m.same (.int _)⟩
      · exact .inr (.inl ⟨_, _, rfl, rfl, h, m.same (.int _)⟩)
    · cases hs
  · obtain ⟨x, y, O, O', rfl, r1, r2⟩ := r.inv2
    cases r2
    split at hs
    · rename_i h
      cases hs
      obtain ⟨a, xs, O1, rfl, e1, q1⟩ := rep_lstL r1
      exact .inr (.inr (.inl ⟨a, _, xs, rfl, rfl, e1, h.1, h.2.1, sz_le (by rw [q1.length]; exact h.2.2.1), m.lst (Reps.rep (q1.fz h.2.2.2) _)⟩))
    · cases hs
  · obtain ⟨x, y, O, O', rfl, r1, r2⟩ := r.inv2
    cases r2
    split at hs
    · rename_i h
      cases hs
      obtain ⟨a, xs, rfl, e1, q1⟩ := rep_tupT r1
      refine .inr (.inr (.inr ⟨a, _, xs, rfl, rfl, e1, fun z => ?_, h.2.1, h.2.2.1, by rw [q1.length]; exact h.2.2.2.1, m.tup (Reps.rep (q1.fz h.2.2.2.2) _) (fresh_nw w)⟩))
      subst z
      cases q1
      exact h.1 rfl
    · cases hs
  · cases hs
theorem ok_div : OkF G (r2 (rI CDivW fun i j => .int (i / j))) semDiv := by
  intro W H xs vs Ol v Q w r hs m
  unfold semDiv at hs
  split at hs
  · obtain ⟨x, y, O, O', rfl, r1, r2⟩ := r.inv2
    cases r1; cases r2
    split at hs
    · rename_i h
      cases hs
      exact ⟨_, _, rfl, rfl, h, m.same (.int _)⟩
    · cases hs
  · cases hs
theorem ok_mod : OkF G (r2 (rI (fun _ j => 0 < j) fun i j => .int (i % j))) semMod := by
  intro W H xs vs Ol v Q w r hs m
  unfold semMod at hs
  split at hs
  · obtain ⟨x, y, O, O', rfl, r1, r2⟩ := r.inv2
    cases r1; cases r2
    split at hs
    · rename_i h
      cases hs
      exact ⟨_, _, rfl, rfl, h, m.same (.int _)⟩
    · cases hs
  · cases hs
theorem ok_pow : OkF G (r2 (rI CPow fun i j => .int (i ^ j.toNat))) semPow := by
  intro W H xs vs Ol v Q w r hs m
  unfold semPow at hs
  split at hs
  · obtain ⟨x, y, O, O', rfl, r1, r2⟩ := r.inv2
    cases r1; cases r2
    split at hs
    · rename_i h
      cases hs
      exact ⟨_, _, rfl, rfl, h, m.same (.int _)⟩
    · cases hs
  · cases hs
theorem ok_neg : OkF G (r1 (rU fun i => .int (-i))) semNeg := by
  intro W H xs vs Ol v Q w r hs m
  unfold semNeg at hs
  split at hs
  · obtain ⟨x, O, rfl, r1⟩ := r.inv1
    cases r1; cases hs
    exact ⟨_, rfl, m.same (.int _)⟩
  · cases hs
end

/-! ### comparisons -/
def semCmp (f : Int → Int → Bool) : List Val → Option Val
  | [.int a, .int b] => some (.bl (f a b))
  | _ => none
theorem ok_cmp {G : Gam} {f : Int → Int → Bool} : OkF G (r2 (rI0 fun i j => .bl (f i j))) (semCmp f) := by
  intro W H xs vs Ol v Q w r hs m
  unfold semCmp at hs
  split at hs
  · obtain ⟨x, y, O, O', rfl, r1, r2⟩ := r.inv2
    cases r1; cases r2; cases hs
    exact ⟨_, _, rfl, rfl, m.same (.bl _)⟩
  · cases hs
mutual
/-- as plain data -/
def toD : Val → Option PyData
  | .non => some .none
  | .bl b => some (.bool b)
  | .int i => some (.int i)
  | .str x => some (.str x)
  | .tup xs => match toDs xs with
    | some ds => some (.tuple ds)
    | none => none
  | .lst _ xs => match toDs xs with
    | some ds => some (.list ds)
    | none => none
  | _ => none
def toDs : List Val → Option (List PyData)
  | [] => some []
  | x :: xs => match toD x, toDs xs with
    | some d, some ds => some (d :: ds)
    | _, _ => none
end
section
variable {G : Gam} {W : Addr → Prop} {H : Hp}
mutual
theorem Rep.dp {x : V} {v : Val} {O : List Addr} {d : PyData} (r : Rep G W H x v O) (h : toD v = some d) : Dp G.K H x d := by
  cases r with
  | non => simp only [toD] at h; cases h; exact .non
  | bl b => simp only [toD] at h; cases h; exact .bl b
  | int i => simp only [toD] at h; cases h; exact .int i
  | str x => simp only [toD] at h; cases h; exact .str x
  | tup h' r =>
    simp only [toD] at h
    split at h
    · rename_i ds hd
      cases h
      exact .tup (.inl (.inl h'.1)) (r.dp hd)
    · cases h
  | lstO h' r =>
    simp only [toD] at h
    split at h
    · rename_i ds hd
      cases h
      exact .lst (.inl (.inl h')) (r.dp hd)
    · cases h
  | lstF h' r =>
    simp only [toD] at h
    split at h
    · rename_i ds hd
      cases h
      exact .lst (.inl (.inl h'.1)) (r.dp hd)
    · cases h
  | _ => simp only [toD] at h; cases h
theorem Reps.dp {xs : List V} {vs : List Val} {O : List Addr} {ds : List PyData} (r : Reps G W H xs vs O) (h : toDs vs = some ds) : DpAll G.K H xs ds := by
  cases r with
  | nil => simp only [toDs] at h; cases h; exact .nil
  | cons r t =>
    simp only [toDs] at h
    split at h
    · rename_i d ds h1 h2
      cases h
      exact .cons (r.dp h1) (t.dp h2)
    · cases h
end
end
/-- == -/
def eqD (a b : Val) : Option Bool := match toD a, toD b with
  | some d, some e => if SeqAt.shaped d = true ∧ SeqAt.shaped e = true then some (PyData.eqv d e) else none
  | _, _ => none
def semEq : List Val → Option Val
  | [a, b] => match eqD a b with
    | some c => some (.bl c)
    | none => none
  | _ => none
def semNe : List Val → Option Val
  | [a, b] => match eqD a b with
    | some c => some (.bl (!c))
    | none => none
  | _ => none
section
variable {G : Gam} {X : Cx}
theorem eqD_some {a b : Val} {c : Bool} (h : eqD a b = some c) : ∃ d e, toD a = some d ∧ toD b = some e ∧ SeqAt.shaped d = true ∧ SeqAt.shaped e = true ∧ c = PyData.eqv d e := by
  unfold eqD at h
  split at h
  · rename_i d e h1 h2
    split at h
    · rename_i hs
      cases h
      exact ⟨d, e, h1, h2, hs.1, hs.2, rfl⟩
    · cases h
  · cases h
theorem ok_eq : OkF G (r2 (rEqD G.K)) semEq := by
  intro W H xs vs Ol v Q w r hs m
  unfold semEq at hs
  split at hs
  · obtain ⟨x, y, O, O', rfl, r1, r2⟩ := r.inv2
    split at hs
    · rename_i c hc
      cases hs
      obtain ⟨d, e, h1, h2, h3, h4, rfl⟩ := eqD_some hc
      exact ⟨d, e, r1.dp h1, r2.dp h2, h3, h4, m.same (.bl _)⟩
    · cases hs
  · cases hs
theorem ok_ne : OkF G (r2 (rNeD G.K)) semNe := by
  intro W H xs vs Ol v Q w r hs m
  unfold semNe at hs
  split at hs
  · obtain ⟨x, y, O, O', rfl, r1, r2⟩ := r.inv2
    split at hs
    · rename_i c hc
      cases hs
      obtain ⟨d, e, h1, h2, h3, h4, rfl⟩ := eqD_some hc
      exact ⟨d, e, r1.dp h1, r2.dp h2, h3, h4, m.same (.bl _)⟩
    · cases hs
  · cases hs
end
end VL
/-! VL, part E: subscripts, tests, what is asked of one thing only if another says so, displays, slices. -/
namespace VL
open PySem L2

/-! ### when two values are the same tree -/
mutual
def Val.beq : Val → Val → Bool
  | .non, .non => true
  | .bl a, .bl b => a == b
  | .int a, .int b => a == b
  | .str a, .str b => decide (a = b)
  | .ty a, .ty b => a == b
  | .cn a, .cn b => a == b
  | .tup a, .tup b => beqs a b
  | .lst o a, .lst p b => o == p && beqs a b
  | .dct o d ks xs, .dct p e ls ys => o == p && (decide (d = e) && (beqs ks ls && beqs xs ys))
  | .obj o C fs xs, .obj p D gs ys => o == p && (C == D && (decide (fs = gs) && beqs xs ys))
  | .exn C fs xs, .exn D gs ys => C == D && (decide (fs = gs) && beqs xs ys)
  | .scr a, .scr b => decide (a = b)
  | .wdk ks xs, .wdk ls ys => beqs ks ls && beqs xs ys
  | .wtp a, .wtp b => beqs a b
  | .fn a, .fn b => a == b
  | _, _ => false
def beqs : List Val → List Val → Bool
  | [], [] => true
  | a :: l, b :: r => a.beq b && beqs l r
  | _, _ => false
end
mutual
theorem Val.beq_eq : ∀ (a b : Val), a.beq b = true → a = b
  | .non, b, h => by cases b <;> simp_all [Val.beq]
  | .bl a, b, h => by cases b <;> simp_all [Val.beq]
  | .int a, b, h => by cases b <;> simp_all [Val.beq]
  | .str a, b, h => by cases b <;> simp_all [Val.beq]
  | .ty a, b, h => by cases b <;> simp_all [Val.beq]
  | .cn a, b, h => by cases b <;> simp_all [Val.beq]
  | .fn a, b, h => by cases b <;> simp_all [Val.beq]
  | .scr a, b, h => by cases b <;> simp_all [Val.beq]
  | .tup a, b, h => by
    cases b <;> simp only [Val.beq, Bool.false_eq_true] at h
    rw [beqs_eq _ _ h]
  | .wtp a, b, h => by
    cases b <;> simp only [Val.beq, Bool.false_eq_true] at h
    rw [beqs_eq _ _ h]
  | .lst o a, b, h => by
    cases b <;> simp only [Val.beq, Bool.false_eq_true, Bool.and_eq_true, beq_iff_eq] at h
    rw [h.1, beqs_eq _ _ h.2]
  | .dct o d ks xs, b, h => by
    cases b <;> simp only [Val.beq, Bool.false_eq_true, Bool.and_eq_true, beq_iff_eq, decide_eq_true_eq] at h
    rw [h.1, h.2.1, beqs_eq _ _ h.2.2.1, beqs_eq _ _ h.2.2.2]
  | .obj o C fs xs, b, h => by
    cases b <;> simp only [Val.beq, Bool.false_eq_true, Bool.and_eq_true, beq_iff_eq, decide_eq_true_eq] at h
    rw [h.1, h.2.1, h.2.2.1, beqs_eq _ _ h.2.2.2]
  | .exn C fs xs, b, h => by
    cases b <;> simp only [Val.beq, Bool.false_eq_true, Bool.and_eq_true, beq_iff_eq, decide_eq_true_eq] at h
    rw [h.1, h.2.1, beqs_eq _ _ h.2.2]
  | .wdk ks xs, b, h => by
    cases b <;> simp only [Val.beq, Bool.false_eq_true, Bool.and_eq_true] at h
    rw [beqs_eq _ _ h.1, beqs_eq _ _ h.2]
theorem beqs_eq : ∀ (a b : List Val), beqs a b = true → a = b
  | [], b, h => by cases b <;> simp_all [beqs]
  | x :: l, b, h => by
    cases b with
    | nil => simp [beqs] at h
    | cons y r =>
      simp only [beqs, Bool.and_eq_true] at h
      rw [Val.beq_eq _ _ h.1, beqs_eq _ _ h.2]
end
mutual
theorem Val.beq_refl : ∀ (a : Val), a.beq a = true
  | .non | .bl _ | .int _ | .str _ | .ty _ | .cn _ | .scr _ | .fn _ => by simp [Val.beq]
  | .tup a => by simp only [Val.beq]; exact beqs_refl a
  | .wtp a => by simp only [Val.beq]; exact beqs_refl a
  | .lst o a => by simp [Val.beq, beqs_refl a]
  | .dct o d ks xs => by simp [Val.beq, beqs_refl ks, beqs_refl xs]
  | .obj o C fs xs => by simp [Val.beq, beqs_refl xs]
  | .exn C fs xs => by simp [Val.beq, beqs_refl xs]
  | .wdk ks xs => by simp [Val.beq, beqs_refl ks, beqs_refl xs]
theorem beqs_refl : ∀ (a : List Val), beqs a a = true
  | [] => by simp [beqs]
  | x :: l => by simp [beqs, Val.beq_refl x, beqs_refl l]
end
instance : DecidableEq Val := fun a b => if h : a.beq b = true then .isTrue (Val.beq_eq a b h) else .isFalse fun e => h (by rw [e]; exact Val.beq_refl b)

/-! ### dicts -/
def lookK (k : Val) : List Val → List Val → Option Val
  | l :: ks, v :: vs => if l = k then some v else lookK k ks vs
  | _, _ => none
/-- a value that may be a key of a dict -/
def isKey : DK → Val → Bool
  | .k, .int _ => true
  | .k, .str _ => true
  | .t, .tup xs => xs.all fun x => match x with | .int _ => true | .str _ => true | _ => false
  | _, _ => false
theorem ofKey_inj {k l : Key} (h : ofKey k = ofKey l) : k = l := by
  cases k <;> cases l <;> simp [ofKey] at h <;> rw [h]
theorem ofKey_map_inj : ∀ {k l : List Key}, k.map ofKey = l.map ofKey → k = l
  | [], [], _ => rfl
  | [], _ :: _, h => by simp at h
  | _ :: _, [], h => by simp at h
  | a :: k, b :: l, h => by
    simp only [List.map_cons, List.cons.injEq] at h
    rw [ofKey_inj h.1, ofKey_map_inj h.2]
section
variable {G : Gam} {W : Addr → Prop} {H : Hp}
/-- what is found at a key, in the tree and in the heap -/
theorem look_of {κ : Type} [DecidableEq κ] {f : κ → Val} (inj : ∀ a b, f a = f b → a = b) (k : κ) : ∀ {kvs : List (κ × V)} {vs : List Val} {O : List Addr}, Reps G W H (kvs.map (·.2)) vs O →
    match lookK (f k) (kvs.map fun p => f p.1) vs with
    | some v => ∃ x O', valV kvs k = some x ∧ Rep G W H x v O' ∧ ∀ a ∈ O', a ∈ O
    | none => valV kvs k = none
  | [], vs, O, r => by
    cases r
    simp [lookK, valV]
  | p :: kvs, vs, O, r => by
    cases r with
    | @cons x v _ vs' O1 O2 r t =>
      simp only [List.map_cons, lookK]
      by_cases h : f p.1 = f k
      · rw [if_pos h]
        have e := inj _ _ h
        exact ⟨p.2, O1, valV_pos e, r, fun a ha => List.mem_append_left _ ha⟩
      · rw [if_neg h]
        have e : ¬ p.1 = k := fun z => h (by rw [z])
        have ih := look_of inj k t
        cases hv : lookK (f k) (kvs.map fun p => f p.1) vs' with
        | some v' =>
          rw [hv] at ih
          obtain ⟨x', O', e1, r', s⟩ := ih
          exact ⟨x', O', by rw [valV_neg e]; exact e1, r', fun a ha => List.mem_append_right _ (s a ha)⟩
        | none =>
          rw [hv] at ih
          dsimp only
          rw [valV_neg e]; exact ih
theorem isKey_k {v : Val} {x : V} {O : List Addr} (h : isKey .k v = true) (r : Rep G W H x v O) : ∃ k : Key, v = ofKey k ∧ x = kV k := by
  cases r <;> simp [isKey] at h
  · exact ⟨.inl _, rfl, rfl⟩
  · exact ⟨.inr _, rfl, rfl⟩
theorem isKeys {vs : List Val} (h : (vs.all fun x => match x with | .int _ => true | .str _ => true | _ => false) = true) : ∀ {xs : List V} {O : List Addr}, Reps G W H xs vs O → ∃ ks : List Key, vs = ks.map ofKey ∧ xs = ks.map kV := by
  induction vs with
  | nil => intro xs O r; cases r; exact ⟨[], rfl, rfl⟩
  | cons v vs ih =>
    intro xs O r
    simp only [List.all_cons, Bool.and_eq_true] at h
    cases r with
    | cons r t =>
      obtain ⟨ks, e1, e2⟩ := ih h.2 t
      obtain ⟨k, e3, e4⟩ := isKey_k (G := G) (W := W) (H := H) (v := v) (by have := h.1; cases v <;> simp_all [isKey]) r
      exact ⟨k :: ks, by simp [e1, e3], by simp [e2, e4]⟩
end

/-! ### subscripts -/
def semIx : List Val → Option Val
  | [.lst _ xs, .int i] => match atI xs i with
    | some v => if v.fz = true then some v else none
    | none => none
  | [.tup xs, .int i] => match atI xs i with
    | some v => if v.fz = true then some v else none
    | none => none
  | [.wtp xs, .int i] => match atI xs i with
    | some v => some v
    | none => none
  | [.scr ns, .int i] => match atI ns i with
    | some n => some (.int n)
    | none => none
  | [.str z, .int i] => if z.length ≤ 16777216 then (match atI z.cps.toList i with
    | some c => some (.str ⟨#[c]⟩)
    | none => none) else none
  | [.dct _ d ks vs, k] => if isKey d k = true then (match lookK k ks vs with
    | some v => if v.fz = true then some v else none
    | none => none) else none
  | [.wdk ks vs, .str z] => match lookK (.str z) ks vs with
    | some v => if v.fz = true then some v else none
    | none => none
  | _ => none
section
variable {G : Gam} {X : Cx}
def rIxDG : R2 := fun x y H Q => ∃ a v, x = .ref a ∧ DGet H a y (some v) ∧ Q v H
theorem ix_dict (hu : X.A.units + 1 < cLine) : IxR X rIxDG := by
  intro value slice pins s σ H x y v u Q I rx ry h hs
  obtain ⟨a, z, rfl, g, q⟩ := h
  obtain rfl : v = Value.ref a := rx
  exact PyProof.Rows.tail_any (dict_typeIs I g) PySem.F.slot_dict_getitem.lookup (d_getItem hu I g ry fun w' s3 I3 rw' => ⟨z, H, I3, rw', q⟩) hs
def rIxV (K : PySem.W.Frag) (w : World) : R2 := fun x y H Q => rIx K x y H Q ∨ (rIxDG x y H Q ∨ rIxD K w x y H Q)
theorem IxR.or' {r r' : R2} (h : IxR X r) (h' : IxR X r') : IxR X (fun x y H Q => r x y H Q ∨ r' x y H Q) := by
  intro value slice pins s σ H x y v u Q I rx ry q hs
  rcases q with q | q
  · exact h value slice pins s σ H x y v u Q I rx ry q hs
  · exact h' value slice pins s σ H x y v u Q I rx ry q hs
theorem ix_any (hK : X.K = G.K) (hw : X.w = G.w) (hu : X.A.units + 1 < cLine) : IxR X (rIxV G.K G.w) := by
  rw [← hK, ← hw]
  exact IxR.or' ix_seq (IxR.or' (ix_dict hu) ix_kdict)
theorem Reps.at {W : Addr → Prop} {H : Hp} {xs : List V} {vs : List Val} {O : List Addr} (r : Reps G W H xs vs O) {i : Int} {v : Val} (h : atI vs i = some v) : ∃ x Oi, atI xs i = some x ∧ Rep G W H x v Oi := by
  unfold atI at h ⊢
  rw [r.length]
  cases e : ixN vs.length i with
  | none => rw [e] at h; cases h
  | some j =>
    rw [e] at h
    simp only [Option.bind_some] at h ⊢
    obtain ⟨x, _, Oi, _, e1, _, q⟩ := r.split h
    exact ⟨x, Oi, e1, q⟩
theorem atI_map {α β : Type} (f : α → β) (l : List α) (i : Int) : atI (l.map f) i = (atI l i).map f := by
  unfold atI
  rw [List.length_map]
  cases ixN l.length i with
  | none => rfl
  | some j => simp
theorem atI_mem {α : Type} {l : List α} {i : Int} {v : α} (h : atI l i = some v) : v ∈ l := by
  unfold atI at h
  cases e : ixN l.length i with
  | none => rw [e] at h; cases h
  | some j => rw [e] at h; exact List.mem_of_getElem? (by simpa using h)
theorem ok_ix : OkF G (r2 (rIxV G.K G.w)) semIx := by
  intro W H xs vs Ol v Q w r hs m
  unfold semIx at hs
  split at hs
  · obtain ⟨x, y, O, O', rfl, r1, r2⟩ := r.inv2
    cases r2
    split at hs
    · rename_i v' hv
      split at hs
      · rename_i hf
        cases hs
        obtain ⟨a, ys, O1, rfl, e1, q1⟩ := rep_lstL r1
        obtain ⟨z, Oi, e2, q2⟩ := q1.at hv
        exact .inl (.inl ⟨a, ys, _, z, rfl, rfl, .inl (.inl e1), e2, m.same (q2.fz' hf)⟩)
      · cases hs
    · cases hs
  · obtain ⟨x, y, O, O', rfl, r1, r2⟩ := r.inv2
    cases r2
    split at hs
    · rename_i v' hv
      split at hs
      · rename_i hf
        cases hs
        obtain ⟨a, ys, rfl, e1, q1⟩ := rep_tupT r1
        obtain ⟨z, Oi, e2, q2⟩ := q1.at hv
        exact .inl (.inr (.inl ⟨a, ys, _, z, rfl, rfl, e1, e2, m.same (q2.fz' hf)⟩))
      · cases hs
    · cases hs
  · obtain ⟨x, y, O, O', rfl, r1, r2⟩ := r.inv2
    cases r2
    split at hs
    · rename_i v' hv
      cases hs
      cases r1 with
      | @wtp a ys us h q1 =>
        obtain ⟨z, Oi, e2, q2⟩ := q1.at hv
        have hf : Rep G W H z v [] := by
          have := q1.fz_of_none rfl
          rw [fzs_all, List.all_eq_true] at this
          exact q2.fz' (this v (atI_mem hv))
        exact .inl (.inr (.inl ⟨a, ys, _, z, rfl, rfl, h.elim (fun q => by rcases q with q | ⟨o, q⟩ <;> cases q) .inr, e2, m.same hf⟩))
    · cases hs
  · obtain ⟨x, y, O, O', rfl, r1, r2⟩ := r.inv2
    cases r2
    split at hs
    · rename_i n hv
      cases hs
      cases r1 with
      | scr h =>
        exact .inl (.inl ⟨_, _, _, .int _, rfl, rfl, h.elim (fun ⟨o, e, _⟩ => Or.inl (Or.inr ⟨o, e⟩)) (fun z => z.elim (fun q => by rcases q with q | ⟨o, q⟩ <;> cases q) .inr), by rw [atI_map, hv]; rfl, m.same (.int _)⟩)
    · cases hs
  · obtain ⟨x, y, O, O', rfl, r1, r2⟩ := r.inv2
    cases r2; cases r1
    split at hs
    · rename_i hz
      split at hs
      · rename_i c hc
        cases hs
        exact .inl (.inr (.inr ⟨_, _, c, rfl, rfl, sz_le hz, hc, m.same (.str _)⟩))
      · cases hs
    · cases hs
  · obtain ⟨x, y, O, O', rfl, r1, r2⟩ := r.inv2
    split at hs
    · rename_i hk
      split at hs
      · rename_i v' hv
        split at hs
        · rename_i hf
          cases hs
          cases r1 with
          | @dkO a kvs ks vs O1 h hk' q =>
            obtain ⟨k, rfl, rfl⟩ := isKey_k hk r2
            have l := look_of (f := ofKey) (fun a b => ofKey_inj) k q
            rw [← hk', hv] at l
            obtain ⟨x', O'', e1, r', _⟩ := l
            exact .inr (.inl ⟨a, x', rfl, .inl ⟨kvs, k, .inl h, rfl, e1.symm⟩, m.same (r'.fz' hf)⟩)
          | @dkF a kvs ks vs h hk' q =>
            obtain ⟨k, rfl, rfl⟩ := isKey_k hk r2
            have l := look_of (f := ofKey) (fun a b => ofKey_inj) k q
            rw [← hk', hv] at l
            obtain ⟨x', O'', e1, r', _⟩ := l
            exact .inr (.inl ⟨a, x', rfl, .inl ⟨kvs, k, h.1, rfl, e1.symm⟩, m.same (r'.fz' hf)⟩)
          | dnO => simp [isKey] at hk
          | dnF => simp [isKey] at hk
          | @dtO a kvs ks vs O1 h hk' q =>
            cases r2 <;> simp [isKey] at hk
            rename_i b ys us hb q2
            obtain ⟨kl, e2, e3⟩ := isKeys (by simpa using hk) q2
            subst e2 e3
            have l := look_of (f := fun k : List Key => Val.tup (k.map ofKey)) (fun a b e => ofKey_map_inj (by simpa using e)) kl q
            rw [← hk', hv] at l
            obtain ⟨x', O'', e1, r', _⟩ := l
            exact .inr (.inl ⟨a, x', rfl, .inr ⟨kvs, kl, b, .inl h, rfl, hb.1, e1.symm⟩, m.same (r'.fz' hf)⟩)
          | @dtF a kvs ks vs h hk' q =>
            cases r2 <;> simp [isKey] at hk
            rename_i b ys us hb q2
            obtain ⟨kl, e2, e3⟩ := isKeys (by simpa using hk) q2
            subst e2 e3
            have l := look_of (f := fun k : List Key => Val.tup (k.map ofKey)) (fun a b e => ofKey_map_inj (by simpa using e)) kl q
            rw [← hk', hv] at l
            obtain ⟨x', O'', e1, r', _⟩ := l
            exact .inr (.inl ⟨a, x', rfl, .inr ⟨kvs, kl, b, .inl h.1, rfl, hb.1, e1.symm⟩, m.same (r'.fz' hf)⟩)
        · cases hs
      · cases hs
    · cases hs
  · obtain ⟨x, y, O, O', rfl, r1, r2⟩ := r.inv2
    cases r2
    split at hs
    · rename_i v' hv
      split at hs
      · rename_i hf
        cases hs
        cases r1 with
        | @wdk a kvs ks vs h hk' q =>
          have l := look_of (f := ofKey) (fun a b => ofKey_inj) (.inr ‹Str›) q
          rw [← hk'] at l
          simp only [ofKey] at l
          rw [hv] at l
          obtain ⟨x', O'', e1, r', _⟩ := l
          exact .inr (.inr ⟨a, _, x', rfl, rfl, h.2.1 _ _ e1, m.same (r'.fz' hf)⟩)
      · cases hs
    · cases hs
  · cases hs
end
end VL
/-! VL, part F: tests; and, or, not; a if t else b; displays; slices. -/
namespace VL
open PySem L2

section
variable {G : Gam} {R : Addr → Prop} {E : WX} {σ : L2.St} {H H1 : Hp} {Os Os1 : Nat → List Addr} {ρ ρ1 : VEnv} {Q : VK} {r : RE}
/-- from a later place -/
theorem Post.later {p p1 p2 s s2 : Bool} (hp : p = true → p1 = true ∧ p2 = true) (hs : s = true → s2 = true) (post : Post G R E σ H Os p s ρ Q r) (k : KeepE H Os H1 Os1 fun _ => False) (pu : p1 = true → ρ1 = ρ ∧ Os1 = Os ∧ Same H H1) : Post G R E σ H1 Os1 p2 s2 ρ1 Q r := by
  cases r with
  | bad => exact post
  | exc e ρ' => exact fun c d H' Os' rel rx keep => post c d H' Os' rel rx (k.trans keep)
  | ok v ρ' =>
    intro x H' Os' O rel rep nd keep pure
    have hw : ∀ a, Rp R s O a → Rp R s2 O a := fun a z => z.imp id fun z => ⟨hs z.1, z.2⟩
    refine post x H' Os' O (rel.weak hw) (rep.mono (fun a o e nw => ⟨e, fun z => nw (z.imp (hw a) id)⟩) fun _ _ _ e => e) (fun z => nd (hs z)) ((k.trans keep).imp fun a z => ⟨hs z.1, z.2⟩) fun z => ?_
    obtain ⟨h1, h2⟩ := hp z
    obtain ⟨a1, a2, a3⟩ := pu h1
    obtain ⟨b1, b2, b3⟩ := pure h2
    exact ⟨b1.trans a1, b2.trans a2, a3.trans b3⟩
end

/-! ### tests -/
def PostT (G : Gam) (R : Addr → Prop) (E : WX) (σ : L2.St) (H : Hp) (Os : Nat → List Addr) (p : Bool) (ρ : VEnv) (Q : Bool → Hp → Prop) : RE → Prop
  | .ok (.bl b) ρ' => ∀ H' Os', Rel G R H' σ ρ' Os' → KeepE H Os H' Os' (fun _ => False) → (p = true → ρ' = ρ ∧ Os' = Os ∧ Same H H') → Q b H'
  | .ok _ _ => False
  | .exc e ρ' => ∀ c d H' Os', Rel G R H' σ ρ' Os' → RepX G (WW R Os') H' c d e → KeepE H Os H' Os' (fun _ => False) → E c d σ H'
  | .bad => False
def tT (G : Gam) (E : WX) (p : Bool) (m : ME) : TT := fun σ H Q => ∃ R ρ Os, Rel G R H σ ρ Os ∧ PostT G R E σ H Os p ρ Q (m ρ)
def VT (G : Gam) (X : Cx) (E : WX) (p : Bool) (e : Expr) (m : ME) : Prop := PT X e (tT G E p m)
section
variable {G : Gam} {R : Addr → Prop} {E : WX} {σ : L2.St} {H H1 : Hp} {Os Os1 : Nat → List Addr} {ρ ρ1 : VEnv}
theorem PostT.later {p p1 p2 : Bool} {Q : Bool → Hp → Prop} {r : RE} (hp : p = true → p1 = true ∧ p2 = true) (post : PostT G R E σ H Os p ρ Q r) (k : KeepE H Os H1 Os1 fun _ => False) (pu : p1 = true → ρ1 = ρ ∧ Os1 = Os ∧ Same H H1) : PostT G R E σ H1 Os1 p2 ρ1 Q r := by
  cases r with
  | bad => exact post
  | exc e ρ' => exact fun c d H' Os' rel rx keep => post c d H' Os' rel rx (k.trans keep)
  | ok v ρ' =>
    cases v with
    | bl b =>
      intro H' Os' rel keep pure
      refine post H' Os' rel (k.trans keep) fun z => ?_
      obtain ⟨h1, h2⟩ := hp z
      obtain ⟨a1, a2, a3⟩ := pu h1
      obtain ⟨b1, b2, b3⟩ := pure h2
      exact ⟨b1.trans a1, b2.trans a2, a3.trans b3⟩
    | _ => exact post.elim
/-- a test read off a value's reading -/
theorem PostT.post {p s : Bool} {Q : Bool → Hp → Prop} {r : RE} (post : PostT G R E σ H Os p ρ Q r) : Post G R E σ H Os p s ρ (fun x H' => ∃ c, x = .bl c ∧ Q c H') r := by
  cases r with
  | bad => exact post
  | exc e ρ' => exact post
  | ok v ρ' =>
    cases v with
    | bl b =>
      intro x H' Os' O rel rep nd keep pure
      cases rep
      exact ⟨b, rfl, post H' Os' (rel.weak fun a z => .inl z) (keep.imp fun _ z => z.elim) pure⟩
    | _ => exact post.elim
end
section
variable {G : Gam} {X : Cx} {E : WX} {e a b c : Expr} {pos : Pos} {p s p1 s1 p2 s2 p3 s3 : Bool} {m m1 m2 m3 : ME}
theorem vt_val (h : VE G X E p s e m) (he : ∀ whole, isTrue e X.env whole = (do let v ← whole; standAt e.pos; holding [v] (truthy v)) := by intro _; rfl) : VT G X E p e m :=
  PT.pre (pt_val h he) fun σ H Q ⟨R, ρ, Os, rel, post⟩ => ⟨R, ρ, Os, rel, post.post⟩
theorem vt_cmp {op : CmpOp} {r : R2} {sem : List Val → Option Val} (ho : OpR X (compareOp op) r) (ok : OkF G (r2 r) sem) (h1 : VE G X E p1 s1 a m1) (h2 : VE G X E p2 s2 b m2) (hm : behindInMarks op b = false) (wf : (s1 || p2) = true := by rfl) :
    VT G X E (p1 && p2) (.Compare a [op] [b] pos) (mFun sem [m1, m2]) := by
  refine PT.pre (pt_cmpR ho h1 h2 hm) fun σ H Q ⟨R, ρ, Os, rel, post⟩ => ?_
  have := fun_pre (G := G) (E := E) (os := [⟨p1, s1, m1⟩, ⟨p2, s2, m2⟩]) (r := r2 r) (t := tOp r (rd G E p1 s1 m1) (rd G E p2 s2 m2)) (fun σ H Q z => z) ok (wf2 wf) σ H (fun x H' => ∃ c, x = .bl c ∧ Q c H') ⟨R, ρ, Os, rel, ?_⟩
  · exact this
  · have := post.post (s := true)
    simpa using this
def mNot (m : ME) : ME := fun ρ => match m ρ with
  | .ok (.bl b) ρ' => .ok (.bl (!b)) ρ'
  | .ok _ _ => .bad
  | .exc e ρ' => .exc e ρ'
  | .bad => .bad
def mAnd (m1 m2 : ME) : ME := fun ρ => match m1 ρ with
  | .ok (.bl b) ρ' => if b = true then m2 ρ' else .ok (.bl false) ρ'
  | .ok _ _ => .bad
  | .exc e ρ' => .exc e ρ'
  | .bad => .bad
def mOr (m1 m2 : ME) : ME := fun ρ => match m1 ρ with
  | .ok (.bl b) ρ' => if b = true then .ok (.bl true) ρ' else m2 ρ'
  | .ok _ _ => .bad
  | .exc e ρ' => .exc e ρ'
  | .bad => .bad
def mIf (m1 m2 m3 : ME) : ME := fun ρ => match m1 ρ with
  | .ok (.bl b) ρ' => if b = true then m2 ρ' else m3 ρ'
  | .ok _ _ => .bad
  | .exc e ρ' => .exc e ρ'
  | .bad => .bad
theorem vt_not (h : VT G X E p e m) : VT G X E p (.UnaryOp .Not e pos) (mNot m) := by
  refine PT.pre (pt_not h) fun σ H Q ⟨R, ρ, Os, rel, post⟩ => ⟨R, ρ, Os, rel, ?_⟩
  unfold mNot at post
  cases hm : m ρ with
  | bad => rw [hm] at post; exact post
  | exc e ρ' => rw [hm] at post; exact post
  | ok v ρ' =>
    rw [hm] at post
    cases v with
    | bl b => exact post
    | _ => exact post.elim
/-- and, or over tests -/
def VW (G : Gam) (X : Cx) (E : WX) (p : Bool) (e : Expr) (m : ME) : Prop := PW X e (tT G E p m)
theorem vt_of (h : VW G X E p e m) : VT G X E p e m := PW.pt h
theorem PW.pre {X : Cx} {e : Expr} {t t' : TT} (h : PW X e t) (k : ∀ σ H Q, t' σ H Q → t σ H Q) : PW X e t' := ⟨fun wh pins s σ H Q I q => h.run wh pins s σ H Q I (k σ H Q q)⟩
theorem vw_and1 (h : VT G X E p a m) : VW G X E p (.BoolOp .And [a] pos) m := pw_and1 h
theorem vw_or1 (h : VT G X E p a m) : VW G X E p (.BoolOp .Or [a] pos) m := pw_or1 h
theorem vw_and {rest : List Expr} (h1 : VT G X E p1 a m1) (h2 : VW G X E p2 (.BoolOp .And (b :: rest) pos) m2) : VW G X E (p1 && p2) (.BoolOp .And (a :: b :: rest) pos) (mAnd m1 m2) := by
  refine PW.pre (pw_and h1 h2) fun σ H Q ⟨R, ρ, Os, rel, post⟩ => ⟨R, ρ, Os, rel, ?_⟩
  unfold mAnd at post
  cases hm : m1 ρ with
  | bad => rw [hm] at post; exact post
  | exc e ρ' => rw [hm] at post; exact post
  | ok v ρ' =>
    rw [hm] at post
    cases v with
    | bl b =>
      intro H' Os' rel' keep pure
      cases b with
      | true => exact ⟨R, ρ', Os', rel', PostT.later (p1 := p1) (by simp) post keep pure⟩
      | false => exact post H' Os' rel' keep fun z => pure (by simp at z; exact z.1)
    | _ => exact post.elim
theorem vw_or {rest : List Expr} (h1 : VT G X E p1 a m1) (h2 : VW G X E p2 (.BoolOp .Or (b :: rest) pos) m2) : VW G X E (p1 && p2) (.BoolOp .Or (a :: b :: rest) pos) (mOr m1 m2) := by
  refine PW.pre (pw_or h1 h2) fun σ H Q ⟨R, ρ, Os, rel, post⟩ => ⟨R, ρ, Os, rel, ?_⟩
  unfold mOr at post
  cases hm : m1 ρ with
  | bad => rw [hm] at post; exact post
  | exc e ρ' => rw [hm] at post; exact post
  | ok v ρ' =>
    rw [hm] at post
    cases v with
    | bl b =>
      intro H' Os' rel' keep pure
      cases b with
      | false => exact ⟨R, ρ', Os', rel', PostT.later (p1 := p1) (by simp) post keep pure⟩
      | true => exact post H' Os' rel' keep fun z => pure (by simp at z; exact z.1)
    | _ => exact post.elim
/-! ### .. as values -/
theorem ve_one {op} (h : VE G X E p s a m) : VE G X E p s (.BoolOp op [a] pos) m := pe_one h
theorem ve_and {rest : List Expr} (h1 : VE G X E p1 s1 a m1) (h2 : VE G X E p2 s2 (.BoolOp .And (b :: rest) pos) m2) : VE G X E (p1 && p2) s2 (.BoolOp .And (a :: b :: rest) pos) (mAnd m1 m2) := by
  refine PE.pre (pe_and h1 h2) fun σ H Q ⟨R, ρ, Os, rel, post⟩ => ⟨R, ρ, Os, rel, ?_⟩
  unfold mAnd at post
  cases hm : m1 ρ with
  | bad => rw [hm] at post; exact post
  | exc e ρ' => rw [hm] at post; exact post
  | ok v ρ' =>
    rw [hm] at post
    cases v with
    | bl b =>
      intro x H' Os' O rel' rep nd keep pure
      cases rep
      refine ⟨b, rfl, ?_⟩
      have hr : Rel G R H' σ ρ' Os' := rel'.weak fun a z => .inl z
      cases b with
      | true =>
        rw [if_pos rfl]
        exact ⟨R, ρ', Os', hr, Post.later (p1 := p1) (by simp) id post (keep.imp fun _ z => z.elim) pure⟩
      | false =>
        rw [if_neg Bool.false_ne_true]
        exact post (.bl false) H' Os' [] (hr.weak fun a z => z.elim id fun z => nomatch z.2) (.bl false) (fun _ => List.nodup_nil) (keep.imp fun a z => nomatch z.2) fun z => pure (by simp at z; exact z.1)
    | _ => exact post.elim
theorem ve_or {rest : List Expr} (h1 : VE G X E p1 s1 a m1) (h2 : VE G X E p2 s2 (.BoolOp .Or (b :: rest) pos) m2) : VE G X E (p1 && p2) s2 (.BoolOp .Or (a :: b :: rest) pos) (mOr m1 m2) := by
  refine PE.pre (pe_or h1 h2) fun σ H Q ⟨R, ρ, Os, rel, post⟩ => ⟨R, ρ, Os, rel, ?_⟩
  unfold mOr at post
  cases hm : m1 ρ with
  | bad => rw [hm] at post; exact post
  | exc e ρ' => rw [hm] at post; exact post
  | ok v ρ' =>
    rw [hm] at post
    cases v with
    | bl b =>
      intro x H' Os' O rel' rep nd keep pure
      cases rep
      refine ⟨b, rfl, ?_⟩
      have hr : Rel G R H' σ ρ' Os' := rel'.weak fun a z => .inl z
      cases b with
      | false =>
        rw [if_neg Bool.false_ne_true]
        exact ⟨R, ρ', Os', hr, Post.later (p1 := p1) (by simp) id post (keep.imp fun _ z => z.elim) pure⟩
      | true =>
        rw [if_pos rfl]
        exact post (.bl true) H' Os' [] (hr.weak fun a z => z.elim id fun z => nomatch z.2) (.bl true) (fun _ => List.nodup_nil) (keep.imp fun a z => nomatch z.2) fun z => pure (by simp at z; exact z.1)
    | _ => exact post.elim
theorem ve_not (h : VE G X E p s e m) : VE G X E p true (.UnaryOp .Not e pos) (mNot m) := by
  refine PE.pre (pe_not h) fun σ H Q ⟨R, ρ, Os, rel, post⟩ => ⟨R, ρ, Os, rel, ?_⟩
  unfold mNot at post
  cases hm : m ρ with
  | bad => rw [hm] at post; exact post
  | exc e ρ' => rw [hm] at post; exact post
  | ok v ρ' =>
    rw [hm] at post
    cases v with
    | bl b =>
      intro x H' Os' O rel' rep nd keep pure
      cases rep
      exact ⟨b, rfl, post (.bl (!b)) H' Os' [] (rel'.weak fun a z => .inl (z.elim id fun z => nomatch z.2)) (.bl _) (fun _ => List.nodup_nil) (keep.imp fun a z => nomatch z.2) pure⟩
    | _ => exact post.elim
theorem ve_if (hc : VT G X E p1 c m1) (ha : VE G X E p2 s2 a m2) (hb : VE G X E p3 s3 b m3) : VE G X E (p1 && (p2 && p3)) (s2 && s3) (.IfExp c a b pos) (mIf m1 m2 m3) := by
  refine PE.pre (pe_ifExp hc ha hb) fun σ H Q ⟨R, ρ, Os, rel, post⟩ => ⟨R, ρ, Os, rel, ?_⟩
  unfold mIf at post
  cases hm : m1 ρ with
  | bad => rw [hm] at post; exact post
  | exc e ρ' => rw [hm] at post; exact post
  | ok v ρ' =>
    rw [hm] at post
    cases v with
    | bl b =>
      intro H' Os' rel' keep pure
      cases b with
      | true =>
        rw [if_pos rfl]
        exact ⟨R, ρ', Os', rel', Post.later (p1 := p1) (by simp; intros; simp [*]) (by simp; intros; simp [*]) post keep pure⟩
      | false =>
        rw [if_neg Bool.false_ne_true]
        exact ⟨R, ρ', Os', rel', Post.later (p1 := p1) (by simp; intros; simp [*]) (by simp) post keep pure⟩
    | _ => exact post.elim

/-! ### a < b < c of whole numbers -/
def mChain (f g : Int → Int → Bool) (m1 m2 m3 : ME) : ME := fun ρ => match evalM [m1, m2] ρ with
  | .ok [.int i, .int j] ρ1 => if f i j = true then (match m3 ρ1 with
    | .ok (.int k) ρ2 => .ok (.bl (g j k)) ρ2
    | .ok _ _ => .bad
    | .exc e ρ2 => .exc e ρ2
    | .bad => .bad) else .ok (.bl false) ρ1
  | .ok _ _ => .bad
  | .exc e ρ1 => .exc e ρ1
  | .bad => .bad
theorem chain_pre {f g : Int → Int → Bool} (wf : (s1 || p2) = true) (σ : L2.St) (H : Hp) (Q : VK) (h : rd G E (p1 && (p2 && p3)) true (mChain f g m1 m2 m3) σ H Q) :
    tChain (rI0 fun i j => .bl (f i j)) (rI0 fun i j => .bl (g i j)) (rd G E p1 s1 m1) (rd G E p2 s2 m2) (rd G E p3 s3 m3) σ H Q := by
  obtain ⟨R, ρ, Os, rel, post⟩ := h
  have key := nest_of (G := G) (E := E) (σ := σ) (os := [⟨p1, s1, m1⟩, ⟨p2, s2, m2⟩]) (wf2 wf) rel (K := fun xs H2 => match xs with
    | [x, y] => ∃ i j, x = .int i ∧ y = .int j ∧ ∃ k, V.bl (f i j) = .bl k ∧ (if k = true then rd G E p3 s3 m3 σ H2 fun w' H4 => ∃ j' k, y = .int j' ∧ w' = .int k ∧ Q (.bl (g j' k)) H4 else Q (.bl false) H2)
    | _ => False) ?_
  · exact key
  · rw [evalA_eq]
    unfold mChain at post
    simp only [List.map_cons, List.map_nil]
    cases he : evalM [m1, m2] ρ with
    | bad => rw [he] at post; exact post
    | exc e ρ' => rw [he] at post; exact post
    | ok vs ρ1 =>
      rw [he] at post
      intro xs H1 Os1 Ol rel1 reps nd keep pure
      match vs, reps, post with
      | [.int i, .int j], reps, post =>
        obtain ⟨x, y, O, O', rfl, r1, r2⟩ := reps.inv2
        cases r1; cases r2
        have keep' : KeepE H Os H1 Os1 fun _ => False := keep.imp fun _ z => z.elim
        refine ⟨i, j, rfl, rfl, f i j, rfl, ?_⟩
        cases hf : f i j with
        | false =>
          rw [if_neg Bool.false_ne_true]
          simp only [hf, Bool.false_eq_true, if_false] at post
          exact post (.bl false) H1 Os1 [] (rel1.weak fun a z => .inl (z.elim id fun z => nomatch z.2)) (.bl false) (fun _ => List.nodup_nil) (keep'.imp fun a z => nomatch z.2) fun z => pure (by simp at z ⊢; exact ⟨z.1, z.2.1⟩)
        | true =>
          rw [if_pos rfl]
          simp only [hf, if_true] at post
          refine ⟨R, ρ1, Os1, rel1.weak fun a z => .inl z, ?_⟩
          have pure' : (p1 && p2) = true → ρ1 = ρ ∧ Os1 = Os ∧ Same H H1 := fun z => pure (by simpa using z)
          cases hm : m3 ρ1 with
          | bad => rw [hm] at post; exact post
          | exc e ρ' => rw [hm] at post; exact fun c d H' Os' rel' rx k => post c d H' Os' rel' rx (keep'.trans k)
          | ok v ρ2 =>
            rw [hm] at post
            cases v with
            | int k =>
              intro x H' Os' O rel' rep nd' k' pu'
              cases rep
              refine ⟨j, k, rfl, rfl, ?_⟩
              refine post (.bl (g j k)) H' Os' [] (rel'.weak fun a z => .inl (z.elim id fun z => nomatch z.2)) (.bl _) (fun _ => List.nodup_nil) ((keep'.trans k').imp fun a z => nomatch z.2) fun z => ?_
              simp only [Bool.and_eq_true] at z
              obtain ⟨a1, a2, a3⟩ := pure' (by simp [z.1, z.2.1])
              obtain ⟨b1, b2, b3⟩ := pu' z.2.2
              exact ⟨b1.trans a1, b2.trans a2, a3.trans b3⟩
            | _ => exact post.elim
theorem ve_chain {op op' : CmpOp} {f g : Int → Int → Bool} (ho : OpR X (compareOp op) (rI0 fun i j => .bl (f i j))) (ho' : OpR X (compareOp op') (rI0 fun i j => .bl (g i j))) (h1 : VE G X E p1 s1 a m1) (h2 : VE G X E p2 s2 b m2) (h3 : VE G X E p3 s3 c m3) (wf : (s1 || p2) = true := by rfl)
    (hm : lastMarks [op, op'] [b, c] = false := by with_unfolding_all rfl) : VE G X E (p1 && (p2 && p3)) true (.Compare a [op, op'] [b, c] pos) (mChain f g m1 m2 m3) :=
  PE.pre (pe_chain ho ho' h1 h2 h3 hm) (chain_pre wf)
theorem vt_chain {op op' : CmpOp} {f g : Int → Int → Bool} (ho : OpR X (compareOp op) (rI0 fun i j => .bl (f i j))) (ho' : OpR X (compareOp op') (rI0 fun i j => .bl (g i j))) (h1 : VE G X E p1 s1 a m1) (h2 : VE G X E p2 s2 b m2) (h3 : VE G X E p3 s3 c m3) (wf : (s1 || p2) = true := by rfl)
    (hm : lastMarks [op, op'] [b, c] = false := by with_unfolding_all rfl) : VT G X E (p1 && (p2 && p3)) (.Compare a [op, op'] [b, c] pos) (mChain f g m1 m2 m3) :=
  PT.pre (pt_chain ho ho' h1 h2 h3 hm) fun σ H Q ⟨R, ρ, Os, rel, post⟩ => chain_pre wf σ H _ ⟨R, ρ, Os, rel, post.post⟩
end
end VL
/-! VL, part G: displays, slices, len, int, str, repr, max, min, isinstance. -/
namespace VL
open PySem L2

/-! ### displays -/
def mTup (ms : List ME) : ME := fun ρ => match evalM ms ρ with
  | .ok vs ρ' => .ok (.tup vs) ρ'
  | .exc e ρ' => .exc e ρ'
  | .bad => .bad
def mLst (ms : List ME) : ME := fun ρ => match evalM ms ρ with
  | .ok vs ρ' => .ok (.lst true vs) ρ'
  | .exc e ρ' => .exc e ρ'
  | .bad => .bad
section
variable {G : Gam} {X : Cx} {E : WX} {es : List Expr} {os : List Op} {pos : Pos}
theorem RepL.reps {W : Addr → Prop} {H : Hp} {xs : List V} {vs : List Val} {Ol : List (List Addr)} (r : RepL G W H xs vs Ol) : Reps G W H xs vs Ol.flatten := by
  induction r with
  | nil => exact .nil
  | cons r t ih => rw [List.flatten_cons]; exact .cons r ih
theorem stab_all : ∀ {os : List Op} {Ol : List (List Addr)}, os.all (·.s) = true → os.length = Ol.length → stab os Ol = Ol.flatten
  | [], [], _, _ => rfl
  | [], _ :: _, _, h => by simp at h
  | _ :: _, [], _, h => by simp at h
  | o :: os, O :: Ol, h, hl => by
    simp only [List.all_cons, Bool.and_eq_true] at h
    unfold stab
    rw [if_pos h.1, List.flatten_cons, stab_all h.2 (by simpa using hl)]
theorem RepL.len {W : Addr → Prop} {H : Hp} {xs : List V} {vs : List Val} {Ol : List (List Addr)} (r : RepL G W H xs vs Ol) : xs.length = vs.length ∧ vs.length = Ol.length := by
  induction r with
  | nil => exact ⟨rfl, rfl⟩
  | cons r t ih => exact ⟨by simp [ih.1], by simp [ih.2]⟩
theorem evalM_len : ∀ {ms : List ME} {ρ ρ' : VEnv} {vs : List Val}, evalM ms ρ = .ok vs ρ' → vs.length = ms.length
  | [], ρ, ρ', vs, h => by cases h; rfl
  | m :: ms, ρ, ρ', vs, h => by
    unfold evalM at h
    cases hm : m ρ with
    | bad => rw [hm] at h; cases h
    | exc e ρ1 => rw [hm] at h; cases h
    | ok v ρ1 =>
      rw [hm] at h
      dsimp only at h
      cases he : evalM ms ρ1 with
      | bad => rw [he] at h; cases h
      | exc e ρ2 => rw [he] at h; cases h
      | ok us ρ2 =>
        rw [he] at h
        cases h
        simp [evalM_len he]
theorem wf_all {os : List Op} (h : os.all (·.s) = true) : wfA os = true := by
  induction os with
  | nil => rfl
  | cons o os ih =>
    simp only [List.all_cons, Bool.and_eq_true] at h
    simp [wfA, h.1, ih h.2]
theorem ve_tup {k : Nat} (h : VAs G X E es os) (hs : os.all (·.s) = true := by rfl) (hl : os.length ≤ 1000 := by decide) : VE G X E (os.all (·.p)) true (.Tuple es k pos) (mTup (os.map Op.m)) := by
  refine PE.pre (pe_tup h) fun σ H Q ⟨R, ρ, Os, rel, post⟩ => ?_
  refine nest_of (wf_all hs) rel ?_
  rw [evalA_eq]
  unfold mTup at post
  cases he : evalM (os.map Op.m) ρ with
  | bad => rw [he] at post; exact post
  | exc e ρ' => rw [he] at post; exact post
  | ok vs ρ' =>
    rw [he] at post
    intro xs H' Os' Ol rel' reps nd keep pure
    have hlen := reps.len
    have hv := evalM_len he
    rw [List.length_map] at hv
    refine ⟨sz_le (by omega), fun q hq => ?_⟩
    have es := stab_all hs (hv.symm.trans hlen.2)
    have hR : ∀ a, Rp R true Ol.flatten a ↔ (R a ∨ a ∈ stab os Ol) := fun a => by
      rw [es]; exact ⟨fun z => z.imp id fun z => z.2, fun z => z.imp id fun z => ⟨rfl, z⟩⟩
    have ef : Rp R true Ol.flatten = fun a => R a ∨ a ∈ stab os Ol := funext fun a => propext (hR a)
    have nq : ¬ WW (fun a => R a ∨ a ∈ stab os Ol) Os' q := fresh_nw (fun p hp => rel'.ww hp) q hq
    refine post (.ref q) _ Os' Ol.flatten ?_ ?_ (fun _ => es ▸ nd) ?_ fun z => ?_
    · rw [ef]
      exact rel'.grow (same_upd hq) (fun a z => .inl z) fun a z => let ⟨o, e⟩ := rel'.rt a z; ⟨o, same_upd hq a o e⟩
    · rw [ef]
      exact .tup ⟨upd_same, nq⟩ (reps.reps.upd hq fun z hz => .inl hz)
    · exact (keep.grow (same_upd hq) fun a z => .inl (by rw [es]; exact z.2))
    · obtain ⟨h1, h2, h3⟩ := pure z
      exact ⟨h1, h2, h3.trans (same_upd hq)⟩
theorem ve_lst (h : VAs G X E es os) (hs : os.all (·.s) = true := by rfl) (hl : os.length ≤ 1000 := by decide) : VE G X E (os.all (·.p)) true (.List es pos) (mLst (os.map Op.m)) := by
  refine PE.pre (pe_lst h) fun σ H Q ⟨R, ρ, Os, rel, post⟩ => ?_
  refine nest_of (wf_all hs) rel ?_
  rw [evalA_eq]
  unfold mLst at post
  cases he : evalM (os.map Op.m) ρ with
  | bad => rw [he] at post; exact post
  | exc e ρ' => rw [he] at post; exact post
  | ok vs ρ' =>
    rw [he] at post
    intro xs H' Os' Ol rel' reps nd keep pure
    have hlen := reps.len
    have hv := evalM_len he
    rw [List.length_map] at hv
    refine ⟨sz_le (by omega), fun q hq => ?_⟩
    have es := stab_all hs (hv.symm.trans hlen.2)
    rw [es] at rel' nd keep
    rw [es] at reps
    have hR : ∀ a, Rp R true (q :: Ol.flatten) a → (R a ∨ a ∈ Ol.flatten) ∨ H' a = none := fun a z => by
      rcases z with z | ⟨_, z⟩
      · exact .inl (.inl z)
      · rcases List.mem_cons.mp z with z | z
        · exact .inr (z ▸ hq)
        · exact .inl (.inr z)
    refine post (.ref q) _ Os' (q :: Ol.flatten) (rel'.grow (same_upd hq) hR fun a z => ?_) (.lstO upd_same (reps.reps.upd hq fun z hz => ?_)) (fun _ => ?_) (keep.grow (same_upd hq) fun a z => ?_) fun z => ?_
    · rcases z with z | ⟨_, z⟩
      · obtain ⟨o, e⟩ := rel'.rt a (.inl z)
        exact ⟨o, same_upd hq a o e⟩
      · rcases List.mem_cons.mp z with z | z
        · subst z; exact ⟨_, upd_same⟩
        · obtain ⟨o, e⟩ := rel'.rt a (.inr z)
          exact ⟨o, same_upd hq a o e⟩
    · exact hz.elim (fun z => (hR _ z).imp .inl id) fun z => .inl (.inr z)
    · refine List.nodup_cons.mpr ⟨fun hm => ?_, nd⟩
      obtain ⟨o, e⟩ := reps.reps.there q hm
      rw [hq] at e; cases e
    · rcases List.mem_cons.mp z.2 with z | z
      · exact .inr (z ▸ hq)
      · exact .inl z
    · obtain ⟨h1, h2, h3⟩ := pure z
      exact ⟨h1, h2, h3.trans (same_upd hq)⟩
end

/-! ### slices -/
def cutL {α : Type} (xs : List α) (lo hi : Option Int) : List α := (xs.drop (HT.sIx xs.length 0 lo)).take (HT.sIx xs.length xs.length hi - HT.sIx xs.length 0 lo)
def semSl (lo hi : Option Int) : Val → Option Val
  | .lst _ xs => if fzs xs = true then some (.lst true (cutL xs lo hi)) else none
  | .tup xs => if fzs xs = true then some (.tup (cutL xs lo hi)) else none
  | .str z => if z.length ≤ 16777216 then some (.str (cutS z lo hi)) else none
  | _ => none
def rSlV (K : PySem.W.Frag) : V → Option Int → Option Int → Hp → VK → Prop := fun x lo hi H Q => rSlL K x lo hi H Q ∨ (rSlA K x lo hi H Q ∨ rSlS x lo hi H Q)
section
variable {G : Gam} {X : Cx}
theorem sl_any (hK : X.K = G.K) : SlR X (rSlV G.K) := by
  rw [← hK]
  exact sl_list.or (sl_tupA.or sl_str)
theorem Reps.inv0 {W : Addr → Prop} {H : Hp} {ys : List V} {v : Val} {vs : List Val} (r : Reps G W H ys (v :: vs) []) : ∃ x xs, ys = x :: xs ∧ Rep G W H x v [] ∧ Reps G W H xs vs [] := by
  generalize hO : ([] : List Addr) = O at r
  cases r with
  | @cons x _ xs' _ O1 O2 r t =>
    have := hO.symm
    simp at this
    obtain ⟨e1, e2⟩ := this
    subst e1 e2
    exact ⟨x, xs', rfl, r, t⟩
theorem Reps.drop {W : Addr → Prop} {H : Hp} : ∀ (n : Nat) {xs : List V} {vs : List Val}, Reps G W H xs vs [] → Reps G W H (xs.drop n) (vs.drop n) []
  | 0, _, _, r => r
  | n + 1, _, [], r => by cases r; exact .nil
  | n + 1, _, v :: vs, r => by
    obtain ⟨x, xs, rfl, _, t⟩ := r.inv0
    exact Reps.drop n t
theorem Reps.take {W : Addr → Prop} {H : Hp} : ∀ (n : Nat) {xs : List V} {vs : List Val}, Reps G W H xs vs [] → Reps G W H (xs.take n) (vs.take n) []
  | 0, _, _, r => .nil
  | n + 1, _, [], r => by cases r; exact .nil
  | n + 1, _, v :: vs, r => by
    obtain ⟨x, xs, rfl, q, t⟩ := r.inv0
    exact .cons (O := []) (O' := []) q (Reps.take n t)
theorem Reps.cut {W : Addr → Prop} {H : Hp} {xs : List V} {vs : List Val} (r : Reps G W H xs vs []) (lo hi : Option Int) : Reps G W H (cutV xs lo hi) (cutL vs lo hi) [] := by
  unfold cutV cutL
  rw [r.length]
  exact Reps.take _ (Reps.drop _ r)
theorem cut_whole {α : Type} {xs : List α} {lo hi : Option Int} (h : HT.sIx xs.length 0 lo = 0 ∧ HT.sIx xs.length xs.length hi = xs.length) : cutL xs lo hi = xs := by
  unfold cutL
  rw [h.1, h.2]
  simp
theorem ok_sl {W : Addr → Prop} {H : Hp} {x : V} {v u : Val} {O : List Addr} {lo hi : Option Int} {Q : VK} (w : ∀ p, W p → ∃ o, H p = some o) (r : Rep G W H x v O) (hs : semSl lo hi v = some u) (m : Made G W H u Q) : rSlV G.K x lo hi H Q := by
  unfold semSl at hs
  split at hs
  · split at hs
    · rename_i hf
      cases hs
      obtain ⟨a, ys, O1, rfl, e1, q1⟩ := rep_lstL r
      exact .inl ⟨a, ys, rfl, .inl (.inl e1), m.lst ((q1.fz hf).cut lo hi)⟩
    · cases hs
  · split at hs
    · rename_i hf
      cases hs
      obtain ⟨a, ys, rfl, e1, q1⟩ := rep_tupT r
      refine .inr (.inl ⟨a, ys, rfl, e1, fun z => ?_, fun z => m.tup ((q1.fz hf).cut lo hi) (fresh_nw w)⟩)
      rw [q1.length] at z
      rw [cut_whole z] at m
      exact m.same (r.fz' (by simpa [Val.fz] using hf))
    · cases hs
  · split at hs
    · rename_i hz
      cases hs
      cases r
      exact .inr (.inr ⟨_, rfl, sz_le hz, m.same (.str _)⟩)
    · cases hs
  · cases hs
def semSlL : List Val → Option Val
  | [v, .int i] => semSl (some i) none v
  | _ => none
def semSlU : List Val → Option Val
  | [v, .int i] => semSl none (some i) v
  | _ => none
def semSlB : List Val → Option Val
  | [v, .int i, .int j] => semSl (some i) (some j) v
  | _ => none
theorem RepL.inv3 {W : Addr → Prop} {H : Hp} {xs : List V} {a b c : Val} {Ol : List (List Addr)} (r : RepL G W H xs [a, b, c] Ol) : ∃ x y z O O' O'', xs = [x, y, z] ∧ Rep G W H x a O ∧ Rep G W H y b O' ∧ Rep G W H z c O'' := by
  cases r with
  | cons r t =>
    cases t with
    | cons r' t =>
      cases t with
      | cons r'' t =>
        cases t
        exact ⟨_, _, _, _, _, _, rfl, r, r', r''⟩
theorem wf3 {p1 s1 p2 s2 p3 s3 : Bool} {m1 m2 m3 : ME} (h : ((s1 || (p2 && p3)) && (s2 || p3)) = true) : wfA [⟨p1, s1, m1⟩, ⟨p2, s2, m2⟩, ⟨p3, s3, m3⟩] = true := by
  cases s1 <;> cases p2 <;> cases s2 <;> cases p3 <;> cases s3 <;> first | rfl | cases h
variable {E : WX} {e a b : Expr} {pos p2' : Pos} {p s p1 s1 p2 s2 : Bool} {m m1 m2 : ME}
theorem ve_slL (hK : X.K = G.K) (h : VE G X E p s e m) (h1 : VE G X E p1 s1 a m1) (wf : (s || p1) = true := by rfl) : VE G X E (p && p1) true (.Subscript e (.Slice (some a) none none p2') pos) (mFun semSlL [m, m1]) := by
  have := ve_fun (G := G) (E := E) (os := [⟨p, s, m⟩, ⟨p1, s1, m1⟩]) (pe_slice (pos := pos) (p2 := p2') (sl_any hK) h (po_some h1) po_none) (r := fun xs H Q => match xs with
    | [x, y] => ∃ i, y = .int i ∧ rSlV G.K x (some i) none H Q
    | _ => False) (fun σ H Q z => z) (sem := semSlL) (fun W H xs vs Ol v Q w r hs mk => by
      unfold semSlL at hs
      split at hs
      · obtain ⟨x, y, O, O', rfl, r1, r2⟩ := r.inv2
        cases r2
        exact ⟨_, rfl, ok_sl w r1 hs mk⟩
      · cases hs) (wf2 wf)
  simpa using this
theorem ve_slU (hK : X.K = G.K) (h : VE G X E p s e m) (h1 : VE G X E p1 s1 a m1) (wf : (s || p1) = true := by rfl) : VE G X E (p && p1) true (.Subscript e (.Slice none (some a) none p2') pos) (mFun semSlU [m, m1]) := by
  have := ve_fun (G := G) (E := E) (os := [⟨p, s, m⟩, ⟨p1, s1, m1⟩]) (pe_slice (pos := pos) (p2 := p2') (sl_any hK) h po_none (po_some h1)) (r := fun xs H Q => match xs with
    | [x, y] => ∃ i, y = .int i ∧ rSlV G.K x none (some i) H Q
    | _ => False) (fun σ H Q z => z) (sem := semSlU) (fun W H xs vs Ol v Q w r hs mk => by
      unfold semSlU at hs
      split at hs
      · obtain ⟨x, y, O, O', rfl, r1, r2⟩ := r.inv2
        cases r2
        exact ⟨_, rfl, ok_sl w r1 hs mk⟩
      · cases hs) (wf2 wf)
  simpa using this
def mInt (m : ME) : ME := fun ρ => match m ρ with
  | .ok (.int i) ρ' => .ok (.int i) ρ'
  | .ok _ _ => .bad
  | .exc e ρ' => .exc e ρ'
  | .bad => .bad
theorem rd_int {p s : Bool} {m : ME} {σ : L2.St} {H : Hp} {P : V → Hp → Prop} (h : rd G E p s (mInt m) σ H P) : rd G E p s m σ H fun y H2 => ∃ i, y = .int i ∧ P (.int i) H2 := by
  obtain ⟨R, ρ, Os, rel, post⟩ := h
  refine ⟨R, ρ, Os, rel, ?_⟩
  unfold mInt at post
  cases hm : m ρ with
  | bad => rw [hm] at post; exact post
  | exc e ρ' => rw [hm] at post; exact post
  | ok v ρ' =>
    rw [hm] at post
    cases v with
    | int i =>
      intro x H' Os' O rel' rep nd keep pure
      have e : x = .int i := by cases rep; rfl
      subst e
      exact ⟨i, rfl, post _ H' Os' O rel' rep nd keep pure⟩
    | _ => exact post.elim
theorem rd_mono {p s : Bool} {m : ME} {σ : L2.St} {H : Hp} {P P' : V → Hp → Prop} (h : rd G E p s m σ H P) (k : ∀ x H', P x H' → P' x H') : rd G E p s m σ H P' := by
  obtain ⟨R, ρ, Os, rel, post⟩ := h
  refine ⟨R, ρ, Os, rel, ?_⟩
  cases hm : m ρ with
  | bad => rw [hm] at post; exact post
  | exc e ρ' => rw [hm] at post; exact post
  | ok v ρ' =>
    rw [hm] at post
    exact fun x H' Os' O rel' rep nd keep pure => k _ _ (post _ H' Os' O rel' rep nd keep pure)
theorem ve_slB (hK : X.K = G.K) (h : VE G X E p s e m) (h1 : VE G X E p1 s1 a m1) (h2 : VE G X E p2 s2 b m2) (wf : ((s || (p1 && p2)) && (s1 || p2)) = true := by rfl) : VE G X E (p && (p1 && p2)) true (.Subscript e (.Slice (some a) (some b) none p2') pos) (mFun semSlB [m, mInt m1, m2]) := by
  have := ve_fun (G := G) (E := E) (os := [⟨p, s, m⟩, ⟨p1, s1, mInt m1⟩, ⟨p2, s2, m2⟩]) (pe_slice (pos := pos) (p2 := p2') (sl_any hK) h (po_some h1) (po_some h2)) (r := fun xs H Q => match xs with
    | [x, .int i, z] => ∃ j, z = .int j ∧ rSlV G.K x (some i) (some j) H Q
    | _ => False) (fun σ H Q z => ?_) (sem := semSlB) (fun W H xs vs Ol v Q w r hs mk => by
      unfold semSlB at hs
      split at hs
      · obtain ⟨x, y, z, O, O', O'', rfl, r1, r2, r3⟩ := r.inv3
        cases r2; cases r3
        exact ⟨_, rfl, ok_sl w r1 hs mk⟩
      · cases hs) (wf3 wf)
  · simpa using this
  · exact rd_mono z fun x H1 z1 => rd_int z1
end
end VL
/-! VL, part H: len, int, str, repr, max, min, isinstance, list, tuple; f-strings. -/
namespace VL
open PySem L2

theorem CallR.or {X : Cx} {f : Value} {r r' : List V → Hp → VK → Prop} (h : CallR X f r) (h' : CallR X f r') : CallR X f (fun xs H Q => r xs H Q ∨ r' xs H Q) := by
  intro pins s σ H xs us Q I rv q
  rcases q with q | q
  · exact h pins s σ H xs us Q I rv q
  · exact h' pins s σ H xs us Q I rv q

def semLen : List Val → Option Val
  | [.str z] => if z.length ≤ 16777216 then some (.int z.length) else none
  | [.lst _ xs] => some (.int xs.length)
  | [.tup xs] => some (.int xs.length)
  | [.wtp xs] => some (.int xs.length)
  | [.scr ns] => some (.int ns.length)
  | [.dct _ .k ks _] => some (.int ks.length)
  | _ => none
def semInt : List Val → Option Val
  | [.int i] => some (.int i)
  | [.bl b] => some (.int (if b then 1 else 0))
  | _ => none
def semStr : List Val → Option Val
  | [.int i] => if i.natAbs.log2 < 1920 then some (.str (toString i)) else none
  | _ => none
def semMax2 : List Val → Option Val
  | [.int i, .int j] => some (.int (if j > i then j else i))
  | _ => none
def semMin2 : List Val → Option Val
  | [.int i, .int j] => some (.int (if j < i then j else i))
  | _ => none
def semRepr : List Val → Option Val
  | [v] => match toD v with
    | some d => if d.showable = true ∧ d.depth ≤ 64 ∧ d.shown.length ≤ 16777216 then some (.str d.shown) else none
    | none => none
  | _ => none
def semList : List Val → Option Val
  | [.lst _ xs] => if fzs xs = true then some (.lst true xs) else none
  | [.tup xs] => if fzs xs = true then some (.lst true xs) else none
  | [.wtp xs] => some (.lst true xs)
  | _ => none
def semTuple : List Val → Option Val
  | [.lst _ xs] => if fzs xs = true then some (.tup xs) else none
  | [.tup xs] => if fzs xs = true then some (.tup xs) else none
  | _ => none

section
variable {G : Gam} {X : Cx}
theorem rep_scr {W : Addr → Prop} {H : Hp} {x : V} {ns : List Int} {O : List Addr} (r : Rep G W H x (.scr ns) O) : ∃ a, x = .ref a ∧ SqL G.K H a (ns.map V.int) := by
  cases r with
  | scr h => exact ⟨_, rfl, h.elim (fun ⟨o, e, _⟩ => Or.inl (Or.inr ⟨o, e⟩)) (fun z => z.elim (fun q => by rcases q with q | ⟨o, q⟩ <;> cases q) .inr)⟩
theorem rep_wtp {W : Addr → Prop} {H : Hp} {x : V} {vs : List Val} {O : List Addr} (r : Rep G W H x (.wtp vs) O) : ∃ a xs, x = .ref a ∧ SqT G.K H a xs ∧ Reps G W H xs vs [] := by
  cases r with
  | wtp h r => exact ⟨_, _, rfl, h.elim (fun q => by rcases q with q | ⟨o, q⟩ <;> cases q) .inr, r⟩
def rLenV (K : PySem.W.Frag) : List V → Hp → VK → Prop := fun xs H Q => (∃ x n, xs = [x] ∧ LenV K x H n ∧ Q (.int n) H) ∨ (∃ (d : Addr) (kvs : List (Key × V)), xs = [.ref d] ∧ Rd H d (.dK kvs) ∧ Q (.int kvs.length) H)
theorem call_lenV (hK : X.K = G.K) : CallR X (.builtin "len") (rLenV G.K) := by
  rw [← hK]
  refine CallR.or call_len ?_
  intro pins s σ H xs us Q I r h
  obtain ⟨d, kvs, e, hd, q⟩ := h
  subst e
  obtain ⟨u1, rfl, r1⟩ := vals1 r
  cases (show u1 = Value.ref d from r1)
  exact d_len I hd fun t s' I' => ⟨.int kvs.length, H, I', ⟨t, rfl⟩, q⟩
theorem ok_len : OkF G (rLenV G.K) semLen := by
  intro W H xs vs Ol v Q w r hs m
  unfold semLen at hs
  split at hs
  · obtain ⟨x, O, rfl, r1⟩ := r.inv1
    split at hs
    · rename_i hz
      cases hs; cases r1
      exact .inl ⟨_, _, rfl, ⟨sz_le hz, rfl⟩, m.same (.int _)⟩
    · cases hs
  · obtain ⟨x, O, rfl, r1⟩ := r.inv1
    cases hs
    obtain ⟨a, ys, O1, rfl, e1, q1⟩ := rep_lstL r1
    exact .inl ⟨_, _, rfl, .inl ⟨ys, .inl (.inl e1), q1.length.symm⟩, m.same (.int _)⟩
  · obtain ⟨x, O, rfl, r1⟩ := r.inv1
    cases hs
    obtain ⟨a, ys, rfl, e1, q1⟩ := rep_tupT r1
    exact .inl ⟨_, _, rfl, .inr ⟨ys, e1, q1.length.symm⟩, m.same (.int _)⟩
  · obtain ⟨x, O, rfl, r1⟩ := r.inv1
    cases hs
    obtain ⟨a, ys, rfl, e1, q1⟩ := rep_wtp r1
    exact .inl ⟨_, _, rfl, .inr ⟨ys, e1, q1.length.symm⟩, m.same (.int _)⟩
  · obtain ⟨x, O, rfl, r1⟩ := r.inv1
    cases hs
    obtain ⟨a, rfl, e1⟩ := rep_scr r1
    exact .inl ⟨_, _, rfl, .inl ⟨_, e1, by simp⟩, m.same (.int _)⟩
  · obtain ⟨x, O, rfl, r1⟩ := r.inv1
    cases hs
    cases r1 with
    | dkO h hk q => exact .inr ⟨_, _, rfl, .inl h, m.same (by rw [hk, List.length_map]; exact .int _)⟩
    | dkF h hk q => exact .inr ⟨_, _, rfl, h.1, m.same (by rw [hk, List.length_map]; exact .int _)⟩
  · cases hs
theorem ok_int : OkF G (fun xs H Q => (∃ i, xs = [.int i] ∧ Q (.int i) H) ∨ ∃ k, xs = [.bl k] ∧ Q (.int (if k then 1 else 0)) H) semInt := by
  intro W H xs vs Ol v Q w r hs m
  unfold semInt at hs
  split at hs
  · obtain ⟨x, O, rfl, r1⟩ := r.inv1
    cases hs; cases r1
    exact .inl ⟨_, rfl, m.same (.int _)⟩
  · obtain ⟨x, O, rfl, r1⟩ := r.inv1
    cases hs; cases r1
    exact .inr ⟨_, rfl, m.same (.int _)⟩
  · cases hs
theorem ok_str : OkF G (fun xs H Q => ∃ i : Int, xs = [.int i] ∧ i.natAbs.log2 < 1920 ∧ Q (.str (toString i)) H) semStr := by
  intro W H xs vs Ol v Q w r hs m
  unfold semStr at hs
  split at hs
  · obtain ⟨x, O, rfl, r1⟩ := r.inv1
    cases r1
    split at hs
    · rename_i h
      cases hs
      exact ⟨_, rfl, h, m.same (.str _)⟩
    · cases hs
  · cases hs
theorem ok_max2 : OkF G (fun xs H Q => ∃ i j : Int, xs = [.int i, .int j] ∧ Q (.int (if j > i then j else i)) H) semMax2 := by
  intro W H xs vs Ol v Q w r hs m
  unfold semMax2 at hs
  split at hs
  · obtain ⟨x, y, O, O', rfl, r1, r2⟩ := r.inv2
    cases r1; cases r2; cases hs
    exact ⟨_, _, rfl, m.same (.int _)⟩
  · cases hs
theorem ok_min2 : OkF G (fun xs H Q => ∃ i j : Int, xs = [.int i, .int j] ∧ Q (.int (if j < i then j else i)) H) semMin2 := by
  intro W H xs vs Ol v Q w r hs m
  unfold semMin2 at hs
  split at hs
  · obtain ⟨x, y, O, O', rfl, r1, r2⟩ := r.inv2
    cases r1; cases r2; cases hs
    exact ⟨_, _, rfl, m.same (.int _)⟩
  · cases hs
/-- repr of plain data -/
def rReprD (K : PySem.W.Frag) : List V → Hp → VK → Prop := fun xs H Q => ∃ x d, xs = [x] ∧ Dp K H x d ∧ d.showable = true ∧ d.depth ≤ 64 ∧ d.shown.length ≤ sizeLine ∧ Q (.str d.shown) H
theorem Reads.noDict {h : Heap} {v : Value} {d : PyData} : True := trivial
mutual
theorem dp_hasDict {K : PySem.W.Frag} {H : Hp} {x : V} {d : PyData} (h : Dp K H x d) : d.hasDict = false := by
  cases h with
  | non => rfl
  | bl b => rfl
  | int i => rfl
  | str x => rfl
  | lst hs r => simp only [PyData.hasDict]; exact dp_hasDictAll r
  | tup hs r => simp only [PyData.hasDict]; exact dp_hasDictAll r
theorem dp_hasDictAll {K : PySem.W.Frag} {H : Hp} {xs : List V} {ds : List PyData} (h : DpAll K H xs ds) : PyData.hasDictAll ds = false := by
  cases h with
  | nil => simp [PyData.hasDictAll]
  | cons h t => simp only [PyData.hasDictAll]; rw [dp_hasDict h, dp_hasDictAll t]; rfl
end
theorem call_reprD (hK : X.K = G.K) (hg : X.A.guards = some []) (hu : X.A.units + 70 < cLine) : CallR X (.builtin "repr") (rReprD G.K) := by
  rw [← hK]
  intro pins s σ H xs us Q I r h
  obtain ⟨x, d, rfl, dp, hs, hd, hz, q⟩ := h
  obtain ⟨u, rfl, rx⟩ := vals1 r
  have fin : ∀ (h' : Heap) (u : Tok) (tk : Nat), (∀ b o, s.heap.get? b = some o → h'.get? b = some o) → EP X pins σ Q (.str d.shown u) { s with heap := h', toks := tk } := fun h' u tk k => ⟨.str d.shown, H, I.kept k, ⟨_, rfl⟩, q⟩
  cases dp with
  | non => cases rx; exact PySem.P.repr_of_none (fin s.heap _ _ fun _ _ e => e)
  | bl b => cases rx; exact PySem.P.repr_of_bool (fin s.heap _ _ fun _ _ e => e)
  | int i =>
    obtain ⟨t, rfl⟩ := rx
    exact PySem.P.repr_of_int (by simpa [PyData.showable] using hs) (fin s.heap _ _ fun _ _ e => e)
  | str y =>
    obtain ⟨t, rfl⟩ := rx
    exact PySem.P.repr_of_str (fin s.heap _ _ fun _ _ e => e) (by simpa [PyData.shown] using hz)
  | @lst a ys ds hs' r' =>
    cases (show u = Value.ref a from rx)
    obtain ⟨as, rd⟩ := Dp.reads I (.list ds) (.ref a) (.ref a) (.lst hs' r') rfl
    have hn := dp_hasDict (K := X.K) (H := H) (x := .ref a) (.lst hs' r')
    exact PySem.repr_of_reads' rd hs (fun z => by rw [hn] at z; cases z) hg (by omega) (fun _ _ e => e) fin hz
  | @tup a ys ds hs' r' =>
    cases (show u = Value.ref a from rx)
    obtain ⟨as, rd⟩ := Dp.reads I (.tuple ds) (.ref a) (.ref a) (.tup hs' r') rfl
    have hn := dp_hasDict (K := X.K) (H := H) (x := .ref a) (.tup hs' r')
    exact PySem.repr_of_reads' rd hs (fun z => by rw [hn] at z; cases z) hg (by omega) (fun _ _ e => e) fin hz
theorem ok_repr : OkF G (rReprD G.K) semRepr := by
  intro W H xs vs Ol v Q w r hs m
  unfold semRepr at hs
  split at hs
  · obtain ⟨x, O, rfl, r1⟩ := r.inv1
    split at hs
    · rename_i d hd
      split at hs
      · rename_i h
        cases hs
        exact ⟨x, d, rfl, r1.dp hd, h.1, h.2.1, sz_le h.2.2, m.same (.str _)⟩
      · cases hs
    · cases hs
  · cases hs
theorem ok_list (hK : X.K = G.K) : OkF G (fun xs H Q => ∃ p ys, xs = [.ref p] ∧ (SqL X.K H p ys ∨ SqT X.K H p ys) ∧ ∀ l, H l = none → Q (.ref l) (upd H l (.lst ys))) semList := by
  rw [hK]
  intro W H xs vs Ol v Q w r hs m
  unfold semList at hs
  split at hs
  · obtain ⟨x, O, rfl, r1⟩ := r.inv1
    split at hs
    · rename_i hf
      cases hs
      obtain ⟨a, ys, O1, rfl, e1, q1⟩ := rep_lstL r1
      exact ⟨a, ys, rfl, .inl (.inl (.inl e1)), m.lst (q1.fz hf)⟩
    · cases hs
  · obtain ⟨x, O, rfl, r1⟩ := r.inv1
    split at hs
    · rename_i hf
      cases hs
      obtain ⟨a, ys, rfl, e1, q1⟩ := rep_tupT r1
      exact ⟨a, ys, rfl, .inr e1, m.lst (q1.fz hf)⟩
    · cases hs
  · obtain ⟨x, O, rfl, r1⟩ := r.inv1
    cases hs
    obtain ⟨a, ys, rfl, e1, q1⟩ := rep_wtp r1
    exact ⟨a, ys, rfl, .inr e1, m.lst q1⟩
  · cases hs
theorem ok_tuple (hK : X.K = G.K) : OkF G (fun xs H Q => ∃ p ys, xs = [.ref p] ∧ ((SqL X.K H p ys ∧ ∀ l, H l = none → Q (.ref l) (upd H l (.tup ys))) ∨ (SqT X.K H p ys ∧ Q (.ref p) H))) semTuple := by
  rw [hK]
  intro W H xs vs Ol v Q w r hs m
  unfold semTuple at hs
  split at hs
  · obtain ⟨x, O, rfl, r1⟩ := r.inv1
    split at hs
    · rename_i hf
      cases hs
      obtain ⟨a, ys, O1, rfl, e1, q1⟩ := rep_lstL r1
      exact ⟨a, ys, rfl, .inl ⟨.inl (.inl e1), m.tup (q1.fz hf) (fresh_nw w)⟩⟩
    · cases hs
  · obtain ⟨x, O, rfl, r1⟩ := r.inv1
    split at hs
    · rename_i hf
      cases hs
      obtain ⟨a, ys, rfl, e1, q1⟩ := rep_tupT r1
      exact ⟨a, ys, rfl, .inr ⟨e1, m.same (r1.fz' (by simpa [Val.fz] using hf))⟩⟩
    · cases hs
  · cases hs
end

/-! ### isinstance -/
/-- of what built-in type -/
def tyName : Val → Option String
  | .non => some "NoneType" | .bl _ => some "bool" | .int _ => some "int" | .str _ => some "str"
  | .tup _ => some "tuple" | .wtp _ => some "tuple" | .lst _ _ => some "list" | .scr _ => some "list" | .dct _ .k _ _ => some "dict" | .dct _ .t _ _ => some "dict"
  | _ => none
/-- what the text's classes are, as isinstance asks -/
structure IsiFacts (G : Gam) (sub : Nat → Nat → Bool) : Prop where
  own : ∀ n C m D, G.cn n = some C → G.cn m = some D → PySem.W.kitOne G.K (.ref C) (.ref D) = some (sub n m)
  toOwn : ∀ t m D, t ∈ ["NoneType", "bool", "int", "str", "tuple", "list", "dict"] → G.cn m = some D → PySem.W.kitOne G.K (.type t) (.ref D) = some false
  ofOwn : ∀ n C t, t ∈ ["NoneType", "bool", "int", "str", "tuple", "list", "dict"] → G.cn n = some C → PySem.W.kitOne G.K (.ref C) (.type t) = some false
  cls : ∀ n C, G.cn n = some C → Cls G.K C ∧ PySem.W.findIn G.K (.ref C) "__class__" = some (some (.builtin "object.__class__")) ∧ PySem.W.specialIn G.K (.builtin "object.__class__") "__get__" = some (some (.builtin "getset_descriptor.__get__")) ∧
    PySem.W.takesIn G.K (.builtin "object.__class__") = some true ∧ PySem.W.mroIn G.K C (.type "object") = some true
def isiB (t u : String) : Option Bool := if t ∈ ["NoneType", "bool", "int", "str", "tuple", "list", "dict"] ∧ u ∈ ["bool", "int", "str", "tuple", "list", "dict"] then some (t == u || (t == "bool" && u == "int")) else none
def semIsi (sub : Nat → Nat → Bool) : List Val → Option Val
  | [.obj _ n _ _, .cn m] => some (.bl (sub n m))
  | [.obj _ n _ _, .ty u] => if u ∈ ["NoneType", "bool", "int", "str", "tuple", "list", "dict"] then some (.bl false) else none
  | [v, .cn _] => match tyName v with
    | some t => some (.bl false)
    | none => none
  | [v, .ty u] => match tyName v with
    | some t => (isiB t u).map Val.bl
    | none => none
  | _ => none

def tyAll : List String := ["NoneType", "bool", "int", "str", "tuple", "list", "dict"]
theorem tyName_mem {v : Val} {t : String} (h : tyName v = some t) : t ∈ ["NoneType", "bool", "int", "str", "tuple", "list", "dict"] := by
  unfold tyName at h
  split at h <;> first | (cases h; decide) | cases h
theorem isiB_ok {K : PySem.W.Frag} {t u : String} {b : Bool} (h : isiB t u = some b) : PySem.W.kitOne K (.type t) (.type u) = some b := by
  unfold isiB at h
  split at h
  · rename_i hm
    cases h
    refine kit_ty ?_
    have all : ∀ t ∈ ["NoneType", "bool", "int", "str", "tuple", "list", "dict"], ∀ u ∈ ["bool", "int", "str", "tuple", "list", "dict"], kitB t u = some (t == u || (t == "bool" && u == "int")) := by decide +kernel
    exact all t hm.1 u hm.2
  · cases h
section
variable {G : Gam} {X : Cx}
theorem rep_tyX {W : Addr → Prop} {H : Hp} {x : V} {v : Val} {O : List Addr} {t : String} (r : Rep G W H x v O) (h : tyName v = some t) : TyX G.K H x (.type t) := by
  cases r with
  | non => simp [tyName] at h; subst h; exact .base .non
  | bl b => simp [tyName] at h; subst h; exact .base (.bl b)
  | int i => simp [tyName] at h; subst h; exact .base (.int i)
  | str s => simp [tyName] at h; subst h; exact .base (.str s)
  | tup h' r => simp [tyName] at h; subst h; exact .base (.tup h'.1)
  | wtp h' r =>
    simp [tyName] at h; subst h
    rcases h' with q | ⟨o, its, n, e, c, _⟩
    · rcases q with q | ⟨o, q⟩ <;> cases q
    · exact .kTuple e c
  | lstO h' r => simp [tyName] at h; subst h; exact .base (.lst h')
  | lstF h' r => simp [tyName] at h; subst h; exact .base (.lst h'.1)
  | scr h' =>
    simp [tyName] at h; subst h
    rcases h' with ⟨o, e, _⟩ | q | ⟨o, its, n, e, c, _⟩
    · exact .base (.frz e)
    · rcases q with q | ⟨o, q⟩ <;> cases q
    · exact .kList e c
  | dkO h' hk r => simp [tyName] at h; subst h; exact .base (.dK h')
  | dkF h' hk r =>
    simp [tyName] at h; subst h
    rcases h'.1 with e | ⟨o, e⟩
    · exact .base (.dK e)
    · exact .fDict e
  | dtO h' hk r => simp [tyName] at h; subst h; exact .base (.dT h')
  | dtF h' hk r => simp [tyName] at h; subst h; exact .base (.dT h'.1)
  | _ => simp [tyName] at h
theorem rep_obj {W : Addr → Prop} {H : Hp} {x : V} {o : Bool} {n : Nat} {ns : List Str} {vs : List Val} {O : List Addr} (r : Rep G W H x (.obj o n ns vs) O) : ∃ a C dx fs, x = .ref a ∧ H a = some (.ins C dx fs) ∧ G.cn n = some C ∧ ns = fs.map (·.1) := by
  cases r with
  | objO h hc hn r => exact ⟨_, _, _, _, rfl, h, hc, hn⟩
  | objF h hc hn r => exact ⟨_, _, _, _, rfl, h.1, hc, hn⟩
theorem ok_isi {sub : Nat → Nat → Bool} (F : IsiFacts G sub) : OkF G (rIsi G.K) (semIsi sub) := by
  intro W H xs vs Ol v Q w r hs m
  unfold semIsi at hs
  split at hs
  · obtain ⟨x, y, O, O', rfl, r1, r2⟩ := r.inv2
    cases r2 with
    | cn hc =>
      cases hs
      obtain ⟨a, C, dx, fs, rfl, e, hC, _⟩ := rep_obj r1
      obtain ⟨c1, c2, c3, c4, c5⟩ := F.cls _ C hC
      exact ⟨_, _, _, _, _, rfl, .own _, .base (.ins e c1 c2 c3 c4 c5), F.own _ C _ _ hC hc, m.same (.bl _)⟩
  · obtain ⟨x, y, O, O', rfl, r1, r2⟩ := r.inv2
    split at hs
    · rename_i hu
      cases hs
      cases r2
      obtain ⟨a, C, dx, fs, rfl, e, hC, _⟩ := rep_obj r1
      obtain ⟨c1, c2, c3, c4, c5⟩ := F.cls _ C hC
      exact ⟨_, _, _, _, _, rfl, .ty _, .base (.ins e c1 c2 c3 c4 c5), F.ofOwn _ C _ hu hC, m.same (.bl _)⟩
    · cases hs
  · obtain ⟨x, y, O, O', rfl, r1, r2⟩ := r.inv2
    split at hs
    · rename_i t ht
      cases hs
      cases r2 with
      | cn hc => exact ⟨_, _, _, _, _, rfl, .own _, rep_tyX r1 ht, F.toOwn t _ _ (tyName_mem ht) hc, m.same (.bl _)⟩
    · cases hs
  · obtain ⟨x, y, O, O', rfl, r1, r2⟩ := r.inv2
    split at hs
    · rename_i t ht
      cases r2
      cases hb : isiB t _ with
      | none => rw [hb] at hs; cases hs
      | some b =>
        rw [hb] at hs
        cases hs
        exact ⟨_, _, _, _, _, rfl, .ty _, rep_tyX r1 ht, isiB_ok hb, m.same (.bl _)⟩
    · cases hs
  · cases hs
end

/-! ### f-strings -/
def semFmt : Val → Option Str
  | .str y => if y.length ≤ 16777216 then some y else none
  | .int i => if i.natAbs.log2 < 1920 then some (toString i) else none
  | _ => none
def fmtAll : Str → List Val → Option Str
  | acc, [] => some acc
  | acc, v :: vs => match semFmt v with
    | some y => if (acc ++ y).length ≤ 16777216 then fmtAll (acc ++ y) vs else none
    | none => none
end VL
/-! VL, part I: calls of what the text defines: values, names whose tree the callee may change, defaults. -/
namespace VL
open PySem L2

/-- an argument: a value; a name; a default -/
inductive Arg where
  | v (o : Op) | r (i : Nat) | k (x : V) (u : Val)
def vals : List Arg → List Op
  | [] => []
  | .v o :: as => o :: vals as
  | .r _ :: as => vals as
  | .k _ _ :: as => vals as
def slotOk (ρ : VEnv) (i : Nat) : Bool := match ρ[i]? with
  | some (some _) => true
  | _ => false
def refsOk (ρ : VEnv) : List Arg → Bool
  | [] => true
  | .r i :: as => slotOk ρ i && refsOk ρ as
  | _ :: as => refsOk ρ as
def nestG (G : Gam) (E : WX) : List Arg → L2.St → Hp → (List V → Hp → Prop) → Prop
  | [], _, H, K => K [] H
  | .v o :: as, σ, H, K => rd G E o.p o.s o.m σ H fun x H1 => nestG G E as σ H1 fun xs H2 => K (x :: xs) H2
  | .r i :: as, σ, H, K => ∃ x, σ[i]? = some (some x) ∧ nestG G E as σ H fun xs H2 => K (x :: xs) H2
  | .k x _ :: as, σ, H, K => nestG G E as σ H fun xs H2 => K (x :: xs) H2
def at0 (σ : L2.St) (i : Nat) : V := match σ[i]? with
  | some (some x) => x
  | _ => .non
def merge (σ : L2.St) : List Arg → List V → List V
  | [], _ => []
  | .v _ :: as, x :: xs => x :: merge σ as xs
  | .v _ :: as, [] => .non :: merge σ as []
  | .r i :: as, xs => at0 σ i :: merge σ as xs
  | .k x _ :: as, xs => x :: merge σ as xs
def fill : List Arg → VEnv → List Val → Option (List Val × VEnv)
  | [], ρ, [] => some ([], ρ)
  | [], _, _ :: _ => none
  | .v _ :: as, ρ, v :: vs => match fill as ρ vs with
    | some (us, ρ') => some (v :: us, ρ')
    | none => none
  | .v _ :: _, _, [] => none
  | .r i :: as, ρ, vs => match ρ[i]? with
    | some (some v) => (match fill as (ρ.set i none) vs with
      | some (us, ρ') => some (v :: us, ρ')
      | none => none)
    | _ => none
  | .k _ u :: as, ρ, vs => match fill as ρ vs with
    | some (us, ρ') => some (u :: us, ρ')
    | none => none
/-- what the callee left in the names that it was given -/
def back : List Arg → VEnv → VEnv → VEnv
  | [], _, ρ => ρ
  | _ :: _, [], ρ => ρ
  | .r i :: as, some f :: fs, ρ => back as fs (ρ.set i (some f))
  | _ :: as, _ :: fs, ρ => back as fs ρ
abbrev MF := List Val → RE
def mCall (mf : MF) (as : List Arg) : ME := fun ρ => if refsOk ρ as = true then (match evalM ((vals as).map Op.m) ρ with
  | .ok vs ρ1 => (match fill as ρ1 vs with
    | some (us, ρ2) => (match mf us with
      | .ok v fs => .ok v (back as fs ρ2)
      | .exc e fs => .exc e (back as fs ρ2)
      | .bad => .bad)
    | none => .bad)
  | .exc e ρ1 => .exc e ρ1
  | .bad => .bad) else .bad
/-- a def's promise -/
def spV (G : Gam) (n : Nat) (mf : MF) : Sp := fun xs H Q E => xs.length = n ∧ ∃ R vs Oa, Rel G R H (xs.map some) (vs.map some) Oa ∧ Post G R (fun c d _ H => E c d H) (xs.map some) H Oa false true (vs.map some) Q (mf vs)
def noRefs : List Arg → Bool
  | [] => true
  | .r _ :: _ => false
  | _ :: as => noRefs as
def argsP : List Arg → Bool
  | [] => true
  | .v o :: as => o.p && argsP as
  | .r _ :: _ => false
  | .k _ _ :: as => argsP as
/-- the defaults are what they are, in every heap -/
def Dfl (G : Gam) : List Arg → Prop
  | [] => True
  | .k x u :: as => (∀ W H, Rep G W H x u []) ∧ Dfl G as
  | _ :: as => Dfl G as

section
variable {G : Gam} {E : WX} {σ : L2.St}
theorem nestG_of {as : List Arg} : ∀ {ρ : VEnv} {H : Hp} {K : List V → Hp → Prop}, (∀ (i : Nat) (v : Val), ρ[i]? = some (some v) → ∃ x, σ[i]? = some (some x)) → refsOk ρ as = true → nest G E (vals as) σ H (fun xs H' => K (merge σ as xs) H') → nestG G E as σ H K := by
  induction as with
  | nil => intro ρ H K hs ok h; exact h
  | cons a as ih =>
    intro ρ H K hs ok h
    cases a with
    | v o => exact rd_mono h fun x H1 h1 => ih hs ok h1
    | k x u => exact ih hs ok h
    | r i =>
      simp only [refsOk, Bool.and_eq_true] at ok
      obtain ⟨o1, o2⟩ := ok
      unfold slotOk at o1
      split at o1
      · rename_i v hv
        obtain ⟨x, hx⟩ := hs i v hv
        refine ⟨x, hx, ih hs o2 ?_⟩
        have e : at0 σ i = x := by unfold at0; rw [hx]
        have h' : nest G E (vals as) σ H (fun xs H' => K (merge σ (.r i :: as) xs) H') := h
        simpa only [merge, e] using h'
      · cases o1
theorem nestG_app {as : List Arg} {ks : List (V × Val)} : ∀ {H : Hp} {K : List V → Hp → Prop}, nestG G E (as ++ ks.map fun p => Arg.k p.1 p.2) σ H K → nestG G E as σ H (fun xs H' => K (xs ++ ks.map (·.1)) H') := by
  induction as with
  | nil =>
    intro H K h
    simp only [List.nil_append] at h
    unfold nestG
    induction ks generalizing K with
    | nil => exact h
    | cons k ks ih => simpa using ih h
  | cons a as ih =>
    intro H K h
    cases a with
    | v o => exact rd_mono h fun x H1 h1 => by simpa using ih h1
    | r i => obtain ⟨x, hx, h⟩ := h; exact ⟨x, hx, by simpa using ih h⟩
    | k x u =>
      unfold nestG
      have := ih (K := fun xs H' => K (x :: xs) H') h
      simpa using this

/-! ### what a call is handed -/
structure Held (G : Gam) (R : Addr → Prop) (H : Hp) (σ : L2.St) (ρ : VEnv) (Os : Nat → List Addr) (xs : List V) (vs : List Val) (Ol : List (List Addr)) : Prop where
  rel : Rel G (fun a => R a ∨ a ∈ Ol.flatten) H σ ρ Os
  rep : RepL G (WW (fun a => R a ∨ a ∈ Ol.flatten) Os) H xs vs Ol
  nd : Ol.flatten.Nodup
  nr : ∀ a ∈ Ol.flatten, ¬ R a
theorem setEq {p q : Addr → Prop} (h : ∀ a, p a ↔ q a) : p = q := funext fun a => propext (h a)
theorem Held.fill {as : List Arg} (df : Dfl G as) : ∀ {R : Addr → Prop} {H : Hp} {ρ ρ' : VEnv} {Os : Nat → List Addr} {xs : List V} {vs us : List Val} {Ol : List (List Addr)}, Held G R H σ ρ Os xs vs Ol → VL.fill as ρ vs = some (us, ρ') →
    ∃ Os' Ul, Held G R H σ ρ' Os' (merge σ as xs) us Ul ∧ (∀ a, (We Os' a ∨ a ∈ Ul.flatten) ↔ (We Os a ∨ a ∈ Ol.flatten)) ∧ (noRefs as = true → ρ' = ρ ∧ Os' = Os) := by
  induction as with
  | nil =>
    intro R H ρ ρ' Os xs vs us Ol h e
    cases vs with
    | cons v vs => simp [VL.fill] at e
    | nil =>
      simp only [VL.fill, Option.some.injEq, Prod.mk.injEq] at e
      obtain ⟨rfl, rfl⟩ := e
      obtain ⟨h1, h2, h3, h4⟩ := h
      cases h2
      exact ⟨Os, [], ⟨h1, .nil, h3, h4⟩, fun a => Iff.rfl, fun _ => ⟨rfl, rfl⟩⟩
  | cons a as ih =>
    intro R H ρ ρ' Os xs vs us Ol h e
    cases a with
    | v o =>
      cases vs with
      | nil => simp [VL.fill] at e
      | cons v vs =>
        simp only [VL.fill] at e
        cases hf : VL.fill as ρ vs with
        | none => rw [hf] at e; cases e
        | some p =>
          obtain ⟨us', ρ2⟩ := p
          rw [hf] at e
          simp only [Option.some.injEq, Prod.mk.injEq] at e
          obtain ⟨rfl, rfl⟩ := e
          obtain ⟨h1, h2, h3, h4⟩ := h
          cases h2 with
          | @cons x _ O xs' _ Ol' r t =>
            rw [List.flatten_cons] at h1 r t h3 h4
            have s1 : (fun a => R a ∨ a ∈ O ++ Ol'.flatten) = fun a => (R a ∨ a ∈ O) ∨ a ∈ Ol'.flatten := setEq fun a => by rw [List.mem_append]; exact or_assoc.symm
            obtain ⟨n1, n2, n3⟩ := List.nodup_append.mp h3
            rw [s1] at h1 r t
            have H' : Held G (fun a => R a ∨ a ∈ O) H σ ρ Os xs' vs Ol' := ⟨h1, t, n2, fun a ha z => z.elim (h4 a (List.mem_append_right _ ha)) fun z => n3 a z a ha rfl⟩
            obtain ⟨Os', Ul, g, eqv, nrf⟩ := ih df H' hf
            have s2 : (fun a => (R a ∨ a ∈ O) ∨ a ∈ Ul.flatten) = fun a => R a ∨ a ∈ (O :: Ul).flatten := setEq fun a => by rw [List.flatten_cons, List.mem_append]; exact or_assoc
            have s3 : WW (fun a => (R a ∨ a ∈ O) ∨ a ∈ Ol'.flatten) Os = WW (fun a => (R a ∨ a ∈ O) ∨ a ∈ Ul.flatten) Os' := setEq fun a => by
              unfold WW
              have := eqv a
              constructor
              · rintro ((z | z) | z)
                · exact .inl (.inl z)
                · exact (this.mpr (.inr z)).elim .inr fun z => .inl (.inr z)
                · exact (this.mpr (.inl z)).elim .inr fun z => .inl (.inr z)
              · rintro ((z | z) | z)
                · exact .inl (.inl z)
                · exact (this.mp (.inr z)).elim .inr fun z => .inl (.inr z)
                · exact (this.mp (.inl z)).elim .inr fun z => .inl (.inr z)
            rw [s3] at r
            obtain ⟨g1, g2, g3, g4⟩ := g
            rw [s2] at g1 g2 r
            refine ⟨Os', O :: Ul, ⟨g1, .cons r g2, ?_, fun a ha => ?_⟩, fun a => ?_, nrf⟩
            · rw [List.flatten_cons]
              exact List.nodup_append.mpr ⟨n1, g3, fun a ha b hb e => g4 b hb (.inr (e ▸ ha))⟩
            · rw [List.flatten_cons] at ha
              rcases List.mem_append.mp ha with z | z
              · exact h4 a (List.mem_append_left _ z)
              · exact fun q => g4 a z (.inl q)
            · rw [List.flatten_cons, List.flatten_cons, List.mem_append, List.mem_append]
              have := eqv a
              constructor
              · rintro (z | z | z)
                · exact (this.mp (.inl z)).imp id .inr
                · exact .inr (.inl z)
                · exact (this.mp (.inr z)).imp id .inr
              · rintro (z | z | z)
                · exact (this.mpr (.inl z)).imp id .inr
                · exact .inr (.inl z)
                · exact (this.mpr (.inr z)).imp id .inr
    | k x u =>
      simp only [VL.fill] at e
      cases hf : VL.fill as ρ vs with
      | none => rw [hf] at e; cases e
      | some p =>
        obtain ⟨us', ρ2⟩ := p
        rw [hf] at e
        simp only [Option.some.injEq, Prod.mk.injEq] at e
        obtain ⟨rfl, rfl⟩ := e
        obtain ⟨Os', Ul, g, eqv, nrf⟩ := ih df.2 h hf
        obtain ⟨g1, g2, g3, g4⟩ := g
        refine ⟨Os', [] :: Ul, ⟨by simpa using g1, by simpa [merge] using RepL.cons (df.1 _ _) g2, by simpa using g3, by simpa using g4⟩, by simpa using eqv, nrf⟩
    | r i =>
      simp only [VL.fill] at e
      cases hv : ρ[i]? with
      | none => rw [hv] at e; cases e
      | some q =>
        cases q with
        | none => rw [hv] at e; cases e
        | some v =>
          rw [hv] at e
          dsimp only at e
          cases hf : VL.fill as (ρ.set i none) vs with
          | none => rw [hf] at e; cases e
          | some p =>
            obtain ⟨us', ρ2⟩ := p
            rw [hf] at e
            simp only [Option.some.injEq, Prod.mk.injEq] at e
            obtain ⟨rfl, rfl⟩ := e
            obtain ⟨h1, h2, h3, h4⟩ := h
            obtain ⟨x, hx, rel', rep⟩ := h1.take hv
            have weq : ∀ a, (We (fun j => if j = i then [] else Os j) a ∨ a ∈ Os i) ↔ We Os a := fun a => by
              constructor
              · rintro (⟨j, z⟩ | z)
                · by_cases hj : j = i
                  · simp [hj] at z
                  · simp only [hj, if_false] at z; exact ⟨j, z⟩
                · exact ⟨i, z⟩
              · rintro ⟨j, z⟩
                by_cases hj : j = i
                · exact .inr (hj ▸ z)
                · exact .inl ⟨j, by simp only [hj, if_false]; exact z⟩
            have s1 : (fun a => (R a ∨ a ∈ Ol.flatten) ∨ a ∈ Os i) = fun a => (R a ∨ a ∈ Os i) ∨ a ∈ Ol.flatten := setEq fun a => by
              constructor
              · rintro ((z | z) | z)
                · exact .inl (.inl z)
                · exact .inr z
                · exact .inl (.inr z)
              · rintro ((z | z) | z)
                · exact .inl (.inl z)
                · exact .inr z
                · exact .inl (.inr z)
            have s0 : WW (fun a => R a ∨ a ∈ Ol.flatten) Os = WW (fun a => (R a ∨ a ∈ Os i) ∨ a ∈ Ol.flatten) (fun j => if j = i then [] else Os j) := setEq fun a => by
              unfold WW
              rw [← weq a]
              constructor
              · rintro ((z | z) | z | z)
                · exact .inl (.inl (.inl z))
                · exact .inl (.inr z)
                · exact .inr z
                · exact .inl (.inl (.inr z))
              · rintro (((z | z) | z) | z)
                · exact .inl (.inl z)
                · exact .inr (.inr z)
                · exact .inl (.inr z)
                · exact .inr (.inl z)
            rw [s1] at rel' rep
            rw [s0] at h2
            have H' : Held G (fun a => R a ∨ a ∈ Os i) H σ (ρ.set i none) (fun j => if j = i then [] else Os j) xs vs Ol := ⟨rel', h2, h3, fun a ha z => z.elim (h4 a ha) fun z => h1.dr i a z (.inr ha)⟩
            obtain ⟨Os', Ul, g, eqv, nrf⟩ := ih df H' hf
            obtain ⟨g1, g2, g3, g4⟩ := g
            have s2 : (fun a => (R a ∨ a ∈ Os i) ∨ a ∈ Ul.flatten) = fun a => R a ∨ a ∈ (Os i :: Ul).flatten := setEq fun a => by rw [List.flatten_cons, List.mem_append]; exact or_assoc
            have s3 : WW (fun a => (R a ∨ a ∈ Os i) ∨ a ∈ Ol.flatten) (fun j => if j = i then [] else Os j) = WW (fun a => (R a ∨ a ∈ Os i) ∨ a ∈ Ul.flatten) Os' := setEq fun a => by
              unfold WW
              have := eqv a
              constructor
              · rintro ((z | z) | z)
                · exact .inl (.inl z)
                · exact (this.mpr (.inr z)).elim .inr fun z => .inl (.inr z)
                · exact (this.mpr (.inl z)).elim .inr fun z => .inl (.inr z)
              · rintro ((z | z) | z)
                · exact .inl (.inl z)
                · exact (this.mp (.inr z)).elim .inr fun z => .inl (.inr z)
                · exact (this.mp (.inl z)).elim .inr fun z => .inl (.inr z)
            rw [s3] at rep
            rw [s2] at g1 g2 rep
            have ea : at0 σ i = x := by unfold at0; rw [hx]
            refine ⟨Os', Os i :: Ul, ⟨g1, ?_, ?_, fun a ha => ?_⟩, fun a => ?_, fun z => by cases z⟩
            · unfold merge
              rw [ea]
              exact .cons rep g2
            · rw [List.flatten_cons]
              exact List.nodup_append.mpr ⟨h1.nd i, g3, fun a ha b hb e => g4 b hb (.inr (e ▸ ha))⟩
            · rw [List.flatten_cons] at ha
              rcases List.mem_append.mp ha with z | z
              · exact fun q => h1.dr i a z (.inl q)
              · exact fun q => g4 a z (.inl q)
            · rw [List.flatten_cons, List.mem_append, ← weq a]
              have := eqv a
              constructor
              · rintro (z | z | z)
                · exact (this.mp (.inl z)).imp .inl id
                · exact .inl (.inr z)
                · exact (this.mp (.inr z)).imp .inl id
              · rintro ((z | z) | z)
                · exact (this.mpr (.inl z)).imp id .inr
                · exact .inr (.inl z)
                · exact (this.mpr (.inr z)).imp id .inr

theorem flat_get : ∀ {Ul : List (List Addr)} {i : Nat} {a : Addr}, a ∈ Ul.getD i [] → a ∈ Ul.flatten
  | [], i, a, h => by simp at h
  | O :: Ul, 0, a, h => by rw [List.flatten_cons]; exact List.mem_append_left _ (by simpa using h)
  | O :: Ul, i + 1, a, h => by rw [List.flatten_cons]; exact List.mem_append_right _ (flat_get (i := i) (by simpa using h))
theorem get_flat : ∀ {Ul : List (List Addr)} {a : Addr}, a ∈ Ul.flatten → ∃ i, a ∈ Ul.getD i []
  | [], a, h => by simp at h
  | O :: Ul, a, h => by
    rw [List.flatten_cons] at h
    rcases List.mem_append.mp h with z | z
    · exact ⟨0, by simpa using z⟩
    · obtain ⟨i, q⟩ := get_flat z
      exact ⟨i + 1, by simpa using q⟩
theorem flat_nd : ∀ {Ul : List (List Addr)} {i : Nat}, Ul.flatten.Nodup → (Ul.getD i []).Nodup
  | [], i, _ => by simp
  | O :: Ul, 0, h => by rw [List.flatten_cons] at h; simpa using (List.nodup_append.mp h).1
  | O :: Ul, i + 1, h => by rw [List.flatten_cons] at h; simpa using flat_nd (i := i) (List.nodup_append.mp h).2.1
theorem flat_dj : ∀ {Ul : List (List Addr)} {i j : Nat} {a : Addr}, Ul.flatten.Nodup → a ∈ Ul.getD i [] → a ∈ Ul.getD j [] → i = j
  | [], i, j, a, _, h, _ => by simp at h
  | O :: Ul, 0, 0, a, _, _, _ => rfl
  | O :: Ul, 0, j + 1, a, h, h1, h2 => by
    rw [List.flatten_cons] at h
    exact absurd rfl ((List.nodup_append.mp h).2.2 a (by simpa using h1) a (flat_get (i := j) (by simpa using h2)))
  | O :: Ul, i + 1, 0, a, h, h1, h2 => by
    rw [List.flatten_cons] at h
    exact absurd rfl ((List.nodup_append.mp h).2.2 a (by simpa using h2) a (flat_get (i := i) (by simpa using h1)))
  | O :: Ul, i + 1, j + 1, a, h, h1, h2 => by
    rw [List.flatten_cons] at h
    exact congrArg (· + 1) (flat_dj (i := i) (j := j) (List.nodup_append.mp h).2.1 (by simpa using h1) (by simpa using h2))
theorem RepL.get {W : Addr → Prop} {H : Hp} {xs : List V} {vs : List Val} {Ol : List (List Addr)} (r : RepL G W H xs vs Ol) : ∀ {i : Nat} {v : Val}, vs[i]? = some v → ∃ x, xs[i]? = some x ∧ Rep G W H x v (Ol.getD i []) := by
  induction r with
  | nil => intro i v h; simp at h
  | cons r t ih =>
    intro i v h
    cases i with
    | zero => simp at h; subst h; exact ⟨_, List.getElem?_cons_zero, by simpa using r⟩
    | succ i => obtain ⟨x, e, q⟩ := ih (i := i) (by simpa using h); exact ⟨x, by simpa using e, by simpa using q⟩
/-- the callee's view of what it was handed -/
theorem Held.view {R : Addr → Prop} {H : Hp} {ρ : VEnv} {Os : Nat → List Addr} {xs : List V} {us : List Val} {Ul : List (List Addr)} (h : Held G R H σ ρ Os xs us Ul) :
    Rel G (fun a => R a ∨ We Os a) H (xs.map some) (us.map some) (fun j => Ul.getD j []) := by
  have wf : ∀ a, We (fun j => Ul.getD j []) a ↔ a ∈ Ul.flatten := fun a => ⟨fun ⟨i, z⟩ => flat_get z, fun z => get_flat z⟩
  have hw : WW (fun a => R a ∨ a ∈ Ul.flatten) Os = WW (fun a => R a ∨ We Os a) (fun j => Ul.getD j []) := setEq fun a => by
    unfold WW
    rw [wf a]
    constructor
    · rintro ((z | z) | z)
      · exact .inl (.inl z)
      · exact .inr z
      · exact .inl (.inr z)
    · rintro ((z | z) | z)
      · exact .inl (.inl z)
      · exact .inr z
      · exact .inl (.inr z)
  obtain ⟨h1, h2, h3, h4⟩ := h
  rw [hw] at h2
  obtain ⟨l1, l2⟩ := h2.len
  refine ⟨by simp [l1], fun i v hv => ?_, fun i hi => ?_, fun i => flat_nd h3, fun i j a ha hb => flat_dj h3 ha hb, fun i a ha z => ?_, fun a z => ?_⟩
  · rw [List.getElem?_map] at hv
    cases e : us[i]? with
    | none => rw [e] at hv; cases hv
    | some u =>
      rw [e] at hv
      cases hv
      obtain ⟨x, e1, r⟩ := h2.get e
      exact ⟨x, by rw [List.getElem?_map, e1]; rfl, r⟩
  · have : us.length ≤ i := by
      by_cases q : i < us.length
      · exact absurd (by rw [List.getElem?_map, List.getElem?_eq_getElem q]; rfl) (hi us[i])
      · omega
    show Ul.getD i [] = []
    rw [List.getD_eq_getElem?_getD, List.getElem?_eq_none (by omega)]
    rfl
  · rcases z with z | z
    · exact h4 a (flat_get ha) z
    · exact h1.nr (.inr (flat_get ha)) z
  · exact z.elim (fun z => h1.rt a (.inl z)) fun z => h1.we z
/-- one more of the callee's names is not looked at -/
theorem Rel.tail {R : Addr → Prop} {H : Hp} {x : Option V} {xs : L2.St} {f : Option Val} {fs : VEnv} {Oa : Nat → List Addr} (r : Rel G R H (x :: xs) (f :: fs) Oa) : Rel G (fun a => R a ∨ a ∈ Oa 0) H xs fs (fun j => Oa (j + 1)) := by
  have we : ∀ a, WW R Oa a ↔ WW (fun a => R a ∨ a ∈ Oa 0) (fun j => Oa (j + 1)) a := fun a => by
    constructor
    · rintro (z | ⟨i, z⟩)
      · exact .inl (.inl z)
      · cases i with
        | zero => exact .inl (.inr z)
        | succ i => exact .inr ⟨i, z⟩
    · rintro ((z | z) | ⟨i, z⟩)
      · exact .inl z
      · exact .inr ⟨0, z⟩
      · exact .inr ⟨i + 1, z⟩
  have hw := setEq we
  refine ⟨by have := r.len; simpa using this, fun i v hv => ?_, fun i hi => r.nil (i + 1) fun v hv => hi v (by simpa using hv), fun i => r.nd (i + 1), fun i j a ha hb => by have := r.dj (i + 1) (j + 1) a ha hb; omega, fun i a ha z => ?_, fun a z => ?_⟩
  · obtain ⟨y, e, q⟩ := r.rep (i + 1) v (by simpa using hv)
    exact ⟨y, by simpa using e, by rw [← hw]; exact q⟩
  · rcases z with z | z
    · exact r.dr (i + 1) a ha z
    · have := r.dj (i + 1) 0 a ha z; omega
  · exact z.elim (r.rt a) fun z => r.there a z
/-- the names that the callee was given are the caller's again -/
theorem back_of {as : List Arg} : ∀ {R : Addr → Prop} {H : Hp} {ρ : VEnv} {Os Oa : Nat → List Addr} {xs : List V} {ys : L2.St} {fs : VEnv}, Rel G (fun a => R a ∨ We Oa a) H σ ρ Os → (∀ a, R a → ¬ We Oa a) → Rel G (fun a => R a ∨ We Os a) H ((merge σ as xs).map some ++ ys) fs Oa → refsOk (σ.map fun o => o.map fun _ => Val.non) as = true → (∀ i, Arg.r i ∈ as → i < ρ.length) →
    ∃ Os', Rel G R H σ (back as fs ρ) Os' ∧ (∀ a, We Os' a → We Os a ∨ We Oa a) ∧ (noRefs as = true → back as fs ρ = ρ ∧ Os' = Os) := by
  induction as with
  | nil => intro R H ρ Os Oa xs ys fs h hd c ok il; exact ⟨Os, h.weak fun a z => .inl z, fun a z => .inl z, fun _ => ⟨rfl, rfl⟩⟩
  | cons a as ih =>
    intro R H ρ Os Oa xs ys fs h hd c ok il
    cases fs with
    | nil => have := c.len; cases a <;> cases xs <;> simp [merge] at this
    | cons f fs =>
      obtain ⟨x, xs', e, ex⟩ : ∃ x xs', merge σ (a :: as) xs = x :: merge σ as xs' ∧ ∀ i, a = .r i → x = at0 σ i := by
        cases a with
        | v o => cases xs with
          | nil => exact ⟨_, [], rfl, fun i z => by cases z⟩
          | cons x xs => exact ⟨x, xs, rfl, fun i z => by cases z⟩
        | r i => exact ⟨_, xs, rfl, fun j z => by cases z; rfl⟩
        | k x u => exact ⟨x, xs, rfl, fun i z => by cases z⟩
      rw [e] at c
      have il' : ∀ i, Arg.r i ∈ as → i < ρ.length := fun i hi => il i (List.mem_cons_of_mem _ hi)
      have ok' : refsOk (σ.map fun o => o.map fun _ => Val.non) as = true := by
        cases a with
        | v o => exact ok
        | k x u => exact ok
        | r i => simp only [refsOk, Bool.and_eq_true] at ok; exact ok.2
      have sW : ∀ a, We Oa a ↔ (a ∈ Oa 0 ∨ We (fun j => Oa (j + 1)) a) := fun a => by
        constructor
        · rintro ⟨i, z⟩
          cases i with
          | zero => exact .inl z
          | succ i => exact .inr ⟨i, z⟩
        · rintro (z | ⟨i, z⟩)
          · exact ⟨0, z⟩
          · exact ⟨i + 1, z⟩
      have drop : ∃ Os', Rel G R H σ (back as fs ρ) Os' ∧ (∀ a, We Os' a → We Os a ∨ We Oa a) ∧ (noRefs as = true → back as fs ρ = ρ ∧ Os' = Os) := by
        obtain ⟨Os', h1, h2, h3⟩ := ih (R := R) (ρ := ρ) (Os := Os) (Oa := fun j => Oa (j + 1)) (h.weak fun a z => z.imp id fun z => (sW a).mpr (.inr z)) (fun a z q => hd a z ((sW a).mpr (.inr q))) (c.tail.weak fun a z => .inl z) ok' il'
        exact ⟨Os', h1, fun a z => (h2 a z).imp id fun z => (sW a).mpr (.inr z), h3⟩
      cases a with
      | v o => cases f <;> exact drop
      | k x u => cases f <;> exact drop
      | r i =>
        cases f with
        | none =>
          obtain ⟨Os', h1, h2, h3⟩ := drop
          exact ⟨Os', h1, h2, fun z => by cases z⟩
        | some u =>
          obtain ⟨y, ey, ru⟩ := c.rep 0 u rfl
          have ey' : x = y := by simpa using ey
          subst ey'
          have s1 : (fun a => R a ∨ We Oa a) = fun a => (R a ∨ We (fun j => Oa (j + 1)) a) ∨ a ∈ Oa 0 := setEq fun a => by
            rw [sW a]
            constructor
            · rintro (z | z | z)
              · exact .inl (.inl z)
              · exact .inr z
              · exact .inl (.inr z)
            · rintro ((z | z) | z)
              · exact .inl z
              · exact .inr (.inr z)
              · exact .inr (.inl z)
          rw [s1] at h
          have s2 : WW (fun a => R a ∨ We Os a) Oa = WW (fun a => (R a ∨ We (fun j => Oa (j + 1)) a) ∨ a ∈ Oa 0) Os := setEq fun a => by
            unfold WW
            rw [sW a]
            constructor
            · rintro ((z | z) | z | z)
              · exact .inl (.inl (.inl z))
              · exact .inr z
              · exact .inl (.inr z)
              · exact .inl (.inl (.inr z))
            · rintro (((z | z) | z) | z)
              · exact .inl (.inl z)
              · exact .inr (.inr z)
              · exact .inr (.inl z)
              · exact .inl (.inr z)
          rw [s2] at ru
          have hi := il i List.mem_cons_self
          have put := h.put ru (c.nd 0) hi (fun a ha z => z.elim (fun z => hd a z ⟨0, ha⟩) fun ⟨j, z⟩ => by have := c.dj 0 (j + 1) a ha z; omega)
          have es : σ.set i (some x) = σ := by
            have hx := ex i rfl
            have ok1 : slotOk (σ.map fun o => o.map fun _ => Val.non) i = true := by simp only [refsOk, Bool.and_eq_true] at ok; exact ok.1
            unfold slotOk at ok1
            unfold at0 at hx
            rw [List.getElem?_map] at ok1
            cases q : σ[i]? with
            | none => rw [q] at ok1; cases ok1
            | some o =>
              cases o with
              | none => rw [q] at ok1; cases ok1
              | some y =>
                rw [q] at hx
                simp only at hx
                subst hx
                apply List.ext_getElem?
                intro j
                by_cases hj : j = i
                · subst hj
                  rw [List.getElem?_set_self (by have := (List.getElem?_eq_some_iff.mp q).1; exact this), q]
                · rw [List.getElem?_set_ne (Ne.symm hj)]
          rw [es] at put
          have weq : ∀ a, We (fun j => if j = i then Oa 0 else Os j) a → We Os a ∨ a ∈ Oa 0 := fun a ⟨j, z⟩ => by
            by_cases hj : j = i
            · simp only [hj, if_true] at z; exact .inr z
            · simp only [hj, if_false] at z; exact .inl ⟨j, z⟩
          obtain ⟨Os', h1, h2, h3⟩ := ih (R := R) (ρ := ρ.set i (some u)) (Oa := fun j => Oa (j + 1)) put (fun a z q => hd a z ((sW a).mpr (.inr q))) (c.tail.weak fun a z => z.elim (fun z => .inl (.inl z)) fun z => (weq a z).elim (fun z => .inl (.inr z)) .inr) ok' (fun j hj => by rw [List.length_set]; exact il' j hj)
          refine ⟨Os', h1, fun a z => ?_, fun z => by cases z⟩
          rcases h2 a z with z | z
          · exact (weq a z).imp id fun z => (sW a).mpr (.inl z)
          · exact .inr ((sW a).mpr (.inr z))

theorem refs_some {as : List Arg} {ρ : VEnv} (hs : ∀ (i : Nat) (v : Val), ρ[i]? = some (some v) → ∃ x, σ[i]? = some (some x)) (ok : refsOk ρ as = true) : refsOk (σ.map fun o => o.map fun _ => Val.non) as = true := by
  induction as with
  | nil => rfl
  | cons a as ih =>
    cases a with
    | v o => exact ih ok
    | k x u => exact ih ok
    | r i =>
      simp only [refsOk, Bool.and_eq_true] at ok ⊢
      refine ⟨?_, ih ok.2⟩
      have o1 := ok.1
      unfold slotOk at o1 ⊢
      split at o1
      · rename_i v hv
        obtain ⟨x, hx⟩ := hs i v hv
        rw [List.getElem?_map, hx]
        rfl
      · cases o1
theorem refs_lt {as : List Arg} {ρ : VEnv} (ok : refsOk ρ as = true) : ∀ i, Arg.r i ∈ as → i < ρ.length := by
  induction as with
  | nil => intro i h; cases h
  | cons a as ih =>
    intro i h
    cases a with
    | v o => rcases List.mem_cons.mp h with z | z
             · cases z
             · exact ih ok i z
    | k x u => rcases List.mem_cons.mp h with z | z
               · cases z
               · exact ih ok i z
    | r j =>
      simp only [refsOk, Bool.and_eq_true] at ok
      rcases List.mem_cons.mp h with z | z
      · cases z
        have o1 := ok.1
        unfold slotOk at o1
        split at o1
        · rename_i v hv
          exact (List.getElem?_eq_some_iff.mp hv).1
        · cases o1
      · exact ih ok.2 i z
theorem fill_len : ∀ {as : List Arg} {ρ ρ' : VEnv} {vs us : List Val}, fill as ρ vs = some (us, ρ') → us.length = as.length ∧ ρ'.length = ρ.length
  | [], ρ, ρ', vs, us, h => by
    cases vs with
    | nil => simp only [fill, Option.some.injEq, Prod.mk.injEq] at h; obtain ⟨rfl, rfl⟩ := h; exact ⟨rfl, rfl⟩
    | cons v vs => simp [fill] at h
  | .v o :: as, ρ, ρ', vs, us, h => by
    cases vs with
    | nil => simp [fill] at h
    | cons v vs =>
      simp only [fill] at h
      cases hf : fill as ρ vs with
      | none => rw [hf] at h; cases h
      | some p => obtain ⟨a, b⟩ := p; rw [hf] at h; simp only [Option.some.injEq, Prod.mk.injEq] at h; obtain ⟨rfl, rfl⟩ := h; obtain ⟨h1, h2⟩ := fill_len hf; exact ⟨by simp [h1], h2⟩
  | .k x u :: as, ρ, ρ', vs, us, h => by
    simp only [fill] at h
    cases hf : fill as ρ vs with
    | none => rw [hf] at h; cases h
    | some p => obtain ⟨a, b⟩ := p; rw [hf] at h; simp only [Option.some.injEq, Prod.mk.injEq] at h; obtain ⟨rfl, rfl⟩ := h; obtain ⟨h1, h2⟩ := fill_len hf; exact ⟨by simp [h1], h2⟩
  | .r i :: as, ρ, ρ', vs, us, h => by
    simp only [fill] at h
    cases hv : ρ[i]? with
    | none => rw [hv] at h; cases h
    | some q =>
      cases q with
      | none => rw [hv] at h; cases h
      | some v =>
        rw [hv] at h
        dsimp only at h
        cases hf : fill as (ρ.set i none) vs with
        | none => rw [hf] at h; cases h
        | some p => obtain ⟨a, b⟩ := p; rw [hf] at h; simp only [Option.some.injEq, Prod.mk.injEq] at h; obtain ⟨rfl, rfl⟩ := h; obtain ⟨h1, h2⟩ := fill_len hf; exact ⟨by simp [h1], by simpa using h2⟩
theorem argsP_iff : ∀ {as : List Arg}, argsP as = true → noRefs as = true ∧ (vals as).all (·.p) = true
  | [], _ => ⟨rfl, rfl⟩
  | .v o :: as, h => by
    simp only [argsP, Bool.and_eq_true] at h
    obtain ⟨h1, h2⟩ := argsP_iff h.2
    exact ⟨h1, by simp [vals, h.1, h2]⟩
  | .k x u :: as, h => argsP_iff (as := as) h
  | .r i :: as, h => by cases h
/-- THE CALL -/
theorem call_of {as : List Arg} {mf : MF} (df : Dfl G as) (hs : (vals as).all (·.s) = true) {H : Hp} {Q : VK} {n : Nat} (hn : as.length = n) (h : rd G E (argsP as) true (mCall mf as) σ H Q) : nestG G E as σ H (fun xs H1 => spV G n mf xs H1 Q (WE E σ)) := by
  obtain ⟨R, ρ, Os, rel, post⟩ := h
  unfold mCall at post
  by_cases ok : refsOk ρ as = true
  rotate_left
  · rw [if_neg ok] at post; exact post.elim
  rw [if_pos ok] at post
  refine nestG_of (ρ := ρ) (fun i v hv => let ⟨x, hx, _⟩ := rel.rep i v hv; ⟨x, hx⟩) ok (nest_of (wf_all hs) rel ?_)
  rw [evalA_eq]
  cases he : evalM ((vals as).map Op.m) ρ with
  | bad => rw [he] at post; exact post
  | exc e ρ' => rw [he] at post; exact post
  | ok vs ρ1 =>
    rw [he] at post
    dsimp only at post
    cases hf : fill as ρ1 vs with
    | none => rw [hf] at post; exact post.elim
    | some q =>
      obtain ⟨us, ρ2⟩ := q
      rw [hf] at post
      dsimp only at post
      intro xs H1 Os1 Ol rel1 reps nd1 keep1 pure1
      have hlen := reps.len
      have hv := evalM_len he
      rw [List.length_map] at hv
      have es := stab_all hs (hv.symm.trans hlen.2)
      rw [es] at rel1 nd1 reps keep1
      have hnr : ∀ a ∈ Ol.flatten, ¬ R a := fun a ha z => by
        obtain ⟨o, e⟩ := rel.rt a z
        obtain ⟨_, _, n⟩ := keep1 a o e (rel.nr z)
        exact n ha
      obtain ⟨Os2, Ul, held, eqv, nrf⟩ := Held.fill df ⟨rel1, reps, nd1, hnr⟩ hf
      have view := held.view
      have wf : ∀ a, We (fun j => Ul.getD j []) a ↔ a ∈ Ul.flatten := fun a => ⟨fun ⟨i, z⟩ => flat_get z, fun z => get_flat z⟩
      have mlen : (merge σ as xs).length = n := by
        have := held.rep.len.1
        rw [this, (fill_len hf).1, hn]
      refine ⟨mlen, fun a => R a ∨ We Os2 a, us, fun j => Ul.getD j [], view, ?_⟩
      have okσ : refsOk (σ.map fun o => o.map fun _ => Val.non) as = true := refs_some (fun i v hv => let ⟨x, hx, _⟩ := rel.rep i v hv; ⟨x, hx⟩) ok
      have il : ∀ i, Arg.r i ∈ as → i < ρ2.length := fun i hi => by
        have l1 := rel.len
        have l2 := held.rel.len
        rw [← l2, l1]
        exact refs_lt ok i hi
      /- behind the callee: the caller's names, O what is left over -/
      have after : ∀ {O : List Addr} {s : Bool} {H2 : Hp} {Oa2 : Nat → List Addr} {fs : VEnv}, Rel G (Rp (fun a => R a ∨ We Os2 a) s O) H2 ((merge σ as xs).map some) fs Oa2 → KeepE H1 (fun j => Ul.getD j []) H2 Oa2 (fun a => s = true ∧ a ∈ O) →
          ∃ Os3, Rel G (Rp R s O) H2 σ (back as fs ρ2) Os3 ∧ (∀ a, We Os3 a → We Os2 a ∨ We Oa2 a) ∧ (noRefs as = true → back as fs ρ2 = ρ2 ∧ Os3 = Os2) ∧ KeepE H Os H2 Os3 (fun a => s = true ∧ a ∈ O) := by
        intro O s H2 Oa2 fs rel2 k2
        have nWe2 : ∀ a, We Os2 a → ¬ We (fun j => Ul.getD j []) a := fun a z q => view.nr (.inr z) q
        have kept : ∀ a o, H1 a = some o → ¬ a ∈ Ul.flatten → H2 a = some o ∧ ¬ We Oa2 a ∧ ¬ (s = true ∧ a ∈ O) := fun a o e nw => k2 a o e fun z => nw ((wf a).mp z)
        have relC : Rel G (fun a => Rp R s O a ∨ We Oa2 a) H2 σ ρ2 Os2 := by
          have hr := held.rel
          refine ⟨hr.len, fun i v hv => ?_, hr.nil, hr.nd, hr.dj, fun i a ha z => ?_, fun a z => ?_⟩
          · obtain ⟨x, hx, r⟩ := hr.rep i v hv
            refine ⟨x, hx, r.mono (fun a o e nw => ?_) fun a ha o e => (kept a o e fun z => hr.dr i a ha (.inr z)).1⟩
            obtain ⟨e2, n1, n2⟩ := kept a o e fun z => nw (.inl (.inr z))
            refine ⟨e2, fun z => ?_⟩
            rcases z with ((z | z) | z) | z
            · exact nw (.inl (.inl z))
            · exact n2 z
            · exact n1 z
            · exact nw (.inr z)
          · obtain ⟨o, e⟩ := hr.there a ha
            obtain ⟨_, n1, n2⟩ := kept a o e fun z => hr.dr i a ha (.inr z)
            rcases z with (z | z) | z
            · exact hr.dr i a ha (.inl z)
            · exact n2 z
            · exact n1 z
          · rcases z with (z | z) | z
            · exact rel2.rt a (.inl (.inl z))
            · exact rel2.rt a (.inr z)
            · exact rel2.we z
        have rel2' : Rel G (fun a => Rp R s O a ∨ We Os2 a) H2 ((merge σ as xs).map some ++ []) fs Oa2 := by
          rw [List.append_nil]
          exact rel2.weak fun a z => by
            rcases z with (z | z) | z
            · exact .inl (.inl z)
            · exact .inr z
            · exact .inl (.inr z)
        obtain ⟨Os3, r3, w3, n3⟩ := back_of (as := as) relC (fun a z q => by
          rcases z with z | z
          · exact rel2.nr (.inl (.inl z)) q
          · exact rel2.nr (.inr z) q) rel2' okσ il
        refine ⟨Os3, r3, w3, n3, fun a o e nw => ?_⟩
        obtain ⟨e1, m1, m2⟩ := keep1 a o e nw
        have m3 : ¬ (We Os2 a ∨ a ∈ Ul.flatten) := fun z => ((eqv a).mp z).elim m1 m2
        obtain ⟨e2, m4, m5⟩ := kept a o e1 fun z => m3 (.inr z)
        exact ⟨e2, fun z => (w3 a z).elim (fun z => m3 (.inl z)) m4, m5⟩
      cases hm : mf us with
      | bad => rw [hm] at post; exact post
      | exc e fs =>
        rw [hm] at post
        intro c d H2 Oa2 rel2 rx k2
        have e0 : Rp (fun a => R a ∨ We Os2 a) false [] = fun a => R a ∨ We Os2 a := setEq fun a => ⟨fun z => z.elim id (fun z => by cases z.1), .inl⟩
        have e1 : Rp R false [] = R := setEq fun a => ⟨fun z => z.elim id (fun z => by cases z.1), .inl⟩
        obtain ⟨Os3, r3, w3, n3, k3⟩ := after (s := false) (O := []) (by rw [e0]; exact rel2) (k2.imp fun a z => by cases z.1)
        rw [e1] at r3
        refine post c d H2 Os3 r3 (rx.mono fun a o e nw => ⟨e, fun z => nw ?_⟩) (k3.imp fun _ z => z.elim)
        rcases z with z | z
        · exact .inl (.inl z)
        · exact (w3 a z).elim (fun z => .inl (.inr z)) .inr
      | ok v fs =>
        rw [hm] at post
        intro x H2 Oa2 O rel2 rep2 nd2 k2 _
        obtain ⟨Os3, r3, w3, n3, k3⟩ := after rel2 k2
        refine post x H2 Os3 O r3 (rep2.mono (fun a o e nw => ⟨e, fun z => nw ?_⟩) fun _ _ _ e => e) nd2 k3 fun hp => ?_
        · rcases z with (z | z) | z
          · exact .inl (.inl (.inl z))
          · exact .inl (.inr z)
          · exact (w3 a z).elim (fun z => .inl (.inl (.inr z))) .inr
        · obtain ⟨p1, p2⟩ := argsP_iff hp
          obtain ⟨a1, a2, a3⟩ := pure1 p2
          obtain ⟨b1, b2⟩ := nrf p1
          obtain ⟨c1, c2⟩ := n3 p1
          refine ⟨c1.trans (b1.trans a1), c2.trans (b2.trans a2), fun a o e => ?_⟩
          have e1 := a3 a o e
          have hno : ¬ We (fun j => Ul.getD j []) a := fun z => by
            have z' := (wf a).mp z
            by_cases q : We Os a
            · exact held.rel.nr (.inr z') (by rw [b2, a2]; exact q)
            · obtain ⟨_, m1, m2⟩ := keep1 a o e q
              exact ((eqv a).mp (.inr z')).elim m1 m2
          exact (k2 a o e1 hno).1
end
end VL
/-! VL, part J: statements as functions on the names' trees; loops; targets. -/
namespace VL
open PySem L2

inductive RS where
  | nx (ρ : VEnv) | rt (v : Val) (ρ : VEnv) | bk (ρ : VEnv) | ct (ρ : VEnv) | exc (e : Exc) (ρ : VEnv) | bad
abbrev MS := VEnv → RS
/-- the parameters that a call hands over as names are never set anew -/
def PinB (bs : List Bool) (σ0 σ : L2.St) : Prop := ∀ j : Nat, bs[j]? = some true → σ[j]? = σ0[j]?
theorem PinB.set {bs : List Bool} {σ0 σ : L2.St} (p : PinB bs σ0 σ) {i : Nat} {x : Option V} (h : bs[i]? ≠ some true) : PinB bs σ0 (σ.set i x) := fun j hj => by
  by_cases e : i = j
  · subst e; exact absurd hj h
  · rw [List.getElem?_set_ne e]; exact p j hj
def PostS (G : Gam) (R : Addr → Prop) (E : WX) (D : Ends) (bs : List Bool) (σ0 : L2.St) (H : Hp) (Os : Nat → List Addr) : RS → Prop
  | .nx ρ' => ∀ σ' H' Os', PinB bs σ0 σ' → Rel G R H' σ' ρ' Os' → KeepE H Os H' Os' (fun _ => False) → D.nx σ' H'
  | .bk ρ' => ∀ σ' H' Os', PinB bs σ0 σ' → Rel G R H' σ' ρ' Os' → KeepE H Os H' Os' (fun _ => False) → D.bk σ' H'
  | .ct ρ' => ∀ σ' H' Os', PinB bs σ0 σ' → Rel G R H' σ' ρ' Os' → KeepE H Os H' Os' (fun _ => False) → D.ct σ' H'
  | .rt v ρ' => ∀ x σ' H' Os' O, PinB bs σ0 σ' → Rel G (Rp R true O) H' σ' ρ' Os' → Rep G (WW (Rp R true O) Os') H' x v O → O.Nodup → KeepE H Os H' Os' (fun a => true = true ∧ a ∈ O) → D.rt x H'
  | .exc e ρ' => ∀ c d σ' H' Os', PinB bs σ0 σ' → Rel G R H' σ' ρ' Os' → RepX G (WW R Os') H' c d e → KeepE H Os H' Os' (fun _ => False) → E c d σ' H'
  | .bad => False
def tS (G : Gam) (E : WX) (bs : List Bool) (σ0 : L2.St) (m : MS) : TS := fun D σ H => ∃ R ρ Os, Rel G R H σ ρ Os ∧ PinB bs σ0 σ ∧ PostS G R E D bs σ0 H Os (m ρ)
def VS (G : Gam) (X : Cx) (E : WX) (bs : List Bool) (σ0 : L2.St) (st : Stmt) (m : MS) : Prop := PS X st (tS G E bs σ0 m)
def VSs (G : Gam) (X : Cx) (E : WX) (bs : List Bool) (σ0 : L2.St) (st : List Stmt) (m : MS) : Prop := PSs X st (tS G E bs σ0 m)

def mNext : MS := fun ρ => .nx ρ
def mSeq (m1 m2 : MS) : MS := fun ρ => match m1 ρ with
  | .nx ρ' => m2 ρ'
  | r => r
def mDrop (m : ME) : MS := fun ρ => match m ρ with
  | .ok _ ρ' => .nx ρ'
  | .exc e ρ' => .exc e ρ'
  | .bad => .bad
def mRet (m : ME) : MS := fun ρ => match m ρ with
  | .ok v ρ' => .rt v ρ'
  | .exc e ρ' => .exc e ρ'
  | .bad => .bad
def mRetN : MS := fun ρ => .rt .non ρ
def mBrk : MS := fun ρ => .bk ρ
def mCnt : MS := fun ρ => .ct ρ
def mNever : MS := fun _ => .bad
def mIfS (c : ME) (a b : MS) : MS := fun ρ => match c ρ with
  | .ok (.bl t) ρ' => if t = true then a ρ' else b ρ'
  | .ok _ _ => .bad
  | .exc e ρ' => .exc e ρ'
  | .bad => .bad
def mSet (i : Nat) (m : ME) : MS := fun ρ => match m ρ with
  | .ok v ρ' => if i < ρ'.length then .nx (ρ'.set i (some v)) else .bad
  | .exc e ρ' => .exc e ρ'
  | .bad => .bad

section
variable {G : Gam} {R : Addr → Prop} {E : WX} {D : Ends} {bs : List Bool} {σ0 σ : L2.St} {H H1 : Hp} {Os Os1 : Nat → List Addr} {ρ ρ1 : VEnv}
theorem PostS.later {r : RS} (post : PostS G R E D bs σ0 H Os r) (k : KeepE H Os H1 Os1 fun _ => False) : PostS G R E D bs σ0 H1 Os1 r := by
  cases r with
  | bad => exact post
  | nx ρ' => exact fun σ' H' Os' p r q => post σ' H' Os' p r (k.trans q)
  | bk ρ' => exact fun σ' H' Os' p r q => post σ' H' Os' p r (k.trans q)
  | ct ρ' => exact fun σ' H' Os' p r q => post σ' H' Os' p r (k.trans q)
  | rt v ρ' => exact fun x σ' H' Os' O p r rx nd q => post x σ' H' Os' O p r rx nd (k.trans q)
  | exc e ρ' => exact fun c d σ' H' Os' p r rx q => post c d σ' H' Os' p r rx (k.trans q)
theorem PostS.ends {D' : Ends} {r : RS} (post : PostS G R E D bs σ0 H Os r) (h1 : ∀ ρ', r = .nx ρ' → PostS G R E D bs σ0 H Os (.nx ρ') → PostS G R E D' bs σ0 H Os (.nx ρ')) (h2 : D'.rt = D.rt) (h3 : ∀ ρ', r = .bk ρ' → PostS G R E D bs σ0 H Os (.bk ρ') → PostS G R E D' bs σ0 H Os (.bk ρ'))
    (h4 : ∀ ρ', r = .ct ρ' → PostS G R E D bs σ0 H Os (.ct ρ') → PostS G R E D' bs σ0 H Os (.ct ρ')) : PostS G R E D' bs σ0 H Os r := by
  cases r with
  | bad => exact post
  | nx ρ' => exact h1 _ rfl post
  | bk ρ' => exact h3 _ rfl post
  | ct ρ' => exact h4 _ rfl post
  | rt v ρ' => intro x σ' H' Os' O p r rx nd q; rw [h2]; exact post x σ' H' Os' O p r rx nd q
  | exc e ρ' => exact post
end
section
variable {G : Gam} {X : Cx} {E : WX} {bs : List Bool} {σ0 : L2.St} {e a b c : Expr} {st : Stmt} {rest s1 s2 : List Stmt} {pos : Pos} {p s : Bool} {m : ME} {m1 m2 : MS}
theorem vss_nil : VSs G X E bs σ0 [] mNext := PSs.pre pss_nil fun D σ H ⟨R, ρ, Os, rel, pin, post⟩ => post σ H Os pin rel KeepE.refl
theorem vss_one (h : VS G X E bs σ0 st m1) : VSs G X E bs σ0 [st] m1 := pss_one h
theorem vss_cons (h1 : VS G X E bs σ0 st m1) (h2 : VSs G X E bs σ0 rest m2) : VSs G X E bs σ0 (st :: rest) (mSeq m1 m2) := by
  refine PSs.pre (pss_cons h1 h2) fun D σ H ⟨R, ρ, Os, rel, pin, post⟩ => ⟨R, ρ, Os, rel, pin, ?_⟩
  unfold mSeq at post
  cases hm : m1 ρ with
  | nx ρ' => rw [hm] at post; exact fun σ' H' Os' p r k => ⟨R, ρ', Os', r, p, post.later k⟩
  | bad => rw [hm] at post; exact post
  | bk ρ' => rw [hm] at post; exact post
  | ct ρ' => rw [hm] at post; exact post
  | rt v ρ' => rw [hm] at post; exact post
  | exc e ρ' => rw [hm] at post; exact post
theorem vs_pass : VS G X E bs σ0 (.Pass pos) mNext := PS.pre ps_pass fun D σ H ⟨R, ρ, Os, rel, pin, post⟩ => post σ H Os pin rel KeepE.refl
theorem vs_doc {x j pos pos'} : VS G X E bs σ0 (.Expr (.Constant (.str x) j pos) pos') mNext := PS.pre ps_doc fun D σ H ⟨R, ρ, Os, rel, pin, post⟩ => post σ H Os pin rel KeepE.refl
theorem vs_break : VS G X E bs σ0 (.Break pos) mBrk := PS.pre ps_break fun D σ H ⟨R, ρ, Os, rel, pin, post⟩ => post σ H Os pin rel KeepE.refl
theorem vs_continue : VS G X E bs σ0 (.Continue pos) mCnt := PS.pre ps_continue fun D σ H ⟨R, ρ, Os, rel, pin, post⟩ => post σ H Os pin rel KeepE.refl
theorem vs_never : VS G X E bs σ0 st mNever := PS.pre ps_never fun D σ H ⟨R, ρ, Os, rel, pin, post⟩ => post
theorem vss_never : VSs G X E bs σ0 rest mNever := PSs.pre pss_never fun D σ H ⟨R, ρ, Os, rel, pin, post⟩ => post
theorem vs_retN : VS G X E bs σ0 (.Return none pos) mRetN := PS.pre ps_retN fun D σ H ⟨R, ρ, Os, rel, pin, post⟩ =>
  post .non σ H Os [] pin (rel.weak fun a z => z.elim id fun z => nomatch z.2) .non List.nodup_nil (KeepE.refl.imp fun a z => nomatch z.2)
/-- an expression's post, by what is wanted behind it -/
theorem PostS.post {R : Addr → Prop} {D : Ends} {σ : L2.St} {H : Hp} {Os : Nat → List Addr} {ρ : VEnv} {r : RE} {Q : VK} {f : Val → VEnv → RS} (pin : PinB bs σ0 σ)
    (post : PostS G R E D bs σ0 H Os (match (generalizing := false) r with | .ok v ρ' => f v ρ' | .exc e ρ' => .exc e ρ' | .bad => .bad))
    (h : ∀ v ρ' x H' Os' O, r = .ok v ρ' → PostS G R E D bs σ0 H Os (f v ρ') → Rel G (Rp R s O) H' σ ρ' Os' → Rep G (WW (Rp R s O) Os') H' x v O → (s = true → O.Nodup) → KeepE H Os H' Os' (fun a => s = true ∧ a ∈ O) → Q x H') : Post G R E σ H Os p s ρ Q r := by
  cases r with
  | bad => exact post
  | exc e ρ' => exact fun c d H' Os' rel rx k => post c d σ H' Os' pin rel rx k
  | ok v ρ' => exact fun x H' Os' O rel rep nd k _ => h v ρ' x H' Os' O rfl post rel rep nd k
theorem vs_expr (he : VE G X E p s e m) (hs : swapsWith e none pos.line X.env = pure false := by rfl) : VS G X E bs σ0 (.Expr e pos) (mDrop m) := by
  refine PS.pre (ps_expr he hs) fun D σ H ⟨R, ρ, Os, rel, pin, post⟩ => ⟨R, ρ, Os, rel, ?_⟩
  refine PostS.post (f := fun _ ρ' => .nx ρ') pin post fun v ρ' x H' Os' O _ post rel rep nd k => ?_
  exact post σ H' Os' pin (rel.weak fun a z => .inl z) (k.imp fun _ z => z.elim)
theorem vs_ret (he : VE G X E p true e m) : VS G X E bs σ0 (.Return (some e) pos) (mRet m) := by
  refine PS.pre (ps_ret he) fun D σ H ⟨R, ρ, Os, rel, pin, post⟩ => ⟨R, ρ, Os, rel, ?_⟩
  exact PostS.post (f := fun v ρ' => .rt v ρ') pin post fun v ρ' x H' Os' O _ post rel rep nd k => post x σ H' Os' O pin rel rep (nd rfl) k
theorem vs_if (hc : VT G X E p c m) (ha : VSs G X E bs σ0 s1 m1) (hb : VSs G X E bs σ0 s2 m2) : VS G X E bs σ0 (.If c s1 s2 pos) (mIfS m m1 m2) := by
  refine PS.pre (ps_if hc ha hb) fun D σ H ⟨R, ρ, Os, rel, pin, post⟩ => ⟨R, ρ, Os, rel, ?_⟩
  unfold mIfS at post
  cases hm : m ρ with
  | bad => rw [hm] at post; exact post
  | exc e ρ' => rw [hm] at post; exact fun c d H' Os' rel rx k => post c d σ H' Os' pin rel rx k
  | ok v ρ' =>
    rw [hm] at post
    cases v with
    | bl t =>
      intro H' Os' rel k _
      cases t with
      | true => exact ⟨R, ρ', Os', rel, pin, PostS.later post k⟩
      | false => exact ⟨R, ρ', Os', rel, pin, PostS.later post k⟩
    | _ => exact post.elim
/-- a name set: the names' trees -/
theorem set_of {R : Addr → Prop} {D : Ends} {σ : L2.St} {H H' : Hp} {Os Os' : Nat → List Addr} {ρ' : VEnv} {x : V} {v : Val} {O : List Addr} {i : Nat} (relH : Rel G R H σ ρ' Os ∨ True) (hr : ∀ a, R a → ∃ o, H a = some o ∧ ¬ We Os a) (rel : Rel G (Rp R true O) H' σ ρ' Os') (rep : Rep G (WW (Rp R true O) Os') H' x v O) (nd : O.Nodup) (k : KeepE H Os H' Os' (fun a => true = true ∧ a ∈ O)) (hi : i < ρ'.length) :
    ∃ Os2, Rel G R H' (σ.set i (some x)) (ρ'.set i (some v)) Os2 ∧ KeepE H Os H' Os2 (fun _ => False) := by
  have e0 : Rp R true O = fun a => R a ∨ a ∈ O := setEq fun a => ⟨fun z => z.imp id fun z => z.2, fun z => z.imp id fun z => ⟨rfl, z⟩⟩
  rw [e0] at rel rep
  refine ⟨_, rel.put rep nd hi (fun a ha z => ?_), fun a o e nw => ?_⟩
  · obtain ⟨o, e, nw⟩ := hr a z
    exact (k a o e nw).2.2 ⟨rfl, ha⟩
  · obtain ⟨e1, n1, n2⟩ := k a o e nw
    refine ⟨e1, fun ⟨j, z⟩ => ?_, id⟩
    by_cases hj : j = i
    · simp only [hj, if_true] at z; exact n2 ⟨rfl, z⟩
    · simp only [hj, if_false] at z; exact n1 ⟨j, z⟩
theorem Rel.hr {R : Addr → Prop} {σ : L2.St} {H : Hp} {Os : Nat → List Addr} {ρ : VEnv} (rel : Rel G R H σ ρ Os) : ∀ a, R a → ∃ o, H a = some o ∧ ¬ We Os a := fun a z => let ⟨o, e⟩ := rel.rt a z; ⟨o, e, rel.nr z⟩
theorem vs_set {i : Nat} {x : Str} {pos' : Pos} (hN : X.N.Nodup) (hi : X.N[i]? = some x) (hx : Loc X.env.scope x) (he : VE G X E p true e m) (hb : bs[i]? ≠ some true := by decide) (hs : swapsWith e (some (.Name x pos')) pos.line X.env = pure false := by rfl)
    (hf : X.fn x = true ∨ X.env.scope.names.lookup x = some .local := by first | exact .inl rfl | exact .inr rfl | assumption) : VS G X E bs σ0 (.Assign [.Name x pos'] e pos) (mSet i m) := by
  refine PS.pre (ps_set hN hi hx he hs hf) fun D σ H ⟨R, ρ, Os, rel, pin, post⟩ => ⟨R, ρ, Os, rel, ?_⟩
  refine PostS.post (s := true) (f := fun v ρ' => if i < ρ'.length then .nx (ρ'.set i (some v)) else .bad) pin post fun v ρ' x H' Os' O _ post rel' rep nd k => ?_
  by_cases hi' : i < ρ'.length
  · rw [if_pos hi'] at post
    obtain ⟨Os2, r2, k2⟩ := set_of (D := D) (.inr trivial) rel.hr rel' rep (nd rfl) k hi'
    exact post _ _ Os2 (pin.set hb) r2 k2
  · rw [if_neg hi'] at post
    exact post.elim

/-! ### targets -/
/-- a target: what it does to the names' trees -/
abbrev MG := Val → VEnv → Option VEnv
abbrev MGs := List Val → VEnv → Option VEnv
/-- what is there ahead of a store: v's own addresses O -/
def tG (G : Gam) (bs : List Bool) (σ0 : L2.St) (g : MG) : TG := fun x σ H Q => ∃ R ρ Os v O, Rel G (fun a => R a ∨ a ∈ O) H σ ρ Os ∧ Rep G (WW (fun a => R a ∨ a ∈ O) Os) H x v O ∧ O.Nodup ∧ (∀ a ∈ O, ¬ R a) ∧ PinB bs σ0 σ ∧
  (match g v ρ with
    | some ρ' => ∀ σ' Os', PinB bs σ0 σ' → σ'.length = σ.length → Rel G R H σ' ρ' Os' → (∀ a, We Os' a → We Os a ∨ a ∈ O) → Q σ' H
    | none => False)
def tGs (G : Gam) (bs : List Bool) (σ0 : L2.St) (g : MGs) : TGs := fun xs σ H Q => ∃ R ρ Os vs O, Rel G (fun a => R a ∨ a ∈ O) H σ ρ Os ∧ Reps G (WW (fun a => R a ∨ a ∈ O) Os) H xs vs O ∧ O.Nodup ∧ (∀ a ∈ O, ¬ R a) ∧ PinB bs σ0 σ ∧
  (match g vs ρ with
    | some ρ' => ∀ σ' Os', PinB bs σ0 σ' → σ'.length = σ.length → Rel G R H σ' ρ' Os' → (∀ a, We Os' a → We Os a ∨ a ∈ O) → Q σ' H
    | none => False)
def VG (G : Gam) (X : Cx) (bs : List Bool) (σ0 : L2.St) (tg : Expr) (g : MG) : Prop := PG X tg (tG G bs σ0 g)
def VGs (G : Gam) (X : Cx) (bs : List Bool) (σ0 : L2.St) (tg : List Expr) (g : MGs) : Prop := PGs X tg (tGs G bs σ0 g)
theorem PG.pre {X : Cx} {e : Expr} {t t' : TG} (h : PG X e t) (k : ∀ v σ H Q, t' v σ H Q → t v σ H Q) : PG X e t' := ⟨fun pins s σ H v u Q I r q => h.run pins s σ H v u Q I r (k v σ H Q q)⟩
theorem PGs.pre {X : Cx} {e : List Expr} {t t' : TGs} (h : PGs X e t) (k : ∀ v σ H Q, t' v σ H Q → t v σ H Q) : PGs X e t' := ⟨fun pins s σ H v u Q I r q => h.run pins s σ H v u Q I r (k v σ H Q q)⟩
def gV (i : Nat) : MG := fun v ρ => if i < ρ.length then some (ρ.set i (some v)) else none
def gTupV (g : MGs) (n : Nat) : MG := fun v ρ => match v with
  | .tup vs => if vs.length = n then g vs ρ else none
  | .wtp vs => if vs.length = n then g vs ρ else none
  | _ => none
def gNilV : MGs := fun vs ρ => match vs with
  | [] => some ρ
  | _ => none
def gConsV (g : MG) (gs : MGs) : MGs := fun vs ρ => match vs with
  | v :: vs => (match g v ρ with
    | some ρ' => gs vs ρ'
    | none => none)
  | [] => none
theorem vg_name {i : Nat} {x : Str} (hN : X.N.Nodup) (hi : X.N[i]? = some x) (hx : Loc X.env.scope x) (hb : bs[i]? ≠ some true := by decide) (hf : X.fn x = true ∨ X.env.scope.names.lookup x = some .local := by first | exact .inl rfl | exact .inr rfl | assumption) : VG G X bs σ0 (.Name x pos) (gV i) := by
  refine PG.pre (pg_name hN hi hx hf) fun x σ H Q ⟨R, ρ, Os, v, O, rel, rep, nd, nr, pin, post⟩ => ?_
  unfold gV at post
  by_cases hi' : i < ρ.length
  · rw [if_pos hi'] at post
    refine post _ _ (pin.set hb) (by rw [List.length_set]) (rel.put rep nd hi' nr) fun a ⟨j, z⟩ => ?_
    by_cases hj : j = i
    · simp only [hj, if_true] at z; exact .inr z
    · simp only [hj, if_false] at z; exact .inl ⟨j, z⟩
  · rw [if_neg hi'] at post
    exact post.elim
theorem vgs_nil : VGs G X bs σ0 [] gNilV := by
  refine PGs.pre pgs_nil fun xs σ H Q ⟨R, ρ, Os, vs, O, rel, reps, nd, nr, pin, post⟩ => ?_
  unfold gNilV at post
  cases vs with
  | cons v vs => exact post.elim
  | nil =>
    cases reps
    exact ⟨rfl, post σ Os pin rfl (rel.weak fun a z => .inl z) fun a z => .inl z⟩
theorem vgs_cons {es : List Expr} {g : MG} {gs : MGs} (h1 : VG G X bs σ0 e g) (h2 : VGs G X bs σ0 es gs) (hs : (assignEach (e :: es) X.env).map (·.2) = assign e X.env :: (assignEach es X.env).map (·.2) := by rfl) : VGs G X bs σ0 (e :: es) (gConsV g gs) := by
  refine PGs.pre (pgs_cons h1 h2 hs) fun xs σ H Q ⟨R, ρ, Os, vs, O, rel, reps, nd, nr, pin, post⟩ => ?_
  unfold gConsV at post
  cases vs with
  | nil => exact post.elim
  | cons v vs =>
    dsimp only at post
    cases reps with
    | @cons x _ xs' _ O1 O2 r t =>
      obtain ⟨n1, n2, n3⟩ := List.nodup_append.mp nd
      have s1 : (fun a => R a ∨ a ∈ O1 ++ O2) = fun a => (R a ∨ a ∈ O2) ∨ a ∈ O1 := setEq fun a => by
        rw [List.mem_append]
        constructor
        · rintro (z | z | z)
          · exact .inl (.inl z)
          · exact .inr z
          · exact .inl (.inr z)
        · rintro ((z | z) | z)
          · exact .inl z
          · exact .inr (.inr z)
          · exact .inr (.inl z)
      rw [s1] at rel r t
      refine ⟨x, xs', rfl, fun a => R a ∨ a ∈ O2, ρ, Os, v, O1, rel, r, n1, fun a ha z => z.elim (nr a (List.mem_append_left _ ha)) fun z => n3 a ha a z rfl, pin, ?_⟩
      cases hg : g v ρ with
      | none => rw [hg] at post; exact post
      | some ρ' =>
        rw [hg] at post
        dsimp only at post
        intro σ' Os' pin' hl' rel' we'
        have hw : ∀ a, WW (fun a => R a ∨ a ∈ O2) Os' a → WW (fun a => (R a ∨ a ∈ O2) ∨ a ∈ O1) Os a := fun a z => by
          rcases z with z | z
          · exact .inl (.inl z)
          · exact (we' a z).elim .inr fun z => .inl (.inr z)
        refine ⟨R, ρ', Os', vs, O2, rel', t.mono (fun a o e nw => ⟨e, fun z => nw (hw a z)⟩) fun _ _ _ e => e, n2, fun a ha => nr a (List.mem_append_right _ ha), pin', ?_⟩
        cases hgs : gs vs ρ' with
        | none => rw [hgs] at post; exact post
        | some ρ2 =>
          rw [hgs] at post
          intro σ2 Os2 p2 l2 r2 w2
          refine post σ2 Os2 p2 (l2.trans hl') r2 fun a z => ?_
          rcases w2 a z with z | z
          · exact (we' a z).imp id fun z => List.mem_append_left _ z
          · exact .inr (List.mem_append_right _ z)
theorem vg_tup {es : List Expr} {k : Nat} {gs : MGs} {n : Nat} (hK : X.K = G.K) (hc : X.calm = true) (h : VGs G X bs σ0 es gs) (hn : (assignEach es X.env).length = n := by rfl) (hst : (assignEach es X.env).findIdx? (·.1) = none := by rfl) :
    VG G X bs σ0 (.Tuple es k pos) (gTupV gs n) := by
  refine PG.pre (pg_tup hc h hn hst) fun x σ H Q ⟨R, ρ, Os, v, O, rel, rep, nd, nr, pin, post⟩ => ?_
  unfold gTupV at post
  rw [hK]
  cases v with
  | tup vs =>
    dsimp only at post
    by_cases hl : vs.length = n
    · rw [if_pos hl] at post
      obtain ⟨a, xs, rfl, hq, reps⟩ := rep_tupT rep
      exact ⟨a, xs, rfl, hq, by rw [reps.length]; exact hl, R, ρ, Os, vs, O, rel, reps, nd, nr, pin, post⟩
    · rw [if_neg hl] at post
      exact post.elim
  | wtp vs =>
    dsimp only at post
    by_cases hl : vs.length = n
    · rw [if_pos hl] at post
      obtain ⟨a, xs, rfl, hq, reps⟩ := rep_wtp rep
      cases rep
      exact ⟨a, xs, rfl, hq, by rw [reps.length]; exact hl, R, ρ, Os, vs, [], rel, reps, nd, nr, pin, post⟩
    · rw [if_neg hl] at post
      exact post.elim
  | _ => exact post.elim
/-- target = value -/
def mAsg (m : ME) (g : MG) : MS := fun ρ => match m ρ with
  | .ok v ρ' => (match g v ρ' with
    | some ρ2 => .nx ρ2
    | none => .bad)
  | .exc e ρ' => .exc e ρ'
  | .bad => .bad
theorem tG_of {R : Addr → Prop} {σ : L2.St} {H H' : Hp} {Os Os' : Nat → List Addr} {ρ' : VEnv} {x : V} {v : Val} {O : List Addr} {g : MG} {Q : L2.St → Hp → Prop} (hr : ∀ a, R a → ∃ o, H a = some o ∧ ¬ We Os a) (rel : Rel G (Rp R true O) H' σ ρ' Os') (rep : Rep G (WW (Rp R true O) Os') H' x v O) (nd : O.Nodup)
    (k : KeepE H Os H' Os' (fun a => true = true ∧ a ∈ O)) (pin : PinB bs σ0 σ)
    (h : match g v ρ' with
      | some ρ2 => ∀ σ' Os2, PinB bs σ0 σ' → Rel G R H' σ' ρ2 Os2 → KeepE H Os H' Os2 (fun _ => False) → Q σ' H'
      | none => False) : tG G bs σ0 g x σ H' Q := by
  have e0 : Rp R true O = fun a => R a ∨ a ∈ O := setEq fun a => ⟨fun z => z.imp id fun z => z.2, fun z => z.imp id fun z => ⟨rfl, z⟩⟩
  rw [e0] at rel rep
  refine ⟨R, ρ', Os', v, O, rel, rep, nd, fun a ha z => let ⟨o, e, nw⟩ := hr a z; (k a o e nw).2.2 ⟨rfl, ha⟩, pin, ?_⟩
  cases hg : g v ρ' with
  | none => rw [hg] at h; exact h
  | some ρ2 =>
    rw [hg] at h
    exact fun σ' Os2 p _ r w => h σ' Os2 p r fun a o e nw => let ⟨e1, n1, n2⟩ := k a o e nw; ⟨e1, fun z => (w a z).elim n1 fun z => n2 ⟨rfl, z⟩, id⟩
theorem vs_asg {tg : Expr} {g : MG} (he : VE G X E p true e m) (hg : VG G X bs σ0 tg g) (hs : swapsWithSole [tg] e pos.line X.env = pure false := by rfl) (hw : swappedStores [tg] e X.env = pure none := by rfl) (h1 : (assignEach [tg] X.env).map (·.2) = [assign tg X.env] := by rfl) :
    VS G X E bs σ0 (.Assign [tg] e pos) (mAsg m g) := by
  refine PS.pre (ps_asg he hg hs hw h1) fun D σ H ⟨R, ρ, Os, rel, pin, post⟩ => ⟨R, ρ, Os, rel, ?_⟩
  refine PostS.post (s := true) (f := fun v ρ' => match g v ρ' with
    | some ρ2 => .nx ρ2
    | none => .bad) pin post fun v ρ' x H' Os' O _ post rel' rep nd k => ?_
  refine tG_of rel.hr rel' rep (nd rfl) k pin ?_
  cases hg : g v ρ' with
  | none => rw [hg] at post; exact post
  | some ρ2 => rw [hg] at post; exact fun σ' Os2 p r k => post σ' H' Os2 p r k
end
end VL
/-! VL, part K: a, b = x, y; for, while. -/
namespace VL
open PySem L2

def mPar (i j : Nat) (m1 m2 : ME) : MS := fun ρ => match evalM [m1, m2] ρ with
  | .ok [v, w] ρ' => if i < ρ'.length ∧ j < ρ'.length then .nx ((ρ'.set i (some v)).set j (some w)) else .bad
  | .ok _ _ => .bad
  | .exc e ρ' => .exc e ρ'
  | .bad => .bad
section
variable {G : Gam} {X : Cx} {E : WX} {bs : List Bool} {σ0 : L2.St} {e a b c : Expr} {st : Stmt} {rest s1 s2 : List Stmt} {pos : Pos} {p p1 p2 s : Bool} {m m1' m2' : ME} {m1 m2 : MS}
theorem vs_par {i j : Nat} {x y : Str} {px py pt : Pos} {kt k2 : Nat} {pt2 : Pos} (hc : X.calm = true) (hN : X.N.Nodup) (hi : X.N[i]? = some x) (hj : X.N[j]? = some y) (hij : i ≠ j) (hx : X.env.scope.names.lookup x = some .local) (hy : X.env.scope.names.lookup y = some .local)
    (ha : VE G X E p1 true a m1') (hb : VE G X E p2 true b m2') (hw : swappedStores [.Tuple [.Name x px, .Name y py] kt pt] (.Tuple [a, b] k2 pt2) X.env = pure (some [x, y])) (b1 : bs[i]? ≠ some true := by decide) (b2 : bs[j]? ≠ some true := by decide)
    (hs : swapsWithSole [.Tuple [.Name x px, .Name y py] kt pt] (.Tuple [a, b] k2 pt2) pos.line X.env = pure false := by rfl) (hst : starEach [a, b] X.env = (false, eval a X.env) :: starEach [b] X.env := by rfl) (hst2 : starEach [b] X.env = (false, eval b X.env) :: starEach [] X.env := by rfl) :
    VS G X E bs σ0 (.Assign [.Tuple [.Name x px, .Name y py] kt pt] (.Tuple [a, b] k2 pt2) pos) (mPar i j m1' m2') := by
  refine PS.pre (ps_par hc hN hi hj hij hx hy (pa_cons ha (pa_cons hb pa_nil hst2) hst) hw hs) fun D σ H ⟨R, ρ, Os, rel, pin, post⟩ => ?_
  have key := nest_of (G := G) (E := E) (σ := σ) (os := [⟨p1, true, m1'⟩, ⟨p2, true, m2'⟩]) rfl rel (K := fun vs H1 => ∃ v w, vs = [v, w] ∧ D.nx ((σ.set i (some v)).set j (some w)) H1) ?_
  · exact key
  rw [evalA_eq]
  unfold mPar at post
  simp only [List.map_cons, List.map_nil]
  cases he : evalM [m1', m2'] ρ with
  | bad => rw [he] at post; exact post
  | exc e ρ' => rw [he] at post; exact fun c d H' Os' rel rx k => post c d σ H' Os' pin rel rx k
  | ok vs ρ' =>
    rw [he] at post
    intro xs H1 Os1 Ol rel1 reps nd keep _
    match vs, reps, post with
    | [v, w], reps, post =>
      dsimp only at post
      by_cases hl : i < ρ'.length ∧ j < ρ'.length
      rotate_left
      · rw [if_neg hl] at post; exact post.elim
      rw [if_pos hl] at post
      cases reps with
      | @cons x1 _ O1 _ _ _ r1 t =>
        cases t with
        | @cons x2 _ O2 _ _ _ r2 t2 =>
          cases t2
          refine ⟨x1, x2, rfl, ?_⟩
          have es : stab [⟨p1, true, m1'⟩, ⟨p2, true, m2'⟩] [O1, O2] = O1 ++ (O2 ++ []) := rfl
          rw [es, List.append_nil] at rel1 r1 r2 nd keep
          obtain ⟨n1, n2, n3⟩ := List.nodup_append.mp nd
          have nr : ∀ a ∈ O1 ++ O2, ¬ R a := fun a ha z => let ⟨o, e, nw⟩ := rel.hr a z; (keep a o e nw).2.2 ha
          have s1 : (fun a => R a ∨ a ∈ O1 ++ O2) = fun a => (R a ∨ a ∈ O2) ∨ a ∈ O1 := setEq fun a => by
            rw [List.mem_append]
            constructor
            · rintro (z | z | z)
              · exact .inl (.inl z)
              · exact .inr z
              · exact .inl (.inr z)
            · rintro ((z | z) | z)
              · exact .inl z
              · exact .inr (.inr z)
              · exact .inr (.inl z)
          rw [s1] at rel1 r1 r2
          have q1 := rel1.put r1 n1 hl.1 fun a ha z => z.elim (nr a (List.mem_append_left _ ha)) fun z => n3 a ha a z rfl
          have r2' : Rep G (WW (fun a => R a ∨ a ∈ O2) fun j => if j = i then O1 else Os1 j) H1 x2 w O2 := r2.mono (fun a o e nw => ⟨e, fun z => nw (by
            rcases z with z | ⟨j', z⟩
            · exact .inl (.inl z)
            · by_cases hj' : j' = i
              · simp only [hj', if_true] at z; exact .inl (.inr z)
              · simp only [hj', if_false] at z; exact .inr ⟨j', z⟩)⟩) fun _ _ _ e => e
          have q2 := q1.put r2' n2 (i := j) (by rw [List.length_set]; exact hl.2) fun a ha => nr a (List.mem_append_right _ ha)
          refine post _ H1 _ ((pin.set b1).set b2) q2 fun a o e nw => ?_
          obtain ⟨e1, m1, m2⟩ := keep a o e nw
          refine ⟨e1, fun ⟨j', z⟩ => ?_, id⟩
          by_cases h1 : j' = j
          · simp only [h1, if_true] at z; exact m2 (List.mem_append_right _ z)
          · simp only [h1, if_false] at z
            by_cases h2 : j' = i
            · simp only [h2, if_true] at z; exact m2 (List.mem_append_left _ z)
            · simp only [h2, if_false] at z; exact m1 ⟨j', z⟩

/-! ### what is walked -/
/-- the iterator gives these trees, as long as nothing that nobody may change changes -/
def Walk (G : Gam) (W : Addr → Prop) (H : Hp) (J : It) (us : List Val) : Prop :=
  ∀ W' H', Keep W H W' H' → ∀ i, (us.length ≤ i → J.stop i H') ∧ ∀ u, us[i]? = some u → J.go i H' ∧ ∀ x H'', J.yld i H' x H'' → Same H' H'' ∧ ((∀ p, W' p → ∃ o, H' p = some o) → Rep G W' H'' x u [])
inductive RI where
  | ok (us : List Val) (ρ : VEnv) | exc (e : Exc) (ρ : VEnv) | bad
abbrev MI := VEnv → RI
def tI (G : Gam) (E : WX) (m : MI) : TI := fun σ H K => ∃ R ρ Os, Rel G R H σ ρ Os ∧ (match m ρ with
  | .ok us ρ' => ∀ J H' Os', Rel G R H' σ ρ' Os' → Walk G (WW R Os') H' J us → KeepE H Os H' Os' (fun _ => False) → K J H'
  | .exc e ρ' => ∀ c d H' Os', Rel G R H' σ ρ' Os' → RepX G (WW R Os') H' c d e → KeepE H Os H' Os' (fun _ => False) → E c d σ H'
  | .bad => False)
def VI (G : Gam) (X : Cx) (E : WX) (tg iter : Expr) (m : MI) : Prop := PI X tg iter (tI G E m)
theorem PI.pre {tg iter : Expr} {t t' : TI} (h : PI X tg iter t) (k : ∀ σ H K, t' σ H K → t σ H K) : PI X tg iter t' := ⟨fun pins s σ H K I q => h.run pins s σ H K I (k σ H K q)⟩

def forL (g : MG) (body : MS) : List Val → VEnv → RS
  | [], ρ => .nx ρ
  | u :: us, ρ => match g u ρ with
    | none => .bad
    | some ρ1 => match body ρ1 with
      | .nx ρ2 => forL g body us ρ2
      | .ct ρ2 => forL g body us ρ2
      | .bk ρ2 => .nx ρ2
      | .rt v ρ2 => .rt v ρ2
      | .exc e ρ2 => .exc e ρ2
      | .bad => .bad
def mFor (mi : MI) (g : MG) (body : MS) : MS := fun ρ => match mi ρ with
  | .ok us ρ' => forL g body us ρ'
  | .exc e ρ' => .exc e ρ'
  | .bad => .bad
theorem keep_of {R : Addr → Prop} {σ : L2.St} {H H' : Hp} {Os Os' : Nat → List Addr} {ρ : VEnv} (rel : Rel G R H σ ρ Os) (k : KeepE H Os H' Os' fun _ => False) : Keep (WW R Os) H (WW R Os') H' := fun a o e nw =>
  let ⟨e1, n1, _⟩ := k a o e fun z => nw (.inr z)
  ⟨e1, fun z => z.elim (fun z => nw (.inl z)) n1⟩
theorem for_reading {tb : TS} {mi : MI} {g : MG} {mb : MS} {D : Ends} {σ : L2.St} {H : Hp} (htb : tb = tS G E bs σ0 mb) (h : tS G E bs σ0 (mFor mi g mb) D σ H) : tFor (tI G E mi) (tG G bs σ0 g) tb D σ H := by
  subst htb
  obtain ⟨R, ρ, Os, rel, pin, post⟩ := h
  refine ⟨R, ρ, Os, rel, ?_⟩
  unfold mFor at post
  cases hm : mi ρ with
  | bad => rw [hm] at post; exact post
  | exc e ρ' => rw [hm] at post; exact fun c d H' Os' rel rx k => post c d σ H' Os' pin rel rx k
  | ok us ρ' =>
    rw [hm] at post
    dsimp only at post
    intro J H1 Os1 rel1 walk keep1
    have post1 := PostS.later post keep1
    refine ⟨fun i n σ' H' => n = us.length - i ∧ i ≤ us.length ∧ ∃ ρ2 Os2, Rel G R H' σ' ρ2 Os2 ∧ PinB bs σ0 σ' ∧ KeepE H1 Os1 H' Os2 (fun _ => False) ∧ PostS G R E D bs σ0 H1 Os1 (forL g mb (us.drop i) ρ2), ⟨us.length, by simp, Nat.zero_le _, ρ', Os1, rel1, pin, KeepE.refl, by simpa using post1⟩, ?_⟩
    rintro i n σ' H' ⟨rfl, hile, ρ2, Os2, rel2, pin2, keep2, post2⟩
    obtain ⟨hstop, hgo⟩ := walk _ _ (keep_of rel1 keep2) i
    by_cases hlt : i < us.length
    · refine .inr ?_
      obtain ⟨go, yld⟩ := hgo us[i] (List.getElem?_eq_getElem hlt)
      refine ⟨go, fun σ3 H3 => i + 1 ≤ us.length ∧ ∃ ρ3 Os3, Rel G R H3 σ3 ρ3 Os3 ∧ PinB bs σ0 σ3 ∧ KeepE H1 Os1 H3 Os3 (fun _ => False) ∧ PostS G R E D bs σ0 H1 Os1 (forL g mb (us.drop (i + 1)) ρ3), fun σ3 H3 ⟨h1, h2⟩ => ⟨us.length - (i + 1), by omega, rfl, h1, h2⟩, fun x H'' y => ?_⟩
      obtain ⟨same, repw⟩ := yld x H'' y
      have rep := repw fun p hp => rel2.ww hp
      have rel2' : Rel G R H'' σ' ρ2 Os2 := rel2.grow same (fun a z => .inl z) fun a z => let ⟨o, e⟩ := rel2.rt a z; ⟨o, same a o e⟩
      have keep2' : KeepE H1 Os1 H'' Os2 fun _ => False := keep2.grow same fun a z => z.elim
      rw [List.drop_eq_getElem_cons hlt] at post2
      unfold forL at post2
      have e0 : R = fun a => R a ∨ a ∈ ([] : List Addr) := setEq fun a => ⟨.inl, fun z => z.elim id fun z => nomatch z⟩
      have relE : Rel G (fun a => R a ∨ a ∈ ([] : List Addr)) H'' σ' ρ2 Os2 := e0 ▸ rel2'
      have repE : Rep G (WW (fun a => R a ∨ a ∈ ([] : List Addr)) Os2) H'' x us[i] [] := e0 ▸ rep
      refine ⟨R, ρ2, Os2, us[i], [], relE, repE, List.nodup_nil, fun a z => (nomatch z), pin2, ?_⟩
      cases hg : g us[i] ρ2 with
      | none => rw [hg] at post2; exact post2
      | some ρ3 =>
        rw [hg] at post2
        dsimp only at post2
        intro σ3 Os3 pin3 _ rel3 we3
        have keep3 : KeepE H1 Os1 H'' Os3 fun _ => False := fun a o e nw => let ⟨e1, n1, n2⟩ := keep2' a o e nw; ⟨e1, fun z => (we3 a z).elim n1 (fun z => nomatch z), n2⟩
        refine ⟨R, ρ3, Os3, rel3, pin3, ?_⟩
        refine PostS.later (H := H1) (Os := Os1) ?_ keep3
        cases hbm : mb ρ3 with
        | bad => rw [hbm] at post2; exact post2
        | exc e ρ4 => rw [hbm] at post2; exact post2
        | rt v ρ4 => rw [hbm] at post2; exact post2
        | bk ρ4 => rw [hbm] at post2; exact post2
        | nx ρ4 => rw [hbm] at post2; exact fun σ4 H4 Os4 p4 r4 k4 => ⟨hlt, ρ4, Os4, r4, p4, k4, post2⟩
        | ct ρ4 => rw [hbm] at post2; exact fun σ4 H4 Os4 p4 r4 k4 => ⟨hlt, ρ4, Os4, r4, p4, k4, post2⟩
    · refine .inl ⟨hstop (by omega), ?_⟩
      have e : us.drop i = [] := List.drop_eq_nil_of_le (by omega)
      rw [e] at post2
      exact post2 σ' H' Os2 pin2 rel2 keep2

theorem vs_for {tg iter : Expr} {body : List Stmt} {mi : MI} {g : MG} {mb : MS} (hp : PassesOwn (model X.prog X.w) X.A X.env X.xe) (hc : X.calm = true) (hi : VI G X E tg iter mi) (hg : VG G X bs σ0 tg g) (hb : VSs G X E bs σ0 body mb) (hs : ∀ x, foldedSetIterable iter X.env x = pure x := by intro _; rfl) :
    VS G X E bs σ0 (.For tg iter body [] pos) (mFor mi g mb) := PS.pre (ps_for hp hc hi hg hb hs) fun D σ H h => for_reading rfl h

/-! ### while: with a bound on the turns -/
def whileN (c : ME) (body : MS) : Nat → VEnv → RS
  | 0, _ => .bad
  | n + 1, ρ => match c ρ with
    | .ok (.bl t) ρ1 => if t = true then (match body ρ1 with
      | .nx ρ2 => whileN c body n ρ2
      | .ct ρ2 => whileN c body n ρ2
      | .bk ρ2 => .nx ρ2
      | .rt v ρ2 => .rt v ρ2
      | .exc e ρ2 => .exc e ρ2
      | .bad => .bad) else .nx ρ1
    | .ok _ _ => .bad
    | .exc e ρ1 => .exc e ρ1
    | .bad => .bad
def mWhile (fuel : VEnv → Nat) (c : ME) (body : MS) : MS := fun ρ => whileN c body (fuel ρ) ρ
theorem vs_while {body : List Stmt} {mb : MS} (fuel : VEnv → Nat) (hp : PassesOwn (model X.prog X.w) X.A X.env X.xe) (hc : VT G X E p c m) (hb : VSs G X E bs σ0 body mb) : VS G X E bs σ0 (.While c body [] pos) (mWhile fuel m mb) := by
  refine PS.pre (ps_while hp hc hb) fun D σ H ⟨R, ρ, Os, rel, pin, post⟩ => ?_
  unfold mWhile at post
  refine ⟨fun n σ' H' => ∃ ρ2 Os2, Rel G R H' σ' ρ2 Os2 ∧ PinB bs σ0 σ' ∧ KeepE H Os H' Os2 (fun _ => False) ∧ PostS G R E D bs σ0 H Os (whileN m mb n ρ2), ⟨fuel ρ, ρ, Os, rel, pin, KeepE.refl, post⟩, ?_⟩
  rintro n σ' H' ⟨ρ2, Os2, rel2, pin2, keep2, post2⟩
  refine ⟨R, ρ2, Os2, rel2, ?_⟩
  cases n with
  | zero => exact post2.elim
  | succ n =>
    unfold whileN at post2
    cases hm : m ρ2 with
    | bad => rw [hm] at post2; exact post2
    | exc e ρ3 => rw [hm] at post2; exact fun c d H3 Os3 rel3 rx k => post2 c d σ' H3 Os3 pin2 rel3 rx (keep2.trans k)
    | ok v ρ3 =>
      rw [hm] at post2
      cases v with
      | bl t =>
        intro H3 Os3 rel3 k3 _
        have keep3 := keep2.trans k3
        cases t with
        | false => exact post2 σ' H3 Os3 pin2 rel3 keep3
        | true =>
          simp only [if_true] at post2
          refine ⟨fun σ4 H4 => ∃ ρ4 Os4, Rel G R H4 σ4 ρ4 Os4 ∧ PinB bs σ0 σ4 ∧ KeepE H Os H4 Os4 (fun _ => False) ∧ PostS G R E D bs σ0 H Os (whileN m mb n ρ4), fun σ4 H4 h4 => ⟨n, by omega, h4⟩, R, ρ3, Os3, rel3, pin2, ?_⟩
          refine PostS.later (H := H) (Os := Os) ?_ keep3
          cases hbm : mb ρ3 with
          | bad => rw [hbm] at post2; exact post2
          | exc e ρ4 => rw [hbm] at post2; exact post2
          | rt v ρ4 => rw [hbm] at post2; exact post2
          | bk ρ4 => rw [hbm] at post2; exact post2
          | nx ρ4 => rw [hbm] at post2; exact fun σ4 H4 Os4 p4 r4 k4 => ⟨ρ4, Os4, r4, p4, k4, post2⟩
          | ct ρ4 => rw [hbm] at post2; exact fun σ4 H4 Os4 p4 r4 k4 => ⟨ρ4, Os4, r4, p4, k4, post2⟩
      | _ => exact post2.elim

/-! ### ranges, frozen lists and tuples -/
def mRng1 (m : ME) : MI := fun ρ => match m ρ with
  | .ok (.int j) ρ' => if -(2 ^ 62) ≤ j ∧ j < 2 ^ 62 then .ok ((List.range j.toNat).map fun (i : Nat) => Val.int i) ρ' else .bad
  | .ok _ _ => .bad
  | .exc e ρ' => .exc e ρ'
  | .bad => .bad
def mRng2 (m1 m2 : ME) : MI := fun ρ => match evalM [m1, m2] ρ with
  | .ok [.int i, .int j] ρ' => if -(2 ^ 62) ≤ i ∧ i < 2 ^ 62 ∧ -(2 ^ 62) ≤ j ∧ j < 2 ^ 62 then .ok ((List.range (j - i).toNat).map fun (k : Nat) => Val.int (i + k)) ρ' else .bad
  | .ok _ _ => .bad
  | .exc e ρ' => .exc e ρ'
  | .bad => .bad
/-- the items of a frozen thing -/
def mItems (m : ME) : MI := fun ρ => match m ρ with
  | .ok (.lst false us) ρ' => if fzs us = true then .ok us ρ' else .bad
  | .ok (.tup us) ρ' => if fzs us = true then .ok us ρ' else .bad
  | .ok (.wtp us) ρ' => .ok us ρ'
  | .ok (.scr ns) ρ' => .ok (ns.map .int) ρ'
  | .ok _ _ => .bad
  | .exc e ρ' => .exc e ρ'
  | .bad => .bad
theorem walk_rng {W : Addr → Prop} {H : Hp} (i : Int) (n : Nat) : Walk G W H (Itr i n) ((List.range n).map fun (k : Nat) => Val.int (i + k)) := by
  intro W' H' _ j
  refine ⟨fun h => (show n ≤ j from by simpa using h), fun u hu => ?_⟩
  rw [List.getElem?_map] at hu
  have hj : j < n := by
    by_cases h : j < n
    · exact h
    · rw [List.getElem?_eq_none (by simpa using h)] at hu; cases hu
  rw [List.getElem?_range hj] at hu
  cases hu
  exact ⟨hj, fun x H'' ⟨e1, e2⟩ => by subst e1 e2; exact ⟨fun _ _ e => e, fun _ => .int _⟩⟩
theorem vi_rng1 {tg a : Expr} {x1 : Pos} (hg : Gl X "range") (hm : X.mg "range" = none) (ha : VE G X E p s a m) (hs : starEach [a] X.env = [(false, eval a X.env)] := by rfl) (hs2 : starEach [a] X.env = (false, eval a X.env) :: starEach [] X.env := by rfl) : VI G X E tg (.Call (.Name "range" x1) [a] [] pos) (mRng1 m) := by
  refine PI.pre (pi_range1 hg hm (pa_cons ha pa_nil hs2) hs) fun σ H K ⟨R, ρ, Os, rel, post⟩ => ⟨R, ρ, Os, rel, ?_⟩
  unfold mRng1 at post
  cases hm : m ρ with
  | bad => rw [hm] at post; exact post
  | exc e ρ' => rw [hm] at post; exact post
  | ok v ρ' =>
    rw [hm] at post
    cases v with
    | int j =>
      dsimp only at post
      intro x H' Os' O rel' rep nd k _
      cases rep
      by_cases h : -(2 ^ 62) ≤ j ∧ j < 2 ^ 62
      · rw [if_pos h] at post
        refine ⟨j, rfl, h.1, h.2, post _ H' Os' (rel'.weak fun a z => .inl z) ?_ (k.imp fun _ z => z.elim)⟩
        have := walk_rng (G := G) (W := WW R Os') (H := H') 0 j.toNat
        simpa using this
      · rw [if_neg h] at post; exact post.elim
    | _ => exact post.elim
theorem walk_lst {W : Addr → Prop} {H : Hp} {a : Addr} {xs : List V} {us : List Val} (h : (Fz W H a (.lst xs)) ∨ (∃ o, H a = some (.frz o (.lst xs)) ∧ ¬ W a) ∨ SqL G.K (fun _ => none) a xs) (r : Reps G W H xs us []) : Walk G W H (Itl G.K a) us := by
  intro W' H' kp i
  have hl := r.length
  have h' : H' a = some (.lst xs) ∨ (∃ o, H' a = some (.frz o (.lst xs))) ∨ SqL G.K (fun _ => none) a xs := h.imp (fun z => (kp _ _ z.1 z.2).1) fun z => z.imp (fun ⟨o, e, nw⟩ => ⟨o, (kp _ _ e nw).1⟩) id
  have hq : SqL G.K H' a xs := h'.elim (fun e => Or.inl (Or.inl e)) fun z => z.elim (fun ⟨o, e⟩ => Or.inl (Or.inr ⟨o, e⟩)) fun z => z.elim (fun q => by rcases q with q | ⟨o, q⟩ <;> cases q) .inr
  refine ⟨fun h => ⟨xs, hq, by omega⟩, fun u hu => ?_⟩
  obtain ⟨x, O1, Oi, O2, e1, e2, q⟩ := r.split hu
  have eO : Oi = [] := by
    have := e2.symm
    simp at this
    exact this.2.1
  subst eO
  refine ⟨⟨xs, x, hq, e1⟩, fun y H'' ⟨e3, e4⟩ => ?_⟩
  subst e3
  have := e4 xs hq
  rw [e1] at this
  cases this
  exact ⟨fun _ _ e => e, fun _ => q.mono kp fun _ z => nomatch z⟩

theorem Reps.one {W : Addr → Prop} {H : Hp} {xs : List V} {us : List Val} (r : Reps G W H xs us []) {i : Nat} {u : Val} (hu : us[i]? = some u) : ∃ x, xs[i]? = some x ∧ Rep G W H x u [] := by
  obtain ⟨x, O1, Oi, O2, e1, e2, q⟩ := r.split hu
  have eO : Oi = [] := by
    have := e2.symm
    simp at this
    exact this.2.1
  subst eO
  exact ⟨x, e1, q⟩
theorem walk_tup {W : Addr → Prop} {H : Hp} {a : Addr} {xs : List V} {us : List Val} (h : Fz W H a (.tup xs) ∨ SqT G.K (fun _ => none) a xs) (r : Reps G W H xs us []) : Walk G W H (Itt G.K a) us := by
  intro W' H' kp i
  have hl := r.length
  have hq : SqT G.K H' a xs := h.elim (fun z => .inl (.inl (kp _ _ z.1 z.2).1)) fun z => z.elim (fun q => by rcases q with q | ⟨o, q⟩ <;> cases q) .inr
  refine ⟨fun h => ⟨xs, hq, by omega⟩, fun u hu => ?_⟩
  obtain ⟨x, e1, q⟩ := r.one hu
  refine ⟨⟨xs, x, hq, e1⟩, fun y H'' ⟨e3, e4⟩ => ?_⟩
  subst e3
  have := e4 xs hq
  rw [e1] at this
  cases this
  exact ⟨fun _ _ e => e, fun _ => q.mono kp fun _ z => nomatch z⟩
/-- over a list or a tuple, whatever expression gives it; the items' trees; L: it is a list -/
def mItemsL (m : ME) : MI := fun ρ => match m ρ with
  | .ok (.lst false us) ρ' => .ok us ρ'
  | .ok (.scr ns) ρ' => .ok (ns.map .int) ρ'
  | .ok _ _ => .bad
  | .exc e ρ' => .exc e ρ'
  | .bad => .bad
def mItemsT (m : ME) : MI := fun ρ => match m ρ with
  | .ok (.tup us) ρ' => if fzs us = true then .ok us ρ' else .bad
  | .ok (.wtp us) ρ' => .ok us ρ'
  | .ok _ _ => .bad
  | .exc e ρ' => .exc e ρ'
  | .bad => .bad
theorem Rep.weakW {W W' : Addr → Prop} {H : Hp} {x : V} {v : Val} {O : List Addr} (r : Rep G W H x v O) (h : ∀ a, W' a → W a) : Rep G W' H x v O := r.mono (fun a o e nw => ⟨e, fun z => nw (h a z)⟩) fun _ _ _ e => e
theorem Reps.weakW {W W' : Addr → Prop} {H : Hp} {x : List V} {v : List Val} {O : List Addr} (r : Reps G W H x v O) (h : ∀ a, W' a → W a) : Reps G W' H x v O := r.mono (fun a o e nw => ⟨e, fun z => nw (h a z)⟩) fun _ _ _ e => e
theorem WW.up {R : Addr → Prop} {Os : Nat → List Addr} {s : Bool} {O : List Addr} : ∀ a, WW R Os a → WW (Rp R s O) Os a := fun a z => z.imp .inl id
theorem vi_list {tg : Expr} (hK : X.K = G.K) (ha : VE G X E p s a m) : VI G X E tg a (mItemsL m) := by
  refine PI.pre (pi_list ha) fun σ H K ⟨R, ρ, Os, rel, post⟩ => ⟨R, ρ, Os, rel, ?_⟩
  unfold mItemsL at post
  cases hm : m ρ with
  | bad => rw [hm] at post; exact post
  | exc e ρ' => rw [hm] at post; exact post
  | ok v ρ' =>
    rw [hm] at post
    intro x H' Os' O rel' rep nd k _
    rw [hK]
    have rl : Rel G R H' σ ρ' Os' := rel'.weak fun a z => .inl z
    have kl : KeepE H Os H' Os' fun _ => False := k.imp fun _ z => z.elim
    cases v with
    | lst o us =>
      cases o with
      | true => exact post.elim
      | false =>
        cases rep with
        | @lstF b xs _ h r => exact ⟨b, rfl, ⟨xs, .inl (.inl h.1)⟩, post _ H' Os' rl (walk_lst (xs := xs) (.inl ⟨h.1, fun z => h.2 (WW.up _ z)⟩) (r.weakW WW.up)) kl⟩
    | scr ns =>
      cases rep with
      | @scr b _ h =>
        refine ⟨b, rfl, ⟨ns.map .int, h.elim (fun ⟨o, e, _⟩ => Or.inl (Or.inr ⟨o, e⟩)) (fun z => z.elim (fun q => by rcases q with q | ⟨o, q⟩ <;> cases q) .inr)⟩, post _ H' Os' rl (walk_lst (xs := ns.map .int) (.inr (h.imp (fun ⟨o, e, nw⟩ => ⟨o, e, fun z => nw (WW.up _ z)⟩) id)) (Reps.of_ints ns)) kl⟩
    | _ => exact post.elim
theorem vi_tup {tg : Expr} (hK : X.K = G.K) (ha : VE G X E p s a m) : VI G X E tg a (mItemsT m) := by
  refine PI.pre (pi_tup ha) fun σ H K ⟨R, ρ, Os, rel, post⟩ => ⟨R, ρ, Os, rel, ?_⟩
  unfold mItemsT at post
  cases hm : m ρ with
  | bad => rw [hm] at post; exact post
  | exc e ρ' => rw [hm] at post; exact post
  | ok v ρ' =>
    rw [hm] at post
    intro x H' Os' O rel' rep nd k _
    rw [hK]
    have rl : Rel G R H' σ ρ' Os' := rel'.weak fun a z => .inl z
    have kl : KeepE H Os H' Os' fun _ => False := k.imp fun _ z => z.elim
    cases v with
    | tup us =>
      cases rep with
      | @tup b xs _ O h r =>
        dsimp only at post
        by_cases hf : fzs us = true
        · rw [if_pos hf] at post
          exact ⟨b, rfl, ⟨xs, .inl (.inl h.1)⟩, post _ H' Os' rl (walk_tup (xs := xs) (.inl ⟨h.1, fun z => h.2 (WW.up _ z)⟩) ((r.fz hf).weakW WW.up)) kl⟩
        · rw [if_neg hf] at post; exact post.elim
    | wtp us =>
      cases rep with
      | @wtp b xs _ h r =>
        exact ⟨b, rfl, ⟨xs, h.elim (fun q => by rcases q with q | ⟨o, q⟩ <;> cases q) .inr⟩, post _ H' Os' rl (walk_tup (xs := xs) (.inr h) (r.weakW WW.up)) kl⟩
    | _ => exact post.elim
/-- nobody changes the result any more -/
def mFz (m : ME) : ME := fun ρ => match m ρ with
  | .ok v ρ' => .ok v.frz ρ'
  | .exc e ρ' => .exc e ρ'
  | .bad => .bad
theorem Post.fz {R : Addr → Prop} {σ : L2.St} {H : Hp} {Os : Nat → List Addr} {ρ : VEnv} {Q : VK} {r : RE} (rel0 : ∀ a, R a → ∃ o, H a = some o ∧ ¬ We Os a)
    (post : Post G R E σ H Os p true ρ Q (match (generalizing := false) r with | .ok v ρ' => .ok v.frz ρ' | .exc e ρ' => .exc e ρ' | .bad => .bad)) : Post G R E σ H Os p true ρ Q r := by
  cases r with
  | bad => exact post
  | exc e ρ' => exact post
  | ok v ρ' =>
    intro x H' Os' O rel rep nd k pure
    have hw : ∀ a, Rp R true [] a → Rp R true O a := fun a z => .inl (z.elim id fun z => nomatch z.2)
    refine post x H' Os' [] (rel.weak hw) (rep.freeze (fun a nw z => nw (z.imp (hw a) id)) fun a ha z => ?_) (fun _ => List.nodup_nil) (k.imp fun a z => nomatch z.2) pure
    rcases z with z | z
    · obtain ⟨o, e, nw⟩ := rel0 a (z.elim id fun z => nomatch z.2)
      exact (k a o e nw).2.2 ⟨rfl, ha⟩
    · exact rel.nr (.inr ⟨rfl, ha⟩) z
theorem ve_fz (h : VE G X E p true e m) : VE G X E p true e (mFz m) := PE.pre h fun σ H Q ⟨R, ρ, Os, rel, post⟩ => ⟨R, ρ, Os, rel, post.fz rel.hr⟩
end
end VL
/-! VL, part M: calls by name, of methods, of classes; properties; attributes; a def by its body. -/
namespace VL
open PySem L2

/-- a callee that is known: what it promises of the values that it is called with -/
def CalR (X : Cx) (f : Value) (r : L2.St → List V → Hp → VK → Prop) : Prop :=
  ∀ (pins : List (Addr × Obj)) (s : Shared) (σ : L2.St) (H : Hp) (xs : List V) (us : List Value) (Q : VK), Inv X pins σ H s → Vals xs us → r σ xs H Q → wpAny (model X.prog X.w) X.A (call f us) (EP X pins σ Q) X.xe s
/-- .. and is an MF -/
def CalV (G : Gam) (X : Cx) (E : WX) (f : Value) (n : Nat) (mf : MF) (dks : List (V × Val)) : Prop := CalR X f fun σ xs H Q => spV G n mf (xs ++ dks.map (·.1)) H Q (WE E σ)
def VAg (G : Gam) (X : Cx) (E : WX) (es : List Expr) (as : List Arg) : Prop := PA X es fun σ H K => nestG G E as σ H K
section
variable {G : Gam} {X : Cx} {E : WX} {es : List Expr} {e o : Expr} {as : List Arg} {p s : Bool} {m : ME} {pos apos px : Pos}
theorem vg_nil : VAg G X E [] [] := pa_nil
theorem vg_v (h : VE G X E p s e m) (t : VAg G X E es as) (hs : starEach (e :: es) X.env = (false, eval e X.env) :: starEach es X.env := by rfl) : VAg G X E (e :: es) (.v ⟨p, s, m⟩ :: as) := pa_cons h t hs
theorem vg_r {i : Nat} (h : PE X e (tVar i)) (t : VAg G X E es as) (hs : starEach (e :: es) X.env = (false, eval e X.env) :: starEach es X.env := by rfl) : VAg G X E (e :: es) (.r i :: as) := pa_cons h t hs

/-- the defaults as arguments -/
def dArgs (dks : List (V × Val)) : List Arg := dks.map fun q => Arg.k q.1 q.2
def DflL (G : Gam) (dks : List (V × Val)) : Prop := ∀ q ∈ dks, ∀ W H, Rep G W H q.1 q.2 []
theorem dfl_of {dks : List (V × Val)} (h : DflL G dks) : Dfl G (dArgs dks) := by
  induction dks with
  | nil => trivial
  | cons q t ih => exact ⟨h q List.mem_cons_self, ih fun z hz => h z (List.mem_cons_of_mem _ hz)⟩
def noK : List Arg → Bool
  | [] => true
  | .k _ _ :: _ => false
  | _ :: as => noK as
theorem dfl_app {dks : List (V × Val)} (h : DflL G dks) : ∀ {as : List Arg}, noK as = true → Dfl G (as ++ dArgs dks)
  | [], _ => dfl_of h
  | .v o :: as, z => dfl_app h (as := as) z
  | .r i :: as, z => dfl_app h (as := as) z
  | .k _ _ :: as, z => by cases z
theorem vals_k (dks : List (V × Val)) : vals (dArgs dks) = [] := by
  induction dks with
  | nil => rfl
  | cons q t ih => exact ih
theorem vals_app {dks : List (V × Val)} : ∀ {as : List Arg}, vals (as ++ dArgs dks) = vals as
  | [] => vals_k dks
  | .v o :: as => congrArg (o :: ·) (vals_app (as := as))
  | .r i :: as => vals_app (as := as)
  | .k _ _ :: as => vals_app (as := as)
/-- what any call comes to -/
theorem call_dk {mf : MF} {n : Nat} {dks : List (V × Val)} {σ : L2.St} {H : Hp} {Q : VK} (hd : DflL G dks) (hk : noK as = true) (hs : (vals as).all (·.s) = true) (hn : as.length + dks.length = n) (h : rd G E (argsP (as ++ dArgs dks)) true (mCall mf (as ++ dArgs dks)) σ H Q) :
    nestG G E as σ H (fun xs H1 => spV G n mf (xs ++ dks.map (·.1)) H1 Q (WE E σ)) := by
  have := call_of (n := n) (dfl_app hd hk) (by rw [vals_app]; exact hs) (by simp [dArgs, hn]) h
  exact nestG_app (K := fun xs H1 => spV G n mf xs H1 Q (WE E σ)) this
/-- f(e, ..) -/
theorem ve_call {x : Str} {u : Value} {n : Nat} {mf : MF} {dks : List (V × Val)} (hc : CalV G X E u n mf dks) (hg : Gl X x) (hm : X.mg x = some u) (hk : PySem.W.keepIn X.K u = true) (ha : VAg G X E (e :: es) as) (hd : DflL G dks) (hs : (vals as).all (·.s) = true := by rfl) (hnk : noK as = true := by rfl) (hn : as.length + dks.length = n := by rfl)
    (hdb : (x == ("__debug__" : Str)) = false := by decide) (he : starEach (e :: es) X.env = (false, eval e X.env) :: starEach es X.env := by rfl) (hpl : (backTo pos (starEach es X.env)).any (·.1) = false := by rfl) :
    VE G X E (argsP (as ++ dArgs dks)) true (.Call (.Name x px) (e :: es) [] pos) (mCall mf (as ++ dArgs dks)) := by
  refine ⟨fun pins s1 σ H Q I h => wpAny_Call_Name_kw (ld_glob I hg hm (PySem.W.callWith_K (h₀ := X.base) I.ok.mod.kin hk ?_ he hpl) hdb)⟩
  exact thn (ha.run pos pins s1 σ H _ I (call_dk hd hnk hs hn h)) fun us s2 ⟨xs, H1, I1, r, q⟩ => ⟨I1.kIn, hc pins s2 σ H1 xs us Q I1 r q⟩
/-- f() -/
theorem ve_call0 {x : Str} {u : Value} {n : Nat} {mf : MF} {dks : List (V × Val)} (hc : CalV G X E u n mf dks) (hg : Gl X x) (hm : X.mg x = some u) (hk : PySem.W.keepIn X.K u = true) (hd : DflL G dks) (hn : dks.length = n := by rfl) (hdb : (x == ("__debug__" : Str)) = false := by decide) :
    VE G X E (argsP (dArgs dks)) true (.Call (.Name x px) [] [] pos) (mCall mf (dArgs dks)) := by
  refine ⟨fun pins s1 σ H Q I h => wpAny_Call_Name_kw (ld_glob I hg hm (PySem.W.callWith_K0 I.kIn hk ?_) hdb)⟩
  exact hc pins s1 σ H [] [] Q I .nil (call_dk (as := []) (n := n) hd rfl rfl (by simpa using hn) h)

/-! ### a def, a class -/
theorem cal_fn {k : Nat} {f : Addr} {fd : FuncData} {ps : List Str} {n : Nat} {mf : MF} {dks : List (V × Val)} {ds : List Value} (F : FnOkG X.prog X.w X.K X.mg X.base (L2.CX X.prog X.w) k f fd ps (spV G n mf)) (hr : RoomG k X.A) (hb : Binds X.K fd ps ds) (hd : Vals (dks.map (·.1)) ds) (tk : Takes X E) : CalV G X E (.ref f) n mf dks :=
  fun pins s1 σ H xs us Q I r h => run_G (E := WE E) F hr hb hd (passAt tk σ) I r h
/-- a new object: what __init__ makes of an empty one -/
def mMake (c : Nat) (mf : MF) : MF := fun vs => match mf (.obj true c [] [] :: vs) with
  | .ok .non (some self :: fs) => .ok self fs
  | .exc e (_ :: fs) => .exc e fs
  | _ => .bad
theorem rel_obj {R : Addr → Prop} {H : Hp} {xs : List V} {vs : List Val} {Oa : Nat → List Addr} (rel : Rel G R H (xs.map some) (vs.map some) Oa) {c : Nat} {C x dx : Addr} (hc : G.cn c = some C) (hx : H x = none) (hdx : H dx = none) (hne : dx ≠ x) :
    Rel G R (upd (upd H dx (.own x)) x (.ins C dx [])) ((V.ref x :: xs).map some) ((Val.obj true c [] [] :: vs).map some) (fun j => match j with | 0 => [x] | j + 1 => Oa j) := by
  have same : Same H (upd (upd H dx (.own x)) x (.ins C dx [])) := (same_upd hdx).trans (same_upd (by rw [upd_ne hne.symm]; exact hx))
  have we : ∀ a, WW R (fun j => match j with | 0 => [x] | j + 1 => Oa j) a → WW R Oa a ∨ H a = none := fun a z => by
    rcases z with z | ⟨j, z⟩
    · exact .inl (.inl z)
    · cases j with
      | zero => exact .inr (by rw [List.mem_singleton.mp z]; exact hx)
      | succ j => exact .inl (.inr ⟨j, z⟩)
  have hx0 : ∀ i, x ∉ Oa i := fun i hm => by obtain ⟨o, e⟩ := rel.there x hm; rw [hx] at e; cases e
  refine ⟨by simpa using rel.len, fun i v hv => ?_, fun i hi => ?_, fun i => ?_, fun i j a ha hb => ?_, fun i a ha z => ?_, fun a z => let ⟨o, e⟩ := rel.rt a z; ⟨o, same a o e⟩⟩
  · cases i with
    | zero =>
      simp at hv
      subst hv
      exact ⟨.ref x, rfl, .objO (fs := []) upd_same hc rfl .nil⟩
    | succ i =>
      obtain ⟨y, e, r⟩ := rel.rep i v (by simpa using hv)
      exact ⟨y, by simpa using e, r.mono (fun a o e nw => ⟨same a o e, fun z => (we a z).elim nw fun z => by rw [e] at z; cases z⟩) fun a _ o e => same a o e⟩
  · cases i with
    | zero => exact absurd rfl (hi (.obj true c [] []))
    | succ i => exact rel.nil i fun v hv => hi v (by simpa using hv)
  · cases i with
    | zero => simp
    | succ i => exact rel.nd i
  · cases i with
    | zero =>
      cases j with
      | zero => rfl
      | succ j => exact absurd ((List.mem_singleton.mp ha) ▸ hb) (hx0 j)
    | succ i =>
      cases j with
      | zero => exact absurd ((List.mem_singleton.mp hb) ▸ ha) (hx0 i)
      | succ j => exact congrArg (· + 1) (rel.dj i j a ha hb)
  · cases i with
    | zero =>
      obtain ⟨o, e⟩ := rel.rt a z
      rw [List.mem_singleton.mp ha, hx] at e; cases e
    | succ i => exact rel.dr i a ha z
/-- behind __init__: the object is the result -/
theorem rel_made {R : Addr → Prop} {H : Hp} {x : V} {xs : List V} {self : Val} {fs : VEnv} {Oa : Nat → List Addr} {s : Bool} {O : List Addr} (rel : Rel G (Rp R s O) H ((x :: xs).map some) (some self :: fs) Oa) :
    Rel G (Rp R true (Oa 0)) H (xs.map some) fs (fun j => Oa (j + 1)) ∧ Rep G (WW (Rp R true (Oa 0)) (fun j => Oa (j + 1))) H x self (Oa 0) ∧ (Oa 0).Nodup := by
  have t := Rel.tail rel
  have t1 : Rel G (Rp R true (Oa 0)) H (xs.map some) fs (fun j => Oa (j + 1)) := t.weak fun a z => z.elim (fun z => .inl (.inl z)) fun z => .inr z.2
  obtain ⟨y, e, r⟩ := rel.rep 0 self rfl
  have e' : x = y := by simpa using e
  subst e'
  refine ⟨t1, r.weakW fun a z => ?_, rel.nd 0⟩
  rcases z with (z | z) | ⟨j, z⟩
  · exact .inl (.inl z)
  · exact .inr ⟨0, z.2⟩
  · exact .inr ⟨j + 1, z⟩
theorem sp_make {n c : Nat} {C : Addr} {mf : MF} {xs : List V} {H : Hp} {Q : VK} {E0 : XK} (hc : G.cn c = some C) (h : spV G n (mMake c mf) xs H Q E0) {x dx : Addr} (hx : H x = none) (hdx : H dx = none) (hne : dx ≠ x) :
    spV G (n + 1) mf (.ref x :: xs) (upd (upd H dx (.own x)) x (.ins C dx [])) (fun v H2 => v = .non ∧ Q (.ref x) H2) E0 := by
  obtain ⟨hl, R, vs, Oa, rel, post⟩ := h
  refine ⟨by simp [hl], R, _, _, rel_obj rel hc hx hdx hne, ?_⟩
  have same : Same H (upd (upd H dx (.own x)) x (.ins C dx [])) := (same_upd hdx).trans (same_upd (by rw [upd_ne hne.symm]; exact hx))
  have k0 : ∀ {H2 : Hp} {Os2 : Nat → List Addr} {O : Addr → Prop}, KeepE (upd (upd H dx (.own x)) x (.ins C dx [])) (fun j => match j with | 0 => [x] | j + 1 => Oa j) H2 Os2 O → ∀ a o, H a = some o → ¬ We Oa a → H2 a = some o ∧ ¬ We Os2 a ∧ ¬ O a := fun k a o e nw => k a o (same a o e) fun ⟨j, z⟩ => by
    cases j with
    | zero => rw [List.mem_singleton.mp z, hx] at e; cases e
    | succ j => exact nw ⟨j, z⟩
  unfold mMake at post
  cases hm : mf (.obj true c [] [] :: vs) with
  | bad => rw [hm] at post; exact post
  | exc e fs =>
    rw [hm] at post
    cases fs with
    | nil => exact post.elim
    | cons f fs =>
      intro cc d H2 Os2 rel2 rx k
      have rel2' : Rel G R H2 (some (V.ref x) :: xs.map some) (f :: fs) Os2 := rel2
      have t := Rel.tail rel2'
      refine post cc d H2 (fun j => Os2 (j + 1)) (t.weak fun a z => .inl z) (rx.mono fun a o e nw => ⟨e, fun z => nw (z.imp id fun ⟨j, z⟩ => ⟨j + 1, z⟩)⟩) fun a o e nw => ?_
      obtain ⟨e1, n1, n2⟩ := k0 k a o e nw
      exact ⟨e1, fun ⟨j, z⟩ => n1 ⟨j + 1, z⟩, n2⟩
  | ok v fs =>
    rw [hm] at post
    cases v with
    | non =>
      cases fs with
      | nil => exact post.elim
      | cons f fs =>
        cases f with
        | none => exact post.elim
        | some self =>
          intro y H2 Os2 O rel2 rep2 nd2 k _
          cases rep2
          refine ⟨rfl, ?_⟩
          obtain ⟨r1, r2, r3⟩ := rel_made rel2
          refine post (.ref x) H2 (fun j => Os2 (j + 1)) (Os2 0) r1 r2 (fun _ => r3) (fun a o e nw => ?_) fun z => by cases z
          obtain ⟨e1, n1, n2⟩ := k0 k a o e nw
          exact ⟨e1, fun ⟨j, z⟩ => n1 ⟨j + 1, z⟩, fun z => n1 ⟨0, z.2⟩⟩
    | _ => exact post.elim
theorem cal_make {k : Nat} {f C : Addr} {fd : FuncData} {ps : List Str} {n c : Nat} {mf : MF} {dks : List (V × Val)} {ds : List Value} (hC : G.cn c = some C) (M : Mk X.K C f) (F : FnOkG X.prog X.w X.K X.mg X.base (L2.CX X.prog X.w) k f fd ps (spV G (n + 1) mf)) (hr : RoomG (k + 1) X.A) (hb : Binds X.K fd ps ds)
    (hd : Vals (dks.map (·.1)) ds) (tk : Takes X E) : CalV G X E (.ref C) n (mMake c mf) dks := by
  intro pins s1 σ H xs us Q I r h
  have hx := I.hok.fresh (Nat.le_succ s1.heap.objs.size)
  have hdx := I.hok.fresh (Nat.le_refl s1.heap.objs.size)
  have hq := sp_make (x := s1.heap.objs.size + 1) (dx := s1.heap.objs.size) hC h hx hdx (Nat.ne_of_lt (Nat.lt_succ_self _))
  have I2 := Inv.made (C := C) I
  have rv : Vals (V.ref (s1.heap.objs.size + 1) :: (xs ++ dks.map (·.1))) (Value.ref (s1.heap.objs.size + 1) :: (us ++ ds)) := .cons rfl (r.append hd)
  have hl : (Value.ref (s1.heap.objs.size + 1) :: us ++ ds).length = ps.length := by
    rw [← F.len _ _ _ _ hq]
    exact rv.length.symm
  refine wpAny_call (make_map (f := f) I.kIn M.makes M.init (beq_iff_eq.mp M.fn) ?_)
  have run := F.run (X.A.under (.builtin "type.__call__" ⟨.ref C :: us, []⟩)) X.stack _ _ ⟨Value.ref (s1.heap.objs.size + 1) :: us, []⟩ (Value.ref (s1.heap.objs.size + 1) :: (us ++ ds)) _ _ (WE E σ) (hr.make C us []) (I2.env0.make C us []) (hb _ (Value.ref (s1.heap.objs.size + 1) :: us) I2.kIn hl) rv hq
  refine codeAny_mono run fun res s2 hq2 => ?_
  cases res with
  | error er => exact passAt tk σ pins _ _ er s2 I2 hq2
  | ok fl =>
    cases fl with
    | ret u =>
      obtain ⟨v, H', I3, rv3, ev, q3⟩ := I2.after hq2
      subst ev
      exact ⟨rv3, ⟨V.ref (s1.heap.objs.size + 1), H', I3, rfl, q3⟩⟩
    | next => exact hq2.elim
    | brk => exact hq2.elim
    | cont => exact hq2.elim
end
end VL
/-! VL, part N: methods, properties, attributes; a def by its body; stores into what a name holds. -/
namespace VL
open PySem L2

section
variable {G : Gam} {X : Cx} {E : WX} {es : List Expr} {e o : Expr} {as : List Arg} {p s : Bool} {m : ME} {pos apos px : Pos}
abbrev mcTree (o : Expr) (mn : Str) (apos pos : Pos) (es : List Expr) (pl : Sem Bool) (env : Env) : Sem Value := do
  let ov ← eval o env
  standAt apos.atName
  let (f, first) ← holding [ov] (getMethod ov mn pl)
  callWith pos f first (backTo pos (starEach es env)) (backToKw pos (keywordEach [] env))
/-- o.m(..), read -/
theorem pe_calm {pl : Sem Bool} {C f : Addr} {mn : Str} {ta : TE} {t : TA} {r : L2.St → List V → Hp → VK → Prop} (he : PE X o ta) (c : Cls X.K C) (hm : Meth X.K C mn f) (hc : CalR X (.ref f) r) (ha : PA X (e :: es) t)
    (hst : starEach (e :: es) X.env = (false, eval e X.env) :: starEach es X.env) (hpl : (backTo pos (starEach es X.env)).any (·.1) = false) (ht : eval (.Call (.Attribute o mn apos) (e :: es) [] pos) X.env = mcTree o mn apos pos (e :: es) pl X.env) :
    PE X (.Call (.Attribute o mn apos) (e :: es) [] pos) (fun σ H Q => ta σ H fun x H1 => ∃ a dx fs, x = .ref a ∧ H1 a = some (.ins C dx fs) ∧ fs.lookup mn = none ∧ t σ H1 fun xs H2 => r σ (x :: xs) H2 Q) := by
  refine ⟨fun pins s1 σ H Q I h => PySem.W.methodCall_KW (pl := pl) (thn (he.run pins s1 σ H _ I h) fun u s2 hx => ?_) ht⟩
  obtain ⟨x, H1, I1, rx, a, dx, fs, ex, ea, l, q⟩ := hx
  subst ex
  obtain rfl : u = Value.ref a := rx
  refine getmeth_ok I1 ea c hm l (PySem.W.callWith_K (first := [.ref a]) (h₀ := X.base) I1.ok.mod.kin hm.kp ?_ hst hpl)
  exact thn (ha.run pos pins s2 σ H1 _ I1 q) fun us s3 ⟨xs, H2, I2, r2, q2⟩ => ⟨I2.kIn, hc pins s3 σ H2 (.ref a :: xs) (.ref a :: us) Q I2 (.cons rfl r2) q2⟩
theorem pe_calm0 {pl : Sem Bool} {C f : Addr} {mn : Str} {ta : TE} {r : L2.St → List V → Hp → VK → Prop} (he : PE X o ta) (c : Cls X.K C) (hm : Meth X.K C mn f) (hc : CalR X (.ref f) r)
    (ht : eval (.Call (.Attribute o mn apos) [] [] pos) X.env = mcTree o mn apos pos [] pl X.env) :
    PE X (.Call (.Attribute o mn apos) [] [] pos) (fun σ H Q => ta σ H fun x H1 => ∃ a dx fs, x = .ref a ∧ H1 a = some (.ins C dx fs) ∧ fs.lookup mn = none ∧ r σ [x] H1 Q) := by
  refine ⟨fun pins s1 σ H Q I h => PySem.W.methodCall_KW (pl := pl) (thn (he.run pins s1 σ H _ I h) fun u s2 hx => ?_) ht⟩
  obtain ⟨x, H1, I1, rx, a, dx, fs, ex, ea, l, q⟩ := hx
  subst ex
  obtain rfl : u = Value.ref a := rx
  exact getmeth_ok I1 ea c hm l (PySem.W.callWith_K0 (first := [.ref a]) I1.kIn hm.kp (hc pins s2 σ H1 [.ref a] [.ref a] Q I1 (.cons rfl .nil) q))

/-- an object of the class c that has no attribute of that name -/
def objC (c : Nat) (mn : Str) : Val → Bool
  | .obj _ n fs _ => n == c && !(fs.contains mn)
  | _ => false
def mMethR (c : Nat) (mn : Str) (mf : MF) (i : Nat) (as : List Arg) : ME := fun ρ => match ρ[i]? with
  | some (some v) => if objC c mn v = true then mCall mf (.r i :: as) ρ else .bad
  | _ => .bad
/-- a value that must be an object of the class c -/
def mObjC (c : Nat) (mn : Str) (m : ME) : ME := fun ρ => match m ρ with
  | .ok v ρ' => if objC c mn v = true then .ok v ρ' else .bad
  | .exc e ρ' => .exc e ρ'
  | .bad => .bad
theorem look_none {mn : Str} : ∀ {fs : List (Str × V)}, (fs.map (·.1)).contains mn = false → fs.lookup mn = none
  | [], _ => rfl
  | (f, x) :: fs, h => by
    simp only [List.map_cons, List.contains_cons, Bool.or_eq_false_iff] at h
    show (match mn == f with | true => some x | false => fs.lookup mn) = none
    rw [h.1]
    exact look_none h.2
theorem objC_ok {c : Nat} {mn : Str} {C : Addr} (hc : G.cn c = some C) {W : Addr → Prop} {H : Hp} {x : V} {v : Val} {O : List Addr} (r : Rep G W H x v O) (h : objC c mn v = true) : ∃ a dx fs, x = .ref a ∧ H a = some (.ins C dx fs) ∧ fs.lookup mn = none := by
  cases v with
  | obj ow n ns vs =>
    unfold objC at h
    simp only [Bool.and_eq_true, beq_iff_eq, Bool.not_eq_true'] at h
    obtain ⟨rfl, h2⟩ := h
    obtain ⟨a, C', dx, fs, rfl, e, hC, hn⟩ := rep_obj r
    rw [hc] at hC
    cases hC
    exact ⟨a, dx, fs, rfl, e, look_none (by rw [← hn]; exact h2)⟩
  | _ => exact absurd h (by simp [objC])
theorem rd_obj {c : Nat} {mn : Str} {C : Addr} (hc : G.cn c = some C) {σ : L2.St} {H : Hp} {P : V → Hp → Prop} (h : rd G E p s (mObjC c mn m) σ H P) : rd G E p s m σ H fun x H1 => ∃ a dx fs, x = .ref a ∧ H1 a = some (.ins C dx fs) ∧ fs.lookup mn = none ∧ P x H1 := by
  obtain ⟨R, ρ, Os, rel, post⟩ := h
  refine ⟨R, ρ, Os, rel, ?_⟩
  unfold mObjC at post
  cases hm : m ρ with
  | bad => rw [hm] at post; exact post
  | exc e ρ' => rw [hm] at post; exact post
  | ok v ρ' =>
    rw [hm] at post
    dsimp only at post
    by_cases ho : objC c mn v = true
    · rw [if_pos ho] at post
      intro x H' Os' O rel' rep nd k pu
      obtain ⟨a, dx, fs, e1, e2, e3⟩ := objC_ok hc rep ho
      exact ⟨a, dx, fs, e1, e2, e3, post x H' Os' O rel' rep nd k pu⟩
    · rw [if_neg ho] at post; exact post.elim
/-- name.m(e, ..) -/
theorem ve_methR {pl : Sem Bool} {C f : Addr} {mn : Str} {i c n : Nat} {mf : MF} {dks : List (V × Val)} (he : PE X o (tVar i)) (hcn : G.cn c = some C) (cl : Cls X.K C) (hm : Meth X.K C mn f) (hc : CalV G X E (.ref f) n mf dks) (ha : VAg G X E (e :: es) as) (hd : DflL G dks)
    (hs : (vals as).all (·.s) = true := by rfl) (hnk : noK as = true := by rfl) (hn : as.length + 1 + dks.length = n := by rfl) (hst : starEach (e :: es) X.env = (false, eval e X.env) :: starEach es X.env := by rfl) (hpl : (backTo pos (starEach es X.env)).any (·.1) = false := by rfl)
    (ht : eval (.Call (.Attribute o mn apos) (e :: es) [] pos) X.env = mcTree o mn apos pos (e :: es) pl X.env := by rfl) : VE G X E false true (.Call (.Attribute o mn apos) (e :: es) [] pos) (mMethR c mn mf i (as ++ dArgs dks)) := by
  refine PE.pre (pe_calm he cl hm hc ha hst hpl ht) fun σ H Q ⟨R, ρ, Os, rel, post⟩ => ?_
  unfold mMethR at post
  split at post
  · rename_i v hv
    by_cases ho : objC c mn v = true
    · rw [if_pos ho] at post
      obtain ⟨x, hx, rep⟩ := rel.rep i v hv
      obtain ⟨a, dx, fs, e1, e2, e3⟩ := objC_ok hcn rep ho
      obtain ⟨y, hy, q⟩ := call_dk (as := .r i :: as) (n := n) hd hnk hs hn (σ := σ) ⟨R, ρ, Os, rel, post⟩
      rw [hx] at hy
      cases hy
      exact ⟨x, hx, a, dx, fs, e1, e2, e3, q⟩
    · rw [if_neg ho] at post; exact post.elim
  · exact post.elim
theorem ve_methR0 {pl : Sem Bool} {C f : Addr} {mn : Str} {i c n : Nat} {mf : MF} {dks : List (V × Val)} (he : PE X o (tVar i)) (hcn : G.cn c = some C) (cl : Cls X.K C) (hm : Meth X.K C mn f) (hc : CalV G X E (.ref f) n mf dks) (hd : DflL G dks) (hn : 1 + dks.length = n := by rfl)
    (ht : eval (.Call (.Attribute o mn apos) [] [] pos) X.env = mcTree o mn apos pos [] pl X.env := by rfl) : VE G X E false true (.Call (.Attribute o mn apos) [] [] pos) (mMethR c mn mf i (dArgs dks)) := by
  refine PE.pre (pe_calm0 he cl hm hc ht) fun σ H Q ⟨R, ρ, Os, rel, post⟩ => ?_
  unfold mMethR at post
  split at post
  · rename_i v hv
    by_cases ho : objC c mn v = true
    · rw [if_pos ho] at post
      obtain ⟨x, hx, rep⟩ := rel.rep i v hv
      obtain ⟨a, dx, fs, e1, e2, e3⟩ := objC_ok hcn rep ho
      obtain ⟨y, hy, q⟩ := call_dk (as := [.r i]) (n := n) hd rfl rfl (by simpa using hn) (σ := σ) ⟨R, ρ, Os, rel, post⟩
      rw [hx] at hy
      cases hy
      exact ⟨x, hx, a, dx, fs, e1, e2, e3, q⟩
    · rw [if_neg ho] at post; exact post.elim
  · exact post.elim
/-- o.m(e, ..), o a value -/
theorem ve_methV {pl : Sem Bool} {C f : Addr} {mn : Str} {c n : Nat} {mf : MF} {dks : List (V × Val)} (he : VE G X E p true o m) (hcn : G.cn c = some C) (cl : Cls X.K C) (hm : Meth X.K C mn f) (hc : CalV G X E (.ref f) n mf dks) (ha : VAg G X E (e :: es) as) (hd : DflL G dks)
    (hs : (vals as).all (·.s) = true := by rfl) (hnk : noK as = true := by rfl) (hn : as.length + 1 + dks.length = n := by rfl) (hst : starEach (e :: es) X.env = (false, eval e X.env) :: starEach es X.env := by rfl) (hpl : (backTo pos (starEach es X.env)).any (·.1) = false := by rfl)
    (ht : eval (.Call (.Attribute o mn apos) (e :: es) [] pos) X.env = mcTree o mn apos pos (e :: es) pl X.env := by rfl) : VE G X E (p && argsP (as ++ dArgs dks)) true (.Call (.Attribute o mn apos) (e :: es) [] pos) (mCall mf (.v ⟨p, true, mObjC c mn m⟩ :: (as ++ dArgs dks))) := by
  refine PE.pre (pe_calm he cl hm hc ha hst hpl ht) fun σ H Q h => ?_
  have := call_dk (E := E) (as := .v ⟨p, true, mObjC c mn m⟩ :: as) (n := n) hd hnk (by simpa [vals] using hs) hn (σ := σ) h
  exact rd_obj hcn this
theorem ve_methV0 {pl : Sem Bool} {C f : Addr} {mn : Str} {c n : Nat} {mf : MF} {dks : List (V × Val)} (he : VE G X E p true o m) (hcn : G.cn c = some C) (cl : Cls X.K C) (hm : Meth X.K C mn f) (hc : CalV G X E (.ref f) n mf dks) (hd : DflL G dks) (hn : 1 + dks.length = n := by rfl)
    (ht : eval (.Call (.Attribute o mn apos) [] [] pos) X.env = mcTree o mn apos pos [] pl X.env := by rfl) : VE G X E (p && argsP (dArgs dks)) true (.Call (.Attribute o mn apos) [] [] pos) (mCall mf (.v ⟨p, true, mObjC c mn m⟩ :: dArgs dks)) := by
  refine PE.pre (pe_calm0 he cl hm hc ht) fun σ H Q h => ?_
  have := call_dk (E := E) (as := [.v ⟨p, true, mObjC c mn m⟩]) (n := n) hd rfl rfl (by simpa using hn) (σ := σ) h
  exact rd_obj hcn this

/-! ### properties: the getter raises nothing -/
def mfNoX (mf : MF) : MF := fun vs => match mf vs with
  | .exc _ _ => .bad
  | r => r
theorem sp_nox {n : Nat} {mf : MF} {xs : List V} {H : Hp} {Q : VK} {E0 E1 : XK} (h : spV G n (mfNoX mf) xs H Q E0) : spV G n mf xs H Q E1 := by
  obtain ⟨hl, R, vs, Oa, rel, post⟩ := h
  refine ⟨hl, R, vs, Oa, rel, ?_⟩
  unfold mfNoX at post
  cases hm : mf vs with
  | bad => rw [hm] at post; exact post
  | exc e fs => rw [hm] at post; exact post.elim
  | ok v fs => rw [hm] at post; exact post
theorem pass_none {Y : Cx} : Passes (L2.CX Y.prog Y.w) Y (fun _ _ _ => False) := fun _ _ _ _ _ _ _ ⟨_, _, _, _, _, _, _, _, _, _, _, _, z⟩ => z.elim
def mPropR (c : Nat) (mf : MF) (i : Nat) : ME := fun ρ => match ρ[i]? with
  | some (some (.obj o n fs xs)) => if n = c then mCall (mfNoX mf) [.r i] ρ else .bad
  | _ => .bad
theorem ve_propR {C f : Addr} {q : Addr} {mn : Str} {i c k : Nat} {mf : MF} {fd : FuncData} {ps : List Str} (he : PE X o (tVar i)) (hcn : G.cn c = some C) (cl : Cls X.K C) (hp : PropOf X.K C mn q f) (F : FnOkG X.prog X.w X.K X.mg X.base (L2.CX X.prog X.w) k f fd ps (spV G 1 mf)) (hr : RoomG (k + 1) X.A) (hb : Binds X.K fd ps [])
    (hab : attributeBase o mn X.env (eval o X.env) = eval o X.env := by rfl) : VE G X E false true (.Attribute o mn pos) (mPropR c mf i) := by
  refine PE.pre (pe_propG (dvs := []) he cl hp F hr hb .nil (pass_none (Y := X.nox)) hab) fun σ H Q ⟨R, ρ, Os, rel, post⟩ => ?_
  unfold mPropR at post
  split at post
  · rename_i ow n fs xs hv
    by_cases hn : n = c
    · rw [if_pos hn] at post
      subst hn
      obtain ⟨x, hx, rep⟩ := rel.rep i _ hv
      obtain ⟨a, C', dx, fs', rfl, ea, hC, _⟩ := rep_obj rep
      rw [hcn] at hC
      cases hC
      obtain ⟨y, hy, q⟩ := call_of (as := [.r i]) (n := 1) trivial rfl rfl (σ := σ) ⟨R, ρ, Os, rel, post⟩
      rw [hx] at hy
      cases hy
      exact ⟨.ref a, hx, a, dx, fs', rfl, ea, sp_nox q⟩
    · rw [if_neg hn] at post; exact post.elim
  · exact post.elim
def mPropV (c : Nat) (mf : MF) (p : Bool) (m : ME) : ME := mCall (mfNoX mf) [.v ⟨p, true, mObjC c "" m⟩]
theorem ve_propV {C f : Addr} {q : Addr} {mn : Str} {c k : Nat} {mf : MF} {fd : FuncData} {ps : List Str} (he : VE G X E p true o m) (hcn : G.cn c = some C) (cl : Cls X.K C) (hp : PropOf X.K C mn q f) (F : FnOkG X.prog X.w X.K X.mg X.base (L2.CX X.prog X.w) k f fd ps (spV G 1 mf)) (hr : RoomG (k + 1) X.A) (hb : Binds X.K fd ps [])
    (hab : attributeBase o mn X.env (eval o X.env) = eval o X.env := by rfl) : VE G X E p true (.Attribute o mn pos) (mPropV c mf p m) := by
  refine PE.pre (pe_propG (dvs := []) he cl hp F hr hb .nil (pass_none (Y := X.nox)) hab) fun σ H Q h => ?_
  have h' : rd G E (argsP [.v ⟨p, true, mObjC c "" m⟩]) true (mCall (mfNoX mf) [.v ⟨p, true, mObjC c "" m⟩]) σ H Q := by simpa [argsP, mPropV] using h
  have q := call_of (E := E) (as := [.v ⟨p, true, mObjC c "" m⟩]) (n := 1) trivial rfl rfl (σ := σ) h'
  exact rd_mono (rd_obj hcn q) fun x H1 ⟨a, dx, fs, e1, e2, _, e4⟩ => ⟨a, dx, fs, e1, e2, by subst e1; exact sp_nox e4⟩

/-! ### attributes -/
def lookF (f : Str) : List Str → List Val → Option Val
  | n :: ns, v :: vs => if n = f then some v else lookF f ns vs
  | _, _ => none
def semFld (cs : List Nat) (f : Str) : List Val → Option Val
  | [.obj _ n fs xs] => if n ∈ cs then (match lookF f fs xs with
    | some v => if v.fz = true then some v else none
    | none => none) else none
  | _ => none
def FldF (G : Gam) (K : PySem.W.Frag) (cs : List Nat) (f : Str) : Prop := ∀ n ∈ cs, ∀ C, G.cn n = some C → Cls K C ∧ NoAttr K C f
theorem look_fld {W : Addr → Prop} {H : Hp} {f : Str} : ∀ {fs : List (Str × V)} {vs : List Val} {O : List Addr} {v : Val}, Reps G W H (fs.map (·.2)) vs O → lookF f (fs.map (·.1)) vs = some v → ∃ x O', fs.lookup f = some x ∧ Rep G W H x v O' ∧ ∀ a ∈ O', a ∈ O
  | [], vs, O, v, r, h => by cases r; simp [lookF] at h
  | (g, y) :: fs, vs, O, v, r, h => by
    cases r with
    | @cons _ w _ ws O1 O2 r t =>
      simp only [List.map_cons, lookF] at h
      by_cases e : g = f
      · rw [if_pos e] at h
        cases h
        subst e
        exact ⟨y, O1, by simp [List.lookup], r, fun a ha => List.mem_append_left _ ha⟩
      · rw [if_neg e] at h
        obtain ⟨x, O', e1, r', s'⟩ := look_fld t h
        refine ⟨x, O', ?_, r', fun a ha => List.mem_append_right _ (s' a ha)⟩
        show (match f == g with | true => some y | false => fs.lookup f) = some x
        rw [beq_false_of_ne fun z => e z.symm]
        exact e1
theorem rep_objR {W : Addr → Prop} {H : Hp} {x : V} {ow : Bool} {n : Nat} {ns : List Str} {vs : List Val} {O : List Addr} (r : Rep G W H x (.obj ow n ns vs) O) : ∃ a C dx fs O', x = .ref a ∧ H a = some (.ins C dx fs) ∧ G.cn n = some C ∧ ns = fs.map (·.1) ∧ Reps G W H (fs.map (·.2)) vs O' := by
  cases r with
  | objO h hc hn r => exact ⟨_, _, _, _, _, rfl, h, hc, hn, r⟩
  | objF h hc hn r => exact ⟨_, _, _, _, _, rfl, h.1, hc, hn, r⟩
theorem ve_fld {cs : List Nat} {f : Str} (F : FldF G X.K cs f) (he : VE G X E p s o m) (hb : attributeBase o f X.env (eval o X.env) = eval o X.env := by rfl) : VE G X E p true (.Attribute o f pos) (mFun (semFld cs f) [m]) := by
  have := ve_fun (G := G) (E := E) (os := [⟨p, s, m⟩]) (pe_fld (pos := pos) he hb) (r := fun xs H Q => match xs with
    | [x] => ∃ a C dx fs v, x = .ref a ∧ H a = some (.ins C dx fs) ∧ Cls X.K C ∧ NoAttr X.K C f ∧ fs.lookup f = some v ∧ Q v H
    | _ => False) (fun σ H Q z => z) (sem := semFld cs f) (fun W H xs vs Ol v Q w r hs mk => by
      unfold semFld at hs
      split at hs
      · obtain ⟨x, O, rfl, r1⟩ := r.inv1
        split at hs
        · rename_i hn
          split at hs
          · rename_i u hu
            split at hs
            · rename_i hf
              cases hs
              obtain ⟨a, C, dx, fs', O', rfl, ea, hC, rfl, q⟩ := rep_objR r1
              obtain ⟨c1, c2⟩ := F _ hn C hC
              obtain ⟨y, O2, e1, r2, _⟩ := look_fld q hu
              exact ⟨a, C, dx, fs', y, rfl, ea, c1, c2, e1, mk.same (r2.fz' hf)⟩
            · cases hs
          · cases hs
        · cases hs
      · cases hs) (by simp [wfA])
  simpa using this

/-! ### a def by its body -/
def outs : List Bool → VEnv → VEnv
  | [], _ => []
  | _ :: bs, [] => none :: outs bs []
  | b :: bs, v :: ρ => (if b = true then v else none) :: outs bs ρ
def mBody (bs : List Bool) (N : Nat) (m : MS) : MF := fun vs => match m (vs.map some ++ List.replicate (N - bs.length) none) with
  | .nx ρ => .ok .non (outs bs ρ)
  | .rt v ρ => .ok v (outs bs ρ)
  | .exc e ρ => .exc e (outs bs ρ)
  | _ => .bad
theorem outs_len : ∀ (bs : List Bool) (ρ : VEnv), (outs bs ρ).length = bs.length
  | [], _ => rfl
  | _ :: bs, [] => by simp [outs, outs_len bs]
  | _ :: bs, _ :: ρ => by simp [outs, outs_len bs]
theorem outs_get : ∀ {bs : List Bool} {ρ : VEnv} {i : Nat} {v : Val}, (outs bs ρ)[i]? = some (some v) → bs[i]? = some true ∧ ρ[i]? = some (some v)
  | [], ρ, i, v, h => by simp [outs] at h
  | b :: bs, [], i, v, h => by
    cases i with
    | zero => simp [outs] at h
    | succ i => have := outs_get (bs := bs) (ρ := []) (i := i) (by simpa [outs] using h); simp at this
  | b :: bs, u :: ρ, i, v, h => by
    cases i with
    | zero =>
      simp only [outs, List.getElem?_cons_zero, Option.some.injEq] at h
      cases b with
      | true => simp only [if_true] at h; simp [h]
      | false => simp at h
    | succ i => simpa using outs_get (bs := bs) (ρ := ρ) (i := i) (by simpa [outs] using h)
theorem get_outs : ∀ {bs : List Bool} {ρ : VEnv} {i : Nat} {v : Val}, bs[i]? = some true → ρ[i]? = some (some v) → (outs bs ρ)[i]? = some (some v)
  | [], ρ, i, v, h, _ => by simp at h
  | b :: bs, [], i, v, _, h => by simp at h
  | b :: bs, u :: ρ, i, v, h, h2 => by
    cases i with
    | zero => simp only [List.getElem?_cons_zero, Option.some.injEq] at h h2; simp [outs, h, h2]
    | succ i => simpa [outs] using get_outs (bs := bs) (ρ := ρ) (i := i) (by simpa using h) (by simpa using h2)
theorem rel_start {R : Addr → Prop} {H : Hp} {xs : List V} {vs : List Val} {Oa : Nat → List Addr} {N : List Str} (rel : Rel G R H (xs.map some) (vs.map some) Oa) : Rel G R H (start N xs) (vs.map some ++ List.replicate (N.length - vs.length) none) Oa := by
  have hl : xs.length = vs.length := by simpa using rel.len
  have key : ∀ (i : Nat) (v : Val), (vs.map some ++ List.replicate (N.length - vs.length) none)[i]? = some (some v) → (vs.map some)[i]? = some (some v) := fun i v h => by
    by_cases hi : i < vs.length
    · rwa [List.getElem?_append_left (by simpa using hi)] at h
    · rw [List.getElem?_append_right (by simpa using hi), List.getElem?_replicate] at h
      split at h <;> cases h
  refine ⟨by simp [L2.start, hl], fun i v hv => ?_, fun i hi => rel.nil i fun v hv => hi v ?_, rel.nd, rel.dj, rel.dr, rel.rt⟩
  · obtain ⟨x, e, r⟩ := rel.rep i v (key i v hv)
    have hi : i < (xs.map some).length := (List.getElem?_eq_some_iff.mp e).1
    exact ⟨x, by unfold L2.start; rw [List.getElem?_append_left hi]; exact e, r⟩
  · have hi : i < (vs.map some).length := (List.getElem?_eq_some_iff.mp hv).1
    rw [List.getElem?_append_left hi]; exact hv
/-- what is left of the names when the def ends -/
theorem rel_outs {R : Addr → Prop} {H : Hp} {bs : List Bool} {N : List Str} {xs : List V} {σ : L2.St} {ρ : VEnv} {Os : Nat → List Addr} (hl : xs.length = bs.length) (pin : PinB bs (start N xs) σ) (rel : Rel G R H σ ρ Os) :
    ∃ Os', Rel G R H (xs.map some) (outs bs ρ) Os' ∧ ∀ a, We Os' a → We Os a := by
  have sub : ∀ i a, a ∈ (if bs[i]? = some true then Os i else []) → bs[i]? = some true ∧ a ∈ Os i := fun i a h => by
    by_cases e : bs[i]? = some true
    · rw [if_pos e] at h; exact ⟨e, h⟩
    · rw [if_neg e] at h; cases h
  have we : ∀ a, We (fun i => if bs[i]? = some true then Os i else []) a → We Os a := fun a ⟨i, z⟩ => ⟨i, (sub i a z).2⟩
  refine ⟨fun i => if bs[i]? = some true then Os i else [], ⟨by simp [outs_len, hl], fun i v hv => ?_, fun i hi => ?_, fun i => ?_, fun i j a ha hb => rel.dj i j a (sub i a ha).2 (sub j a hb).2, fun i a ha => rel.dr i a (sub i a ha).2, rel.rt⟩, we⟩
  · obtain ⟨h1, h2⟩ := outs_get hv
    obtain ⟨x, e, r⟩ := rel.rep i v h2
    rw [pin i h1] at e
    have hi : i < (xs.map some).length := by
      have := (List.getElem?_eq_some_iff.mp h1).1
      simpa [hl] using this
    unfold L2.start at e
    rw [List.getElem?_append_left hi] at e
    refine ⟨x, e, ?_⟩
    show Rep G _ H x v (if bs[i]? = some true then Os i else [])
    rw [if_pos h1]
    exact r.weakW fun a z => z.imp id (we a)
  · show (if bs[i]? = some true then Os i else []) = []
    by_cases e : bs[i]? = some true
    · rw [if_pos e]
      exact rel.nil i fun v hv => hi v (get_outs e hv)
    · rw [if_neg e]
  · show (if bs[i]? = some true then Os i else []).Nodup
    by_cases e : bs[i]? = some true
    · rw [if_pos e]; exact rel.nd i
    · rw [if_neg e]; exact List.nodup_nil
/-- THE DEF -/
theorem body_of {Y : Cx} {E0 : XK} {bs : List Bool} {N ps : List Str} {m : MS} {body : List Stmt} {xs : List V} {H : Hp} {Q : VK} (hn : bs.length = ps.length) (hN : ps.length ≤ N.length) (hb : ∀ σ0, VSs G Y (fun c d _ H => E0 c d H) bs σ0 body m) (h : spV G ps.length (mBody bs N.length m) xs H Q E0) :
    ∃ t, PSs Y body t ∧ t { nx := fun _ H' => Q .non H', rt := Q } (start N xs) H := by
  obtain ⟨hl, R, vs, Oa, rel, post⟩ := h
  refine ⟨_, hb (start N xs), ?_⟩
  have hv : xs.length = vs.length := by simpa using rel.len
  have rs := rel_start (N := N) rel
  have hlb : xs.length = bs.length := by omega
  refine ⟨R, _, Oa, rs, fun _ _ => rfl, ?_⟩
  unfold mBody at post
  rw [show N.length - bs.length = N.length - vs.length by omega] at post
  have ret : ∀ {v : Val} {ρ' : VEnv}, Post G R (fun c d _ H => E0 c d H) (xs.map some) H Oa false true (vs.map some) Q (.ok v (outs bs ρ')) → ∀ x σ' H' Os' O, PinB bs (start N xs) σ' → Rel G (Rp R true O) H' σ' ρ' Os' → Rep G (WW (Rp R true O) Os') H' x v O → O.Nodup → KeepE H Oa H' Os' (fun a => true = true ∧ a ∈ O) → Q x H' := by
    intro v ρ' post x σ' H' Os' O pin rel' rep nd k
    obtain ⟨Os2, r2, w2⟩ := rel_outs hlb pin rel'
    exact post x H' Os2 O r2 (rep.weakW fun a z => z.imp id (w2 a)) (fun _ => nd) (fun a o e nw => let ⟨e1, n1, n2⟩ := k a o e nw; ⟨e1, fun z => n1 (w2 a z), n2⟩) fun z => by cases z
  cases hm : m (vs.map some ++ List.replicate (N.length - vs.length) none) with
  | bad => rw [hm] at post; exact post
  | bk ρ' => rw [hm] at post; exact post.elim
  | ct ρ' => rw [hm] at post; exact post.elim
  | nx ρ' =>
    rw [hm] at post
    intro σ' H' Os' pin rel' k
    exact ret post .non σ' H' Os' [] pin (rel'.weak fun a z => z.elim id fun z => nomatch z.2) .non List.nodup_nil (k.imp fun a z => nomatch z.2)
  | rt v ρ' => rw [hm] at post; exact ret post
  | exc e ρ' =>
    rw [hm] at post
    intro c d σ' H' Os' pin rel' rx k
    obtain ⟨Os2, r2, w2⟩ := rel_outs hlb pin rel'
    exact post c d H' Os2 r2 (rx.mono fun a o e nw => ⟨e, fun z => nw (z.imp id (w2 a))⟩) fun a o e nw => let ⟨e1, n1, n2⟩ := k a o e nw; ⟨e1, fun z => n1 (w2 a z), n2⟩
theorem fnv_of {P : Program} {w : World} {K : PySem.W.Frag} {mg : Str → Option Value} {base : Heap} {k : Nat} {f : Addr} {name qual : Str} {params : Arguments} {body : List Stmt} {scope : Scope} {dV kV doc pm cdv ct oc : Value} {an od : Option Addr}
    {osl : Array (Option Value)} {N ps : List Str} {bs : List Bool} {mb : MS} (lk : K.lookup f = some ⟨oc, od, .func (PySem.W.fnOf name qual params body scope dV kV doc pm an cdv ct), osl⟩) (hcd : PySem.W.codeIn K cdv qual = true) (S : FnScope N ps scope) (hn : bs.length = ps.length)
    (hbody : ∀ (A : Around) (outer : List Env) (s : Shared) (H : Hp) (E : XK), RoomG k (A.deeper (PyProof.Rows.envOfC qual scope s.heap.objs.size f cdv)) → ∀ σ0, VSs G (cxOf (L2.CX P w) P w K mg base N qual scope f cdv A outer s H E) (fun c d _ H => E c d H) bs σ0 body mb) :
    FnOkG P w K mg base (L2.CX P w) (k + 1) f (PySem.W.fnOf name qual params body scope dV kV doc pm an cdv ct) ps (spV G ps.length (mBody bs N.length mb)) := by
  refine fn_ofG lk hcd S (fun vs H Q E h => h.1) fun A outer s H vs Q E hr h => body_of hn ?_ (hbody A outer s H E hr) h
  have := congrArg List.length S.pre
  rw [List.length_take] at this
  omega
end
end VL
/-! VL, part O: list comprehensions; stores into what a name holds. -/
namespace VL
open PySem L2

def wipeV (ρ : VEnv) : List Nat → VEnv
  | [] => ρ
  | i :: is => (wipeV ρ is).set i none
theorem wipeV_len (ρ : VEnv) : ∀ is : List Nat, (wipeV ρ is).length = ρ.length
  | [] => rfl
  | i :: is => by unfold wipeV; rw [List.length_set, wipeV_len ρ is]
section
variable {G : Gam} {R : Addr → Prop} {H : Hp} {σ : L2.St} {ρ : VEnv} {Os : Nat → List Addr}
theorem Rel.drop1 (rel : Rel G R H σ ρ Os) (i : Nat) : Rel G R H (σ.set i none) (ρ.set i none) (fun j => if j = i then [] else Os j) := by
  have we : ∀ a, We (fun j => if j = i then [] else Os j) a → We Os a := fun a ⟨j, z⟩ => by
    by_cases hj : j = i
    · simp only [hj, if_true] at z; cases z
    · simp only [hj, if_false] at z; exact ⟨j, z⟩
  refine ⟨by rw [List.length_set, List.length_set]; exact rel.len, fun j v hv => ?_, fun j hj => ?_, fun j => ?_, fun j k a ha hb => ?_, fun j a ha => ?_, rel.rt⟩
  · by_cases h : j = i
    · subst h
      by_cases hi : j < ρ.length
      · rw [List.getElem?_set_self hi] at hv; cases hv
      · rw [List.getElem?_eq_none (by rw [List.length_set]; omega)] at hv; cases hv
    · rw [List.getElem?_set_ne (Ne.symm h)] at hv
      obtain ⟨x, e, r⟩ := rel.rep j v hv
      refine ⟨x, by rw [List.getElem?_set_ne (Ne.symm h)]; exact e, ?_⟩
      show Rep G _ H x v (if j = i then [] else Os j)
      rw [if_neg h]
      exact r.weakW fun a z => z.imp id (we a)
  · by_cases h : j = i
    · simp [h]
    · simp only [h, if_false]
      exact rel.nil j fun v hv => hj v (by rw [List.getElem?_set_ne (Ne.symm h)]; exact hv)
  · by_cases h : j = i
    · simp [h]
    · simp only [h, if_false]; exact rel.nd j
  · by_cases h : j = i
    · simp [h] at ha
    · by_cases h2 : k = i
      · simp [h2] at hb
      · simp only [h, h2, if_false] at ha hb; exact rel.dj j k a ha hb
  · by_cases h : j = i
    · simp [h] at ha
    · simp only [h, if_false] at ha; exact rel.dr j a ha
theorem Rel.wipe (rel : Rel G R H σ ρ Os) : ∀ is : List Nat, ∃ Os', Rel G R H (L2.wipe σ is) (wipeV ρ is) Os' ∧ ∀ a, We Os' a → We Os a
  | [] => ⟨Os, rel, fun _ z => z⟩
  | i :: is => by
    obtain ⟨Os', r, w⟩ := Rel.wipe rel is
    refine ⟨_, r.drop1 i, fun a ⟨j, z⟩ => ?_⟩
    by_cases hj : j = i
    · simp only [hj, if_true] at z; cases z
    · simp only [hj, if_false] at z; exact w a ⟨j, z⟩
/-- the names themselves stay -/
theorem Rel.unwipe {is : List Nat} (rel : Rel G R H (L2.wipe σ is) ρ Os) : Rel G R H σ ρ Os := by
  refine ⟨by rw [← rel.len, wipe_length], fun i v hv => ?_, rel.nil, rel.nd, rel.dj, rel.dr, rel.rt⟩
  obtain ⟨x, e, r⟩ := rel.rep i v hv
  exact ⟨x, (wipe_some e).1, r⟩
end
def pinsBut (n : Nat) (own : List Nat) : List Bool := (List.range n).map fun j => !own.contains j
theorem wipe_get {σ : L2.St} {j : Nat} : ∀ {is : List Nat}, j ∉ is → (L2.wipe σ is)[j]? = σ[j]?
  | [], _ => rfl
  | i :: is, h => by
    unfold L2.wipe
    rw [List.getElem?_set_ne (fun e => h (by simp [e])), wipe_get fun z => h (List.mem_cons_of_mem _ z)]
theorem wipe_none {σ : L2.St} {j : Nat} : ∀ {is : List Nat}, j ∈ is → j < σ.length → (L2.wipe σ is)[j]? = some none
  | [], h, _ => by cases h
  | i :: is, h, hl => by
    unfold L2.wipe
    by_cases e : i = j
    · subst e
      exact List.getElem?_set_self (by rw [wipe_length]; exact hl)
    · rw [List.getElem?_set_ne e]
      exact wipe_none ((List.mem_cons.mp h).resolve_left fun z => e z.symm) hl
theorem wipe_eq {σ σ2 : L2.St} {own : List Nat} {n : Nat} (hn : σ.length = n) (hl : σ2.length = σ.length) (pin : PinB (pinsBut n own) (L2.wipe σ own) σ2) : L2.wipe σ2 own = L2.wipe σ own := by
  apply List.ext_getElem?
  intro j
  by_cases hj : j < σ.length
  · by_cases ho : j ∈ own
    · rw [wipe_none ho (by rw [hl]; exact hj), wipe_none ho hj]
    · rw [wipe_get ho]
      have h1 : (pinsBut n own)[j]? = some true := by
        unfold pinsBut
        rw [List.getElem?_map, List.getElem?_range (by omega)]
        simp [ho]
      rw [pin j h1]
  · rw [List.getElem?_eq_none (by rw [wipe_length, hl]; omega), List.getElem?_eq_none (by rw [wipe_length]; omega)]

def lcL (g : MG) (tt me : ME) (own : List Nat) : List Val → List Val → VEnv → RE
  | [], acc, ρ => .ok (.lst true acc) ρ
  | u :: us, acc, ρ => match g u ρ with
    | none => .bad
    | some ρ1 => match tt ρ1 with
      | .ok (.bl b) ρ2 => if b = true then (match me ρ2 with
        | .ok v ρ3 => if acc.length < 16777216 then lcL g tt me own us (acc ++ [v]) (wipeV ρ3 own) else .bad
        | _ => .bad) else lcL g tt me own us acc (wipeV ρ2 own)
      | _ => .bad
def mLc (mi : MI) (g : MG) (tt me : ME) (own : List Nat) : ME := fun ρ => match mi ρ with
  | .ok us ρ1 => lcL g tt me own us [] (wipeV ρ1 own)
  | .exc e ρ' => .exc e ρ'
  | .bad => .bad
def mYes : ME := fun ρ => .ok (.bl true) ρ
abbrev WF : WX := fun _ _ _ _ => False
def VTs (G : Gam) (X : Cx) (ifs : List Expr) (m : ME) : Prop := ∃ p, PTs X ifs (tT G WF p m)
theorem PTs.pre {X : Cx} {ifs : List Expr} {t t' : TT} (h : PTs X ifs t) (k : ∀ σ H Q, t' σ H Q → t σ H Q) : PTs X ifs t' := ⟨fun pins s σ H Q I q => h.run pins s σ H Q I (k σ H Q q)⟩
section
variable {G : Gam} {X : Cx} {E : WX} {p s : Bool} {m : ME} {pos : Pos}
theorem vts_nil : VTs G X [] mYes := ⟨true, PTs.pre pts_nil fun σ H Q ⟨R, ρ, Os, rel, post⟩ => post H Os rel KeepE.refl fun _ => ⟨rfl, rfl, fun _ _ e => e⟩⟩
theorem vts_one {c : Expr} (h : VT G X WF p c m) : VTs G X [c] m := ⟨p, pts_one h⟩

/-- what others hold is changed -/
theorem Rel.chg {R : Addr → Prop} {H : Hp} {σ : L2.St} {ρ : VEnv} {Os : Nat → List Addr} {D : Addr} {o : HO} (rel : Rel G R H σ ρ Os) (hD : R D) : Rel G R (upd H D o) σ ρ Os := by
  refine ⟨rel.len, fun i v hv => ?_, rel.nil, rel.nd, rel.dj, rel.dr, fun a z => ?_⟩
  · obtain ⟨x, e, r⟩ := rel.rep i v hv
    refine ⟨x, e, r.mono (fun a o e nw => ⟨(upd_ne (show a ≠ D from fun z => nw (.inl (by rw [z]; exact hD)))).trans e, nw⟩) fun a ha o e => (upd_ne (show a ≠ D from fun z => rel.dr i a ha (by rw [z]; exact hD))).trans e⟩
  · by_cases h : a = D
    · subst h; exact ⟨_, upd_same⟩
    · rw [upd_ne h]; exact rel.rt a z
/-- what the comprehension's reading asks -/
theorem lc_reading {tg iter elt : Expr} {ow : List Nat} {n : Nat} {wi : TI} {sb : Bool} {mi : MI} {g : MG} {tt me : ME} {σ : L2.St} {H : Hp} {Q : VK} (hwi : wi = tI G E mi) (hlen : σ.length = n) (h : rd G E false true (mLc mi g tt me ow) σ H Q) :
    tLc wi (fun x σ H Q => ∃ σ0, tG G (pinsBut n ow) σ0 g x σ H Q) (tT G WF p tt) (rd G WF sb true me) ow σ H Q := by
  subst hwi
  obtain ⟨R, ρ, Os, rel, post⟩ := h
  refine ⟨R, ρ, Os, rel, ?_⟩
  unfold mLc at post
  cases hm : mi ρ with
  | bad => rw [hm] at post; exact post
  | exc e ρ' => rw [hm] at post; exact post
  | ok us ρ1 =>
    rw [hm] at post
    dsimp only at post
    intro J H1 Os1 rel1 walk keep1 D hD
    obtain ⟨Osw, relw, wew⟩ := rel1.wipe ow
    refine ⟨fun i n H' => n = us.length - i ∧ i ≤ us.length ∧ ∃ ρ2 Os2 acc xs O, Rel G (fun a => R a ∨ a ∈ D :: O) H' (L2.wipe σ ow) ρ2 Os2 ∧ H' D = some (.lst xs) ∧ Reps G (WW (fun a => R a ∨ a ∈ D :: O) Os2) H' xs acc O ∧ (D :: O).Nodup ∧ KeepE H1 Os1 H' Os2 (fun a => a ∈ D :: O) ∧
      Post G R E σ H Os false true ρ Q (lcL g tt me ow (us.drop i) acc ρ2), ⟨us.length, by simp, Nat.zero_le _, wipeV ρ1 ow, Osw, [], [], [], ?_, upd_same, .nil, by simp, fun a o e nw => ?_, by simpa using post⟩, ?_⟩
    · exact relw.grow (same_upd hD) (fun a z => z.imp id fun z => by rw [List.mem_singleton.mp z]; exact hD) fun a z => by
        rcases z with z | z
        · obtain ⟨o, e⟩ := relw.rt a z
          exact ⟨o, same_upd hD a o e⟩
        · rw [List.mem_singleton.mp z]; exact ⟨_, upd_same⟩
    · exact ⟨same_upd hD a o e, fun z => nw (wew a z), fun z => by rw [List.mem_singleton.mp z, hD] at e; cases e⟩
    · rintro i n H' ⟨rfl, hile, ρ2, Os2, acc, xs, O, rel2, hDx, reps, nd, keep2, post2⟩
      have kw : Keep (WW R Os1) H1 (WW (fun a => R a ∨ a ∈ D :: O) Os2) H' := fun a o e nw => by
        obtain ⟨e1, n1, n2⟩ := keep2 a o e fun z => nw (.inr z)
        refine ⟨e1, fun z => ?_⟩
        rcases z with (z | z) | z
        · exact nw (.inl z)
        · exact n2 z
        · exact n1 z
      obtain ⟨hstop, hgo⟩ := walk _ _ kw i
      by_cases hlt : i < us.length
      rotate_left
      · refine .inl ⟨hstop (by omega), ?_⟩
        rw [List.drop_eq_nil_of_le (by omega)] at post2
        unfold lcL at post2
        have e0 : (fun a => R a ∨ a ∈ D :: O) = Rp R true (D :: O) := setEq fun a => ⟨fun z => z.imp id fun z => ⟨rfl, z⟩, fun z => z.imp id fun z => z.2⟩
        rw [e0] at rel2 reps
        refine post2 (.ref D) H' Os2 (D :: O) rel2.unwipe (.lstO hDx reps) (fun _ => nd) (fun a o e nw => ?_) fun z => by cases z
        obtain ⟨e1, n1, _⟩ := keep1 a o e nw
        obtain ⟨e2, n2, n3⟩ := keep2 a o e1 n1
        exact ⟨e2, n2, fun z => n3 z.2⟩
      refine .inr ?_
      obtain ⟨go, yld⟩ := hgo us[i] (List.getElem?_eq_getElem hlt)
      refine ⟨go, fun H3 => i + 1 ≤ us.length ∧ ∃ ρ2 Os2 acc xs O, Rel G (fun a => R a ∨ a ∈ D :: O) H3 (L2.wipe σ ow) ρ2 Os2 ∧ H3 D = some (.lst xs) ∧ Reps G (WW (fun a => R a ∨ a ∈ D :: O) Os2) H3 xs acc O ∧ (D :: O).Nodup ∧ KeepE H1 Os1 H3 Os2 (fun a => a ∈ D :: O) ∧
        Post G R E σ H Os false true ρ Q (lcL g tt me ow (us.drop (i + 1)) acc ρ2), fun H3 ⟨h1, h2⟩ => ⟨us.length - (i + 1), by omega, rfl, h1, h2⟩, fun x H'' y => ?_⟩
      obtain ⟨same, repw⟩ := yld x H'' y
      have rep := repw fun p hp => rel2.ww hp
      have rel3 : Rel G (fun a => R a ∨ a ∈ D :: O) H'' (L2.wipe σ ow) ρ2 Os2 := rel2.grow same (fun a z => .inl z) fun a z => let ⟨o, e⟩ := rel2.rt a z; ⟨o, same a o e⟩
      have keep3 : KeepE H1 Os1 H'' Os2 fun a => a ∈ D :: O := keep2.grow same fun a z => .inl z
      have hD3 := same D _ hDx
      have reps3 : Reps G (WW (fun a => R a ∨ a ∈ D :: O) Os2) H'' xs acc O := reps.mono (fun a o e nw => ⟨same a o e, nw⟩) fun a _ o e => same a o e
      rw [List.drop_eq_getElem_cons hlt] at post2
      unfold lcL at post2
      have e0 : (fun a => R a ∨ a ∈ D :: O) = fun a => (R a ∨ a ∈ D :: O) ∨ a ∈ ([] : List Addr) := setEq fun a => ⟨.inl, fun z => z.elim id fun z => nomatch z⟩
      refine ⟨L2.wipe σ ow, fun a => R a ∨ a ∈ D :: O, ρ2, Os2, us[i], [], e0 ▸ rel3, e0 ▸ rep, List.nodup_nil, fun a z => (nomatch z), fun _ _ => rfl, ?_⟩
      cases hgu : g us[i] ρ2 with
      | none => rw [hgu] at post2; exact post2
      | some ρ3 =>
        rw [hgu] at post2
        dsimp only at post2
        intro σ3 Os3 pin3 hl3 rel4 we4
        have hw : L2.wipe σ3 ow = L2.wipe σ ow := wipe_eq hlen (by rw [hl3, wipe_length]) pin3
        have keep4 : KeepE H1 Os1 H'' Os3 fun a => a ∈ D :: O := fun a o e nw => let ⟨e1, n1, n2⟩ := keep3 a o e nw; ⟨e1, fun z => (we4 a z).elim n1 (fun z => nomatch z), n2⟩
        have reps4 : Reps G (WW (fun a => R a ∨ a ∈ D :: O) Os3) H'' xs acc O := reps3.weakW fun a z => z.imp id fun z => (we4 a z).elim id fun z => nomatch z
        refine ⟨hw, fun a => R a ∨ a ∈ D :: O, ρ3, Os3, rel4, ?_⟩
        /- what a step within the block leaves -/
        have step : ∀ {H5 : Hp} {Os5 : Nat → List Addr} {ρ5 : VEnv} {Oy : List Addr}, Rel G (fun a => (R a ∨ a ∈ D :: O) ∨ a ∈ Oy) H5 σ3 ρ5 Os5 → KeepE H'' Os3 H5 Os5 (fun a => a ∈ Oy) → H5 D = some (.lst xs) ∧ Reps G (WW (fun a => (R a ∨ a ∈ D :: O) ∨ a ∈ Oy) Os5) H5 xs acc O ∧ KeepE H1 Os1 H5 Os5 (fun a => a ∈ D :: O ∨ a ∈ Oy) ∧ (∀ a ∈ D :: O, a ∉ Oy) := by
          intro H5 Os5 ρ5 Oy rel5 k5
          have fix : ∀ a ∈ D :: O, ∀ o, H'' a = some o → H5 a = some o ∧ a ∉ Oy := fun a ha o e => let ⟨e1, _, n2⟩ := k5 a o e (rel4.nr (.inr ha)); ⟨e1, n2⟩
          refine ⟨(fix D List.mem_cons_self _ hD3).1, reps4.mono (fun a o e nw => ?_) (fun a ha o e => (fix a (List.mem_cons_of_mem _ ha) o e).1), fun a o e nw => ?_, fun a ha => ?_⟩
          · obtain ⟨e1, n1, n2⟩ := k5 a o e fun z => nw (.inr z)
            refine ⟨e1, fun z => ?_⟩
            rcases z with (z | z) | z
            · exact nw (.inl z)
            · exact n2 z
            · exact n1 z
          · obtain ⟨e1, n1, n2⟩ := keep4 a o e nw
            obtain ⟨e2, n3, n4⟩ := k5 a o e1 n1
            exact ⟨e2, n3, fun z => z.elim n2 n4⟩
          · obtain ⟨o, e⟩ := rel4.rt a (.inr ha)
            exact (fix a ha o e).2
        cases htt : tt ρ3 with
        | bad => rw [htt] at post2; exact post2.elim
        | exc e ρ4 => rw [htt] at post2; exact post2.elim
        | ok tv ρ4 =>
          rw [htt] at post2
          cases tv with
          | bl b =>
            intro H5 Os5 rel5 k5 _
            have r5 : Rel G (fun a => (R a ∨ a ∈ D :: O) ∨ a ∈ ([] : List Addr)) H5 σ3 ρ4 Os5 := e0 ▸ rel5
            obtain ⟨hD5, reps5, keep5, _⟩ := step r5 (k5.imp fun a z => nomatch z)
            rw [← e0] at reps5
            cases b with
            | false =>
              simp only [Bool.false_eq_true, if_false] at post2 ⊢
              obtain ⟨Os6, rel6, we6⟩ := rel5.wipe ow
              rw [hw] at rel6
              exact ⟨hlt, wipeV ρ4 ow, Os6, acc, xs, O, rel6, hD5, reps5.weakW fun a z => z.imp id (we6 a), nd, fun a o e nw => let ⟨e1, n1, n2⟩ := keep5 a o e nw; ⟨e1, fun z => n1 (we6 a z), fun z => n2 (.inl z)⟩, post2⟩
            | true =>
              simp only [if_true] at post2 ⊢
              refine ⟨fun a => R a ∨ a ∈ D :: O, ρ4, Os5, rel5, ?_⟩
              cases hme : me ρ4 with
              | bad => rw [hme] at post2; exact post2.elim
              | exc e ρ6 => rw [hme] at post2; exact post2.elim
              | ok v ρ6 =>
                rw [hme] at post2
                dsimp only at post2
                intro yv H6 Os6 Oy rel6 rep6 nd6 k6 _
                by_cases hacc : acc.length < 16777216
                rotate_left
                · rw [if_neg hacc] at post2; exact post2.elim
                rw [if_pos hacc] at post2
                have e1 : Rp (fun a => R a ∨ a ∈ D :: O) true Oy = fun a => (R a ∨ a ∈ D :: O) ∨ a ∈ Oy := setEq fun a => ⟨fun z => z.imp id fun z => z.2, fun z => z.imp id fun z => ⟨rfl, z⟩⟩
                rw [e1] at rel6 rep6
                have k56 : KeepE H'' Os3 H6 Os6 fun a => a ∈ Oy := fun a o e nw => by
                  obtain ⟨e2, n2, _⟩ := k5 a o e nw
                  obtain ⟨e3, n3, n4⟩ := k6 a o e2 n2
                  exact ⟨e3, n3, fun z => n4 ⟨rfl, z⟩⟩
                obtain ⟨hD6, reps6, keep6, dis⟩ := step rel6 k56
                have hxl : xs.length = acc.length := reps6.length
                refine ⟨xs, hD6, by rw [hxl]; exact (sizeLine_eq ▸ hacc), hlt, ?_⟩
                have e2 : (fun a => (R a ∨ a ∈ D :: O) ∨ a ∈ Oy) = fun a => R a ∨ a ∈ D :: (O ++ Oy) := setEq fun a => by
                  rw [List.mem_cons, List.mem_cons, List.mem_append]
                  constructor
                  · rintro ((z | z | z) | z)
                    · exact .inl z
                    · exact .inr (.inl z)
                    · exact .inr (.inr (.inl z))
                    · exact .inr (.inr (.inr z))
                  · rintro (z | z | z | z)
                    · exact .inl (.inl z)
                    · exact .inl (.inr (.inl z))
                    · exact .inl (.inr (.inr z))
                    · exact .inr z
                rw [e2] at rel6 rep6 reps6
                have rel7 := Rel.chg (D := D) (o := .lst (xs ++ [yv])) rel6 (.inr List.mem_cons_self)
                obtain ⟨Os8, rel8, we8⟩ := rel7.wipe ow
                rw [hw] at rel8
                obtain ⟨nd1, nd2⟩ := List.nodup_cons.mp nd
                have dOy : D ∉ Oy := dis D List.mem_cons_self
                have all : Reps G (WW (fun a => R a ∨ a ∈ D :: (O ++ Oy)) Os6) H6 (xs ++ [yv]) (acc ++ [v]) (O ++ (Oy ++ [])) := reps6.append (.cons rep6 .nil)
                rw [List.append_nil] at all
                have all2 : Reps G (WW (fun a => R a ∨ a ∈ D :: (O ++ Oy)) Os6) (upd H6 D (.lst (xs ++ [yv]))) (xs ++ [yv]) (acc ++ [v]) (O ++ Oy) := all.mono (fun a o e nw => ⟨by rw [upd_ne fun z => nw (.inl (.inr (by rw [z]; exact List.mem_cons_self)))]; exact e, nw⟩) fun a ha o e => by
                  rw [upd_ne fun z => ?_]; exact e
                  subst z
                  exact (List.mem_append.mp ha).elim nd1 dOy
                refine ⟨wipeV ρ6 ow, Os8, acc ++ [v], xs ++ [yv], O ++ Oy, rel8, upd_same, all2.weakW fun a z => z.imp id (we8 a), ?_, fun a o e nw => ?_, post2⟩
                · refine List.nodup_cons.mpr ⟨fun z => (List.mem_append.mp z).elim nd1 dOy, List.nodup_append.mpr ⟨nd2, nd6 rfl, fun a ha b hb e => dis a (List.mem_cons_of_mem _ ha) (e ▸ hb)⟩⟩
                · obtain ⟨e3, n3, n4⟩ := keep6 a o e nw
                  refine ⟨by rw [upd_ne fun z => n4 (.inl (by rw [z]; exact List.mem_cons_self))]; exact e3, fun z => n3 (we8 a z), fun z => n4 ?_⟩
                  rcases List.mem_cons.mp z with z | z
                  · exact .inl (by rw [z]; exact List.mem_cons_self)
                  · exact (List.mem_append.mp z).imp (List.mem_cons_of_mem _) id
          | _ => exact post2.elim
/-- [elt for target in iter if ..] -/
theorem ve_lc {sb : Bool} {elt tg iter : Expr} {ifs : List Expr} {scope : Scope} {own : List (Str × Nat)} {mi : MI} {g : MG} {tt me : ME} (hc : X.calm = true) (hN : X.N.Nodup) (hi : VI G X E tg iter mi) (ok : BlkOk X.N X.env.scope scope own)
    (hg : ∀ (s : Shared) (H : Hp) (C : Addr) (cl : List (Str × Addr)) (fp : List Addr) (σ0 : L2.St), VG G (X.blk s H scope (compEnvC scope cl C X.env) fp) (pinsBut X.N.length (own.map (·.2))) σ0 tg g)
    (ht : ∀ (s : Shared) (H : Hp) (C : Addr) (cl : List (Str × Addr)) (fp : List Addr), PTs (X.blk s H scope (compEnvC scope cl C X.env) fp) ifs (tT G WF p tt))
    (he : ∀ (s : Shared) (H : Hp) (C : Addr) (cl : List (Str × Addr)) (fp : List Addr), VE G (X.blk s H scope (compEnvC scope cl C X.env) fp) WF sb true elt me) (hs : ∀ x, foldedSetIterable iter X.env x = pure x := by intro _; rfl) :
    VE G X E false true (.ListComp elt [⟨tg, iter, ifs, 0⟩] scope pos) (mLc mi g tt me (own.map (·.2))) := by
  have hg2 : ∀ (s : Shared) (H : Hp) (C : Addr) (cl : List (Str × Addr)) (fp : List Addr), PG (X.blk s H scope (compEnvC scope cl C X.env) fp) tg (fun x σ H Q => ∃ σ0, tG G (pinsBut X.N.length (own.map (·.2))) σ0 g x σ H Q) := fun s H C cl fp =>
    ⟨fun pins st σ H' v u Q I r ⟨σ0, q⟩ => (hg s H C cl fp σ0).run pins st σ H' v u Q I r q⟩
  exact ⟨fun pins s1 σ H Q I h => (pe_lc hc hN hi ok hg2 ht he hs).run pins s1 σ H Q I (lc_reading (tg := tg) (iter := iter) (elt := elt) rfl I.len h)⟩
/-- name = [elt for target in iter if ..] -/
theorem vs_setLc {sb : Bool} {bs : List Bool} {σ0' : L2.St} {i : Nat} {y : Str} {py spos : Pos} {elt tg iter : Expr} {ifs : List Expr} {scope : Scope} {own : List (Str × Nat)} {mi : MI} {g : MG} {tt me m2 : ME} (hm2 : ∀ σ H Q, rd G E false true m2 σ H Q → rd G E false true (mLc mi g tt me (own.map (·.2))) σ H Q) (hc : X.calm = true) (hN : X.N.Nodup) (hy : X.N[i]? = some y) (hyl : X.env.scope.names.lookup y = some .local)
    (hsw : swapsWith (.ListComp elt [⟨tg, iter, ifs, 0⟩] scope pos) (some (.Name y py)) spos.line X.env = pure true)
    (hi : VI G X E tg iter mi) (ok : BlkOk X.N X.env.scope scope own)
    (hg : ∀ (s : Shared) (H : Hp) (C : Addr) (cl : List (Str × Addr)) (fp : List Addr) (σ0 : L2.St), VG G (X.blk s H scope (compEnvC scope cl C X.env) fp) (pinsBut X.N.length (own.map (·.2))) σ0 tg g)
    (ht : ∀ (s : Shared) (H : Hp) (C : Addr) (cl : List (Str × Addr)) (fp : List Addr), PTs (X.blk s H scope (compEnvC scope cl C X.env) fp) ifs (tT G WF p tt))
    (he : ∀ (s : Shared) (H : Hp) (C : Addr) (cl : List (Str × Addr)) (fp : List Addr), VE G (X.blk s H scope (compEnvC scope cl C X.env) fp) WF sb true elt me) (hb : bs[i]? ≠ some true := by decide) (hs : ∀ x, foldedSetIterable iter X.env x = pure x := by intro _; rfl) :
    VS G X E bs σ0' (.Assign [.Name y py] (.ListComp elt [⟨tg, iter, ifs, 0⟩] scope pos) spos) (mSet i m2) := by
  have hg2 : ∀ (s : Shared) (H : Hp) (C : Addr) (cl : List (Str × Addr)) (fp : List Addr), PG (X.blk s H scope (compEnvC scope cl C X.env) fp) tg (fun x σ H Q => ∃ σ0, tG G (pinsBut X.N.length (own.map (·.2))) σ0 g x σ H Q) := fun s H C cl fp =>
    ⟨fun pins st σ H' v u Q I r ⟨σ0, q⟩ => (hg s H C cl fp σ0).run pins st σ H' v u Q I r q⟩
  refine ⟨fun pins s1 σ H D I h => (ps_setLc hc hN hy hyl hsw hi ok hg2 ht he hs).run pins s1 σ H D I (lc_reading (tg := tg) (iter := iter) (elt := elt) rfl I.len (hm2 σ H _ ?_))⟩
  obtain ⟨R, ρ, Os, rel, pin, post⟩ := h
  refine ⟨R, ρ, Os, rel, ?_⟩
  refine PostS.post (s := true) (f := fun v ρ' => if i < ρ'.length then .nx (ρ'.set i (some v)) else .bad) pin post fun v ρ' x H' Os' O _ post rel' rep nd k => ?_
  by_cases hi' : i < ρ'.length
  · rw [if_pos hi'] at post
    obtain ⟨Os2, r2, k2⟩ := set_of (D := D) (.inr trivial) rel.hr rel' rep (nd rfl) k hi'
    exact post _ _ Os2 (pin.set hb) r2 k2
  · rw [if_neg hi'] at post
    exact post.elim
theorem rd_fz {m : ME} : ∀ σ H Q, rd G E false true (mFz m) σ H Q → rd G E false true m σ H Q := fun σ H Q ⟨R, ρ, Os, rel, post⟩ => ⟨R, ρ, Os, rel, post.fz rel.hr⟩
theorem rd_id {m : ME} : ∀ σ H Q, rd G E false true m σ H Q → rd G E false true m σ H Q := fun _ _ _ h => h
end
end VL
/-! VL, part P: stores into what a name holds: x.f = v, x[i] = v, x.append(v). -/
namespace VL
open PySem L2

section
variable {G : Gam} {X : Cx} {E : WX} {bs : List Bool} {σ0 : L2.St} {p s : Bool} {m : ME} {pos pos' apos : Pos}
/-- the object at the root of what a name holds is written anew -/
theorem Rel.root {R : Addr → Prop} {H : Hp} {σ : L2.St} {ρ : VEnv} {Os : Nat → List Addr} {O P P' : List Addr} {i : Nat} {v w : Val} {a : Addr} {ob ob' : HO} (rel : Rel G (fun a => R a ∨ a ∈ O) H σ ρ Os) (nO : ∀ a ∈ O, ¬ R a) (hv : ρ[i]? = some (some v)) (hx : σ[i]? = some (some (.ref a))) (hO : Os i = a :: P)
    (ha : H a = some ob) (hP : ∀ b ∈ P', b ∈ P ∨ b ∈ O) (nd : P'.Nodup)
    (mk : (∀ z u Oz, (∀ b ∈ Oz, b ∈ P ∨ b ∈ O) → Rep G (WW (fun a => R a ∨ a ∈ O) Os) H z u Oz → Rep G (WW R (fun j => if j = i then a :: P' else Os j)) (upd H a ob') z u Oz) → upd H a ob' a = some ob' → Rep G (WW R (fun j => if j = i then a :: P' else Os j)) (upd H a ob') (.ref a) w (a :: P')) :
    Rel G R (upd H a ob') σ (ρ.set i (some w)) (fun j => if j = i then a :: P' else Os j) ∧ ∀ b o, H b = some o → ¬ We Os b → ¬ b ∈ O → upd H a ob' b = some o ∧ ¬ We (fun j => if j = i then a :: P' else Os j) b := by
  have ain : a ∈ Os i := by rw [hO]; exact List.mem_cons_self
  have hnd := rel.nd i
  rw [hO] at hnd
  obtain ⟨nd1, nd2⟩ := List.nodup_cons.mp hnd
  have aO : a ∉ O := fun z => rel.dr i a ain (.inr z)
  have ne : ∀ b, b ∈ P ∨ b ∈ O → b ≠ a := fun b h e => h.elim (fun z => nd1 (e ▸ z)) fun z => aO (e ▸ z)
  have old : ∀ b ∈ a :: P', b ∈ Os i ∨ b ∈ O := fun b h => by
    rcases List.mem_cons.mp h with z | z
    · exact .inl (z ▸ ain)
    · exact (hP b z).imp (fun z => by rw [hO]; exact List.mem_cons_of_mem _ z) id
  have we : ∀ b, We (fun j => if j = i then a :: P' else Os j) b → We Os b ∨ b ∈ O := fun b ⟨j, z⟩ => by
    by_cases hj : j = i
    · simp only [hj, if_true] at z; exact (old b z).imp (fun z => ⟨i, z⟩) id
    · simp only [hj, if_false] at z; exact .inl ⟨j, z⟩
  have kp : Keep (WW (fun a => R a ∨ a ∈ O) Os) H (WW R (fun j => if j = i then a :: P' else Os j)) (upd H a ob') := fun b o e nw => by
    refine ⟨(upd_ne (show b ≠ a from fun z => nw (.inr ⟨i, by rw [z]; exact ain⟩))).trans e, fun z => ?_⟩
    rcases z with z | z
    · exact nw (.inl (.inl z))
    · exact (we b z).elim (fun z => nw (.inr z)) fun z => nw (.inl (.inr z))
  have hi : i < ρ.length := (List.getElem?_eq_some_iff.mp hv).1
  refine ⟨⟨by rw [List.length_set]; exact rel.len, fun j u hu => ?_, fun j hj => ?_, fun j => ?_, fun j k b hb hb' => ?_, fun j b hb z => ?_, fun b z => ?_⟩, fun b o e nw nO => ⟨(upd_ne (show b ≠ a from fun z => nw ⟨i, by rw [z]; exact ain⟩)).trans e, fun z => (we b z).elim nw nO⟩⟩
  · by_cases h : j = i
    · subst h
      rw [List.getElem?_set_self hi] at hu
      cases hu
      refine ⟨.ref a, hx, ?_⟩
      show Rep G _ _ _ _ (if j = j then a :: P' else Os j)
      rw [if_pos rfl]
      exact mk (fun z u Oz hz r => r.mono kp fun b hb o e => by rw [upd_ne (ne b (hz b hb))]; exact e) upd_same
    · rw [List.getElem?_set_ne (Ne.symm h)] at hu
      obtain ⟨x, e, r⟩ := rel.rep j u hu
      refine ⟨x, e, ?_⟩
      show Rep G _ _ _ _ (if j = i then a :: P' else Os j)
      rw [if_neg h]
      exact r.mono kp fun b hb o e => (upd_ne (show b ≠ a from fun z => h (rel.dj j i a (by rw [← z]; exact hb) ain))).trans e
  · by_cases h : j = i
    · subst h; exact absurd (List.getElem?_set_self hi) (hj w)
    · simp only [h, if_false]
      exact rel.nil j fun u hu => hj u (by rw [List.getElem?_set_ne (Ne.symm h)]; exact hu)
  · by_cases h : j = i
    · simp only [h, if_true]
      exact List.nodup_cons.mpr ⟨fun z => ne a (hP a z) rfl, nd⟩
    · simp only [h, if_false]; exact rel.nd j
  · by_cases h : j = i <;> by_cases h' : k = i
    · rw [h, h']
    · simp only [h, h', if_true, if_false] at hb hb'
      exact (old b hb).elim (fun z => absurd (rel.dj k i b hb' z) h') fun z => absurd (.inr z) (rel.dr k b hb')
    · simp only [h, h', if_true, if_false] at hb hb'
      exact (old b hb').elim (fun z => absurd (rel.dj j i b hb z) h) fun z => absurd (.inr z) (rel.dr j b hb)
    · simp only [h, h', if_false] at hb hb'; exact rel.dj j k b hb hb'
  · by_cases h : j = i
    · simp only [h, if_true] at hb
      exact (old b hb).elim (fun q => rel.dr i b q (.inl z)) fun q => nO b q z
    · simp only [h, if_false] at hb; exact rel.dr j b hb (.inl z)
  · by_cases h : b = a
    · subst h; exact ⟨_, upd_same⟩
    · rw [upd_ne h]; exact rel.rt b (.inl z)

/-! ### x.f = value -/
def putFn (f : Str) (ns : List Str) : List Str := if f ∈ ns then ns else ns ++ [f]
def putFv (f : Str) (v : Val) : List Str → List Val → List Val
  | n :: ns, x :: xs => if n = f then v :: xs else x :: putFv f v ns xs
  | _, _ => [v]
theorem putFn_map {f : Str} {y : V} : ∀ fs : List (Str × V), (putF f y fs).map (·.1) = putFn f (fs.map (·.1))
  | [] => by simp [putF, putFn]
  | (g, x) :: r => by
    have ih := putFn_map (f := f) (y := y) r
    unfold putF
    by_cases h : g = f
    · rw [if_pos h]; simp [putFn, h]
    · rw [if_neg h]
      simp only [List.map_cons, ih]
      unfold putFn
      by_cases h2 : f ∈ r.map (·.1)
      · rw [if_pos h2, if_pos (List.mem_cons_of_mem _ h2)]
      · rw [if_neg h2, if_neg (fun z => (List.mem_cons.mp z).elim (fun z => h z.symm) h2)]
        rfl
theorem reps_putF {W W' : Addr → Prop} {H H' : Hp} {P0 O : List Addr} {f : Str} {y : V} {v : Val} (tr : ∀ z u Oz, (∀ b ∈ Oz, b ∈ P0 ∨ b ∈ O) → Rep G W H z u Oz → Rep G W' H' z u Oz) (ry : Rep G W H y v O) (ndO : O.Nodup) :
    ∀ {fs : List (Str × V)} {vs : List Val} {P : List Addr}, Reps G W H (fs.map (·.2)) vs P → (∀ b ∈ P, b ∈ P0) → P.Nodup → (∀ b ∈ P, b ∉ O) →
      ∃ P', Reps G W' H' ((putF f y fs).map (·.2)) (putFv f v (fs.map (·.1)) vs) P' ∧ (∀ b ∈ P', b ∈ P ∨ b ∈ O) ∧ P'.Nodup
  | [], vs, P, r, hs, nd, dj => by
    cases r
    refine ⟨O ++ [], .cons (tr _ _ _ (fun b hb => .inr hb) ry) .nil, fun b hb => .inr (by simpa using hb), by simpa using ndO⟩
  | (g, x) :: fs, vs, P, r, hs, nd, dj => by
    cases r with
    | @cons _ w _ ws O1 O2 r t =>
      obtain ⟨n1, n2, n3⟩ := List.nodup_append.mp nd
      have h2 : ∀ b ∈ O2, b ∈ P0 := fun b hb => hs b (List.mem_append_right _ hb)
      simp only [List.map_cons]
      unfold putF putFv
      by_cases h : g = f
      · rw [if_pos h, if_pos h]
        have t' : Reps G W' H' (fs.map (·.2)) ws O2 := by
          clear r n3 n1 nd dj hs
          generalize fs.map (·.2) = xs at t
          induction ws generalizing xs O2 with
          | nil => cases t; exact .nil
          | cons u us ih =>
            cases t with
            | @cons _ _ _ _ Oa Ob r t =>
              obtain ⟨m1, m2, m3⟩ := List.nodup_append.mp n2
              exact .cons (tr _ _ _ (fun b hb => .inl (h2 b (List.mem_append_left _ hb))) r) (ih m2 (fun b hb => h2 b (List.mem_append_right _ hb)) _ t)
        refine ⟨O ++ O2, .cons (tr _ _ _ (fun b hb => .inr hb) ry) t', fun b hb => ?_, List.nodup_append.mpr ⟨ndO, n2, fun a ha b hb e => dj b (List.mem_append_right _ hb) (e ▸ ha)⟩⟩
        rcases List.mem_append.mp hb with z | z
        · exact .inr z
        · exact .inl (List.mem_append_right _ z)
      · rw [if_neg h, if_neg h]
        obtain ⟨P', q1, q2, q3⟩ := reps_putF tr ry ndO t h2 n2 fun b hb => dj b (List.mem_append_right _ hb)
        refine ⟨O1 ++ P', .cons (tr _ _ _ (fun b hb => .inl (hs b (List.mem_append_left _ hb))) r) q1, fun b hb => ?_, List.nodup_append.mpr ⟨n1, q3, fun a ha b hb e => ?_⟩⟩
        · rcases List.mem_append.mp hb with z | z
          · exact .inl (List.mem_append_left _ z)
          · exact (q2 b z).imp (List.mem_append_right _) id
        · subst e
          exact (q2 a hb).elim (fun z => n3 a ha a z rfl) fun z => dj a (List.mem_append_left _ ha) z
def mSetF (cs : List Nat) (i : Nat) (f : Str) (m : ME) : MS := fun ρ => match m ρ with
  | .ok v ρ1 => (match ρ1[i]? with
    | some (some (.obj true n fs xs)) => if n ∈ cs ∧ fs.length < 1000 then .nx (ρ1.set i (some (.obj true n (putFn f fs) (putFv f v fs xs)))) else .bad
    | _ => .bad)
  | .exc e ρ' => .exc e ρ'
  | .bad => .bad
theorem rep_objO {W : Addr → Prop} {H : Hp} {x : V} {n : Nat} {ns : List Str} {vs : List Val} {O : List Addr} (r : Rep G W H x (.obj true n ns vs) O) : ∃ a C dx fs P, x = .ref a ∧ O = a :: P ∧ H a = some (.ins C dx fs) ∧ G.cn n = some C ∧ ns = fs.map (·.1) ∧ Reps G W H (fs.map (·.2)) vs P := by
  cases r with
  | objO h hc hn r => exact ⟨_, _, _, _, _, rfl, rfl, h, hc, hn, r⟩
theorem vs_setF {cs : List Nat} {i : Nat} {f : Str} {o e : Expr} (F : FldF G X.K cs f) (ho : PE X o (tVar i)) (he : VE G X E p true e m) (hs : swapsWith e (some (.Attribute o f pos')) pos.line X.env = pure false := by rfl) :
    VS G X E bs σ0 (.Assign [.Attribute o f pos'] e pos) (mSetF cs i f m) := by
  refine PS.pre (ps_fld ho he hs) fun D σ H ⟨R, ρ, Os, rel, pin, post⟩ => ⟨R, ρ, Os, rel, ?_⟩
  refine PostS.post (s := true) (f := fun v ρ1 => match ρ1[i]? with
    | some (some (.obj true n fs xs)) => if n ∈ cs ∧ fs.length < 1000 then .nx (ρ1.set i (some (.obj true n (putFn f fs) (putFv f v fs xs)))) else .bad
    | _ => .bad) pin post fun v ρ1 y H1 Os1 O _ post rel1 rep nd k => ?_
  have e0 : Rp R true O = fun a => R a ∨ a ∈ O := setEq fun a => ⟨fun z => z.imp id fun z => z.2, fun z => z.imp id fun z => ⟨rfl, z⟩⟩
  rw [e0] at rel1 rep
  have nO : ∀ a ∈ O, ¬ R a := fun a ha z => let ⟨o, e, nw⟩ := rel.hr a z; (k a o e nw).2.2 ⟨rfl, ha⟩
  split at post
  · rename_i n fs xs hv
    by_cases hn : n ∈ cs ∧ fs.length < 1000
    rotate_left
    · rw [if_neg hn] at post; exact post.elim
    rw [if_pos hn] at post
    obtain ⟨x, hx, rv⟩ := rel1.rep i _ hv
    obtain ⟨a, C, dx, fs', P, rfl, hO, ea, hC, rfl, reps⟩ := rep_objO rv
    obtain ⟨c1, c2⟩ := F _ hn.1 C hC
    have hnd := rel1.nd i
    rw [hO] at hnd
    obtain ⟨nd1, nd2⟩ := List.nodup_cons.mp hnd
    refine ⟨.ref a, hx, a, C, dx, fs', rfl, ea, c1, c2, by simpa using hn.2, ?_⟩
    have djP : ∀ b ∈ P, b ∉ O := fun b hb z => rel1.dr i b (by rw [hO]; exact List.mem_cons_of_mem _ hb) (.inr z)
    obtain ⟨P', _, hP', ndP'⟩ := reps_putF (f := f) (P0 := P) (fun z u Oz _ r => r) rep (nd rfl) reps (fun b hb => hb) nd2 djP
    obtain ⟨r2, k2⟩ := Rel.root (P' := P') (ob' := .ins C dx (putF f y fs')) (w := .obj true n (putFn f (fs'.map (·.1))) (putFv f v (fs'.map (·.1)) xs)) rel1 nO hv hx hO ea hP' ndP' fun tr same => by
      have key : ∀ {fs : List (Str × V)} {vs : List Val} {P2 : List Addr}, Reps G (WW (fun a => R a ∨ a ∈ O) Os1) H1 (fs.map (·.2)) vs P2 → (∀ b ∈ P2, b ∈ P ∨ b ∈ O) → Reps G (WW R (fun j => if j = i then a :: P' else Os1 j)) (upd H1 a (.ins C dx (putF f y fs'))) (fs.map (·.2)) vs P2 := by
        intro fs vs P2 r hP2
        generalize fs.map (·.2) = zs at r
        induction vs generalizing zs P2 with
        | nil => cases r; exact .nil
        | cons u us ih =>
          cases r with
          | cons r t => exact .cons (tr _ _ _ (fun b hb => hP2 b (List.mem_append_left _ hb)) r) (ih (fun b hb => hP2 b (List.mem_append_right _ hb)) _ t)
      exact .objO same hC (putFn_map fs').symm (key ‹_› hP')
    refine post σ _ _ pin r2 fun b o e nw => ?_
    obtain ⟨e1, n1, n2⟩ := k b o e nw
    obtain ⟨e2, n3⟩ := k2 b o e1 n1 fun z => n2 ⟨rfl, z⟩
    exact ⟨e2, n3, id⟩
  · exact post.elim

/-! ### x[i] = value, x a list or a dict of ints and texts -/
/-- a list's item, exchanged -/
theorem reps_trans {W W' : Addr → Prop} {H H' : Hp} {Q0 : Addr → Prop} (tr : ∀ z u Oz, (∀ b ∈ Oz, Q0 b) → Rep G W H z u Oz → Rep G W' H' z u Oz) : ∀ {xs : List V} {vs : List Val} {P : List Addr}, Reps G W H xs vs P → (∀ b ∈ P, Q0 b) → Reps G W' H' xs vs P
  | _, [], _, r, _ => by cases r; exact .nil
  | _, v :: vs, _, r, h => by
    cases r with
    | cons r t => exact .cons (tr _ _ _ (fun b hb => h b (List.mem_append_left _ hb)) r) (reps_trans tr t fun b hb => h b (List.mem_append_right _ hb))
def mPutL (i : Nat) (mi m : ME) : MS := fun ρ => match m ρ with
  | .ok v ρ1 => (match mi ρ1 with
    | .ok (.int k) ρ2 => if ρ2 = ρ1 then (match ρ2[i]? with
      | some (some (.lst true xs)) => (match ixN xs.length k with
        | some j => .nx (ρ2.set i (some (.lst true (xs.set j v))))
        | none => .bad)
      | _ => .bad) else .bad
    | _ => .bad)
  | .exc e ρ' => .exc e ρ'
  | .bad => .bad
theorem vs_putL {i : Nat} {o e ix : Expr} {mi : ME} {sp2 : Bool} (ho : PE X o (tVar i)) (hi : VE G X E true sp2 ix mi) (he : VE G X E p true e m) (hs : swapsWithSole [.Subscript o ix pos'] e pos.line X.env = pure false := by rfl) (hw : swappedStores [.Subscript o ix pos'] e X.env = pure none := by rfl)
    (h1 : (assignEach [.Subscript o ix pos'] X.env).map (·.2) = [assign (.Subscript o ix pos') X.env] := by rfl)
    (ha : ∀ v, assign (.Subscript o ix pos') X.env v = (do
      let ov ← holding [v] (eval o X.env)
      let iv ← holding [v, ov] (eval ix X.env)
      standAt pos'
      holding [v, ov, iv] (setItem ov iv v)
      release [v, ov, iv] []) := by intro _; rfl) : VS G X E bs σ0 (.Assign [.Subscript o ix pos'] e pos) (mPutL i mi m) := by
  refine PS.pre (ps_asg he (pg_sub ho hi set_list ha) hs hw h1) fun D σ H ⟨R, ρ, Os, rel, pin, post⟩ => ⟨R, ρ, Os, rel, ?_⟩
  refine PostS.post (s := true) (f := fun v ρ1 => match mi ρ1 with
    | .ok (.int k) ρ2 => if ρ2 = ρ1 then (match ρ2[i]? with
      | some (some (.lst true xs)) => (match ixN xs.length k with
        | some j => .nx (ρ2.set i (some (.lst true (xs.set j v))))
        | none => .bad)
      | _ => .bad) else .bad
    | _ => .bad) pin post fun v ρ1 y H1 Os1 O _ post rel1 rep nd k => ?_
  have e0 : Rp R true O = fun a => R a ∨ a ∈ O := setEq fun a => ⟨fun z => z.imp id fun z => z.2, fun z => z.imp id fun z => ⟨rfl, z⟩⟩
  rw [e0] at rel1 rep
  have nO : ∀ a ∈ O, ¬ R a := fun a ha z => let ⟨o, e, nw⟩ := rel.hr a z; (k a o e nw).2.2 ⟨rfl, ha⟩
  have kl : KeepE H Os H1 Os1 fun _ => False := k.imp fun _ z => z.elim
  cases hmi : mi ρ1 with
  | bad => rw [hmi] at post; exact post.elim
  | exc ee ρ2 => rw [hmi] at post; exact post.elim
  | ok kv ρ2 =>
    rw [hmi] at post
    cases kv with
    | int kk =>
      dsimp only at post
      by_cases hp : ρ2 = ρ1
      rotate_left
      · rw [if_neg hp] at post; exact post.elim
      rw [if_pos hp] at post
      subst hp
      split at post
      · rename_i xs hv
        cases hj : ixN xs.length kk with
        | none => rw [hj] at post; exact post.elim
        | some j =>
          rw [hj] at post
          dsimp only at post
          obtain ⟨x, hx, rv⟩ := rel1.rep i _ hv
          refine ⟨x, hx, fun a => R a ∨ a ∈ O, ρ2, Os1, rel1, ?_⟩
          rw [hmi]
          intro kv H2 Os2 Ok rel2 rk ndk k2 pure
          cases rk
          obtain ⟨_, rfl, same⟩ := pure rfl
          have rel3 : Rel G (fun a => R a ∨ a ∈ O) H2 σ ρ2 Os2 := rel2.weak fun a z => .inl z
          obtain ⟨x', hx', rv3⟩ := rel3.rep i _ hv
          rw [hx] at hx'
          cases hx'
          have rep3 : Rep G (WW (fun a => R a ∨ a ∈ O) Os2) H2 y v O := rep.mono (fun a o e nw => ⟨same a o e, nw⟩) fun a _ o e => same a o e
          generalize hOi : Os2 i = Oi at rv3
          cases rv3 with
          | @lstO a ys _ P ea r =>
            obtain ⟨w, hw⟩ : ∃ w, xs[j]? = some w := ⟨xs[j]'((ixN_seq hj).2.1), List.getElem?_eq_getElem _⟩
            obtain ⟨z, O1, Oz, O2, e1, e2, rz, set⟩ := r.set hw
            have hnd := rel3.nd i
            rw [hOi] at hnd
            obtain ⟨nd1, nd2⟩ := List.nodup_cons.mp hnd
            rw [e2] at nd2
            obtain ⟨m1, m2, m3⟩ := List.nodup_append.mp nd2
            obtain ⟨m4, m5, m6⟩ := List.nodup_append.mp m2
            have djP : ∀ b ∈ P, b ∉ O := fun b hb z => rel3.dr i b (by rw [hOi]; exact List.mem_cons_of_mem _ hb) (.inr z)
            have hP' : ∀ b ∈ O1 ++ (O ++ O2), b ∈ P ∨ b ∈ O := fun b hb => by
              rw [e2]
              rcases List.mem_append.mp hb with q | q
              · exact .inl (List.mem_append_left _ q)
              · rcases List.mem_append.mp q with q | q
                · exact .inr q
                · exact .inl (List.mem_append_right _ (List.mem_append_right _ q))
            have ndP' : (O1 ++ (O ++ O2)).Nodup := by
              refine List.nodup_append.mpr ⟨m1, List.nodup_append.mpr ⟨nd rfl, m5, fun b hb c hc e => djP c (by rw [e2]; exact List.mem_append_right _ (List.mem_append_right _ hc)) (e ▸ hb)⟩, fun b hb c hc e => ?_⟩
              subst e
              rcases List.mem_append.mp hc with q | q
              · exact djP b (by rw [e2]; exact List.mem_append_left _ hb) q
              · exact m3 b hb b (List.mem_append_right _ q) rfl
            refine ⟨a, ys, kk, j, rfl, rfl, ea, by rw [r.length]; exact hj, ?_⟩
            obtain ⟨r2, k3⟩ := Rel.root (P' := O1 ++ (O ++ O2)) (ob' := .lst (ys.set j y)) (w := .lst true (xs.set j v)) rel3 nO hv hx hOi ea hP' ndP' fun tr same2 => by
              refine .lstO same2 (set _ _ y v O (fun z u Oz hz r => tr z u Oz (fun b hb => ?_) r) (tr _ _ _ (fun b hb => .inr hb) rep3))
              rw [e2]
              rcases List.mem_append.mp (hz b hb) with q | q
              · exact .inl (List.mem_append_left _ q)
              · exact .inl (List.mem_append_right _ (List.mem_append_right _ q))
            refine post σ _ _ pin r2 fun b o e nw => ?_
            obtain ⟨e3, n1, n2⟩ := k b o e nw
            obtain ⟨e4, n3⟩ := k3 b o (same b o e3) n1 fun z => n2 ⟨rfl, z⟩
            exact ⟨e4, n3, id⟩
      · exact post.elim
    | _ => exact post.elim

/-! ### x.append(value) -/
def mApp (i : Nat) (m : ME) : ME := fun ρ => match m ρ with
  | .ok v ρ1 => (match ρ1[i]? with
    | some (some (.lst true xs)) => if xs.length < 16777216 then .ok .non (ρ1.set i (some (.lst true (xs ++ [v])))) else .bad
    | _ => .bad)
  | .exc e ρ' => .exc e ρ'
  | .bad => .bad
end
end VL
/-! VL, part Q: f-strings; is None; facts by names; the head. -/
namespace VL
open PySem L2

/-! ### f-strings -/
def semFmt1 : List Val → Option Val
  | [v] => match semFmt v with
    | some y => some (.str y)
    | none => none
  | _ => none
def mJoin : List ME → Str → ME
  | [], acc => fun ρ => .ok (.str acc) ρ
  | m :: ms, acc => fun ρ => match m ρ with
    | .ok (.str y) ρ1 => if (acc ++ y).length ≤ 16777216 then mJoin ms (acc ++ y) ρ1 else .bad
    | .ok _ _ => .bad
    | .exc e ρ1 => .exc e ρ1
    | .bad => .bad
section
variable {G : Gam} {X : Cx} {E : WX} {p s : Bool} {m : ME} {pos : Pos}
theorem ve_fmt {e : Expr} (h : VE G X E p s e m) : VE G X E p true (.FormattedValue e (-1) none pos) (mFun semFmt1 [m]) := by
  have := ve_fun (G := G) (E := E) (os := [⟨p, s, m⟩]) (pe_fmt (pos := pos) h) (r := fun xs H Q => match xs with
    | [x] => (∃ y : Str, x = .str y ∧ y.length ≤ sizeLine ∧ Q (.str y) H) ∨ ∃ i : Int, x = .int i ∧ i.natAbs.log2 < 1920 ∧ Q (.str (toString i)) H
    | _ => False) (fun σ H Q z => z) (sem := semFmt1) (fun W H xs vs Ol v Q w r hs mk => by
      unfold semFmt1 at hs
      split at hs
      · rename_i v0
        obtain ⟨x, O, rfl, r1⟩ := r.inv1
        split at hs
        · rename_i y hy
          cases hs
          unfold semFmt at hy
          split at hy
          · cases r1
            split at hy
            · rename_i hz
              cases hy
              exact .inl ⟨_, rfl, sz_le hz, mk.same (.str _)⟩
            · cases hy
          · cases r1
            split at hy
            · rename_i hz
              cases hy
              exact .inr ⟨_, rfl, hz, mk.same (.str _)⟩
            · cases hy
          · cases hy
        · cases hs
      · cases hs) wf1
  simpa using this
/-- the parts -/
inductive VJ (G : Gam) (X : Cx) (E : WX) : List Expr → List Op → Prop where
  | nil : VJ G X E [] []
  | cons {e : Expr} {p s : Bool} {m : ME} {es : List Expr} {os : List Op} (h : VE G X E p s e m) (r : VJ G X E es os) : VJ G X E (e :: es) (⟨p, s, m⟩ :: os)
theorem VJ.pj {es : List Expr} {os : List Op} (h : VJ G X E es os) : PJ X es (os.map fun o => rd G E o.p o.s o.m) := by
  induction h with
  | nil => exact .nil
  | cons h r ih => exact .cons h ih
theorem join_of {σ : L2.St} {Q : VK} : ∀ {os : List Op} {acc : Str} {R : Addr → Prop} {H : Hp} {ρ : VEnv} {Os : Nat → List Addr}, Rel G R H σ ρ Os → Post G R E σ H Os (os.all (·.p)) true ρ Q (mJoin (os.map Op.m) acc ρ) → tJs (os.map fun o => rd G E o.p o.s o.m) acc σ H fun out H1 => Q (.str out) H1
  | [], acc, R, H, ρ, Os, rel, post => post (.str acc) H Os [] (rel.weak fun a z => z.elim id fun z => nomatch z.2) (.str _) (fun _ => List.nodup_nil) (KeepE.refl.imp fun a z => nomatch z.2) fun _ => ⟨rfl, rfl, fun _ _ e => e⟩
  | o :: os, acc, R, H, ρ, Os, rel, post => by
    refine ⟨R, ρ, Os, rel, ?_⟩
    rw [List.map_cons] at post
    unfold mJoin at post
    cases hm : o.m ρ with
    | bad => rw [hm] at post; exact post
    | exc e ρ1 => rw [hm] at post; exact post
    | ok v ρ1 =>
      rw [hm] at post
      cases v with
      | str y =>
        dsimp only at post
        by_cases hl : (acc ++ y).length ≤ 16777216
        rotate_left
        · rw [if_neg hl] at post; exact post.elim
        rw [if_pos hl] at post
        intro x H1 Os1 O rel1 rep nd keep pure
        cases rep
        refine ⟨y, rfl, sz_le hl, join_of (rel1.weak fun a z => .inl z) ?_⟩
        exact Post.later (p1 := o.p) (by simp) id post (keep.imp fun _ z => z.elim) pure
      | _ => exact post.elim
theorem ve_join {v1 v2 : Expr} {rest : List Expr} {os : List Op} (h : VJ G X E (v1 :: v2 :: rest) os) : VE G X E (os.all (·.p)) true (.JoinedStr (v1 :: v2 :: rest) pos) (mJoin (os.map Op.m) Str.empty) :=
  PE.pre (pe_joined h.pj) fun σ H Q ⟨R, ρ, Os, rel, post⟩ => join_of rel post

/-! ### facts by names: any test of the part of the heap that the head shows; a def wherever it stands -/
/-- what a property's record names first -/
def getr (K : PySem.W.Frag) (p : Addr) (i : Nat) : Addr := match PySem.W.recIn K p "property" with
  | some l => (match l[i]? with
    | some (.ref g) => g
    | _ => 0)
  | none => 0
structure VDef where
  ad : PySem.W.Frag → Addr
  name : Str
  qual : Str
  params : Arguments
  body : List Stmt
  scope : Scope
  dfl : List He.Dv := []
  kwd : List (Str × He.Dv) := []
  /-- it says super(): the class is captured -/
  cell : Bool := false
def VDef.shape (d : VDef) : He.FnW := some (d.name, d.qual, d.params, .stmts d.body, d.scope, mainGlobals, (if d.cell then [("__class__", 0)] else []), builtinsNs)
def VDef.dvs (K : PySem.W.Frag) (d : VDef) : List V := d.dfl.map (He.Dv.v K)
def VDef.kws (K : PySem.W.Frag) (d : VDef) : List (Str × V) := d.kwd.map fun q => (q.1, q.2.v K)
def VDef.seen (K : PySem.W.Frag) (d : VDef) : He.FnW := match K.lookup (d.ad K) with
  | some ⟨_, _, .func fd, _⟩ => some (fd.name, fd.qualname, fd.params, fd.body, fd.scope, fd.globals, fd.closure.map (fun p => (p.1, 0)), fd.builtins)
  | _ => none
def VDef.good (K : PySem.W.Frag) (d : VDef) : Bool := PySem.W.keepIn K (.ref (d.ad K)) && (match K.lookup (d.ad K) with
  | some ⟨_, _, .func fd, _⟩ => PySem.W.codeIn K fd.code d.qual && (He.dflB K fd.defaults (d.dvs K) && He.kwdB K fd.kwdefaults (d.kws K))
  | _ => false)
abbrev FunV (K : PySem.W.Frag) (d : VDef) (fd : FuncData) : Prop := FunD K d.name d.qual d.params d.body d.scope (d.dvs K) (d.kws K) (d.ad K) fd
theorem VDef.funD {K : PySem.W.Frag} {d : VDef} (e : d.seen K = d.shape) (c : d.good K = true) (hcell : d.cell = false) : ∃ fd, FunV K d fd := by
  unfold VDef.good at c
  rw [Bool.and_eq_true] at c
  obtain ⟨kp, c2⟩ := c
  unfold VDef.seen at e
  cases q : K.lookup (d.ad K) with
  | none => rw [q] at c2; cases c2
  | some o =>
    obtain ⟨oc, od, dt, osl⟩ := o
    rw [q] at c2 e
    cases dt with
    | func fd =>
      obtain ⟨n1, n2, n3, n4, n5, n6, n7, n8, n9, n10, n11, n12, n13, n14, n15⟩ := fd
      simp only [VDef.shape, hcell, Bool.false_eq_true, if_false, Option.some.injEq, Prod.mk.injEq, List.map_eq_nil_iff] at e
      obtain ⟨h1, h2, h3, h4, h5, h6, h7, h8⟩ := e
      subst h1 h2 h3 h4 h5 h6 h7 h8
      simp only [Bool.and_eq_true] at c2
      obtain ⟨k1, k3, k4⟩ := c2
      exact ⟨_, ⟨oc, od, n8, n9, n10, n11, n12, n13, n14, osl, rfl, q, k1, He.dflB_ok k3, He.kwdB_ok k4⟩, kp⟩
    | _ => cases c2
def obsV (fa : List (PySem.W.Frag → Bool)) (fn : List VDef) (K : PySem.W.Frag) : He.AlD := ((fa.all fun f => f K) && fn.all fun d => d.good K, fn.map fun d => d.seen K)
def SaysV (fa : List (PySem.W.Frag → Bool)) (fn : List VDef) (K : PySem.W.Frag) : Prop := obsV fa fn K = (true, fn.map VDef.shape)
def obsVG (n : Nat) (fa : List (PySem.W.Frag → Bool)) (fn : List VDef) (g : Addr → Option Obj) : He.AlD := obsV fa fn (He.frG g (He.asD g n))
def hookV (n : Nat) (fa : List (PySem.W.Frag → Bool)) (fn : List VDef) : PySem.W.Hook where
  α := He.AlD
  obs := fun s => obsVG n fa fn s.heap.get?
  val := fun _ => (true, fn.map VDef.shape)
  says := fun _ h => ∃ K : PySem.W.Frag, K.In h ∧ SaysV fa fn K
  of := fun _ _ e => ⟨_, He.frG_in, e⟩
  keeps := fun _ _ _ ⟨K, hK, c⟩ k => ⟨K, PySem.W.Frag.In.keeps hK k, c⟩
theorem obsVG_eq {n : Nat} {fa : List (PySem.W.Frag → Bool)} {fn : List VDef} {g : Addr → Option Obj} {s : Shared} (h : ∀ a, g a = s.heap.get? a) : obsVG n fa fn g = (hookV n fa fn).obs s := by
  have e : g = s.heap.get? := funext h
  rw [e]; rfl
theorem SaysV.fact {fa : List (PySem.W.Frag → Bool)} {fn : List VDef} {K : PySem.W.Frag} (c : SaysV fa fn K) (i : Nat) {f : PySem.W.Frag → Bool} (h : fa[i]? = some f := by rfl) : f K = true := by
  have c1 : ((fa.all fun f => f K) && fn.all fun d => d.good K) = true := congrArg (fun z : He.AlD => z.1) c
  exact List.all_eq_true.mp (He.ba c1).1 f (List.mem_of_getElem? h)
theorem SaysV.def_ {fa : List (PySem.W.Frag → Bool)} {fn : List VDef} {K : PySem.W.Frag} (c : SaysV fa fn K) (i : Nat) {d : VDef} (h : fn[i]? = some d := by rfl) (hcell : d.cell = false := by rfl) : ∃ fd, FunV K d fd := by
  have c1 : ((fa.all fun f => f K) && fn.all fun d => d.good K) = true := congrArg (fun z : He.AlD => z.1) c
  have c2 : (fn.map fun d => d.seen K) = fn.map VDef.shape := congrArg (fun z : He.AlD => z.2) c
  have c3 : (fn.map fun d => d.seen K)[i]? = (fn.map VDef.shape)[i]? := by rw [c2]
  rw [List.getElem?_map, List.getElem?_map, h] at c3
  exact VDef.funD (Option.some.inj c3) (List.all_eq_true.mp (He.ba c1).2 d (List.mem_of_getElem? h)) hcell
theorem SaysV.raw {fa : List (PySem.W.Frag → Bool)} {fn : List VDef} {K : PySem.W.Frag} (c : SaysV fa fn K) (i : Nat) {d : VDef} (h : fn[i]? = some d := by rfl) : d.seen K = d.shape ∧ d.good K = true := by
  have c1 : ((fa.all fun f => f K) && fn.all fun d => d.good K) = true := congrArg (fun z : He.AlD => z.1) c
  have c2 : (fn.map fun d => d.seen K) = fn.map VDef.shape := congrArg (fun z : He.AlD => z.2) c
  have c3 : (fn.map fun d => d.seen K)[i]? = (fn.map VDef.shape)[i]? := by rw [c2]
  rw [List.getElem?_map, List.getElem?_map, h] at c3
  exact ⟨Option.some.inj c3, List.all_eq_true.mp (He.ba c1).2 d (List.mem_of_getElem? h)⟩
/-- a def that keeps its promise -/
def Ok (P : Program) (w : World) (K : PySem.W.Frag) (mg : Str → Option Value) (base : Heap) (G : Gam) (d : VDef) (k : Nat) (ps : List Str) (mf : MF) : Prop :=
  ∃ fd, FunV K d fd ∧ FnOkG P w K mg base (L2.CX P w) k (d.ad K) fd ps (spV G ps.length mf)
theorem ok_of {P : Program} {w : World} {K : PySem.W.Frag} {mg : Str → Option Value} {base : Heap} {G : Gam} {d : VDef} {k : Nat} {N ps : List Str} {bs : List Bool} {mb : MS} (F : ∃ fd, FunV K d fd) (S : FnScope N ps d.scope) (hn : bs.length = ps.length)
    (hbody : ∀ (cdv : Value) (A : Around) (outer : List Env) (s : Shared) (H : Hp) (E : XK), RoomG k (A.deeper (PyProof.Rows.envOfC d.qual d.scope s.heap.objs.size (d.ad K) cdv)) → Takes (cxOf (L2.CX P w) P w K mg base N d.qual d.scope (d.ad K) cdv A outer s H E) (fun c d _ H => E c d H) →
      PassesOwn (model P w) (A.deeper (PyProof.Rows.envOfC d.qual d.scope s.heap.objs.size (d.ad K) cdv)) (PyProof.Rows.envOfC d.qual d.scope s.heap.objs.size (d.ad K) cdv) (cxOf (L2.CX P w) P w K mg base N d.qual d.scope (d.ad K) cdv A outer s H E).xe → ∀ σ0, VSs G (cxOf (L2.CX P w) P w K mg base N d.qual d.scope (d.ad K) cdv A outer s H E) (fun c d _ H => E c d H) bs σ0 d.body mb) :
    Ok P w K mg base G d (k + 1) ps (mBody bs N.length mb) := by
  obtain ⟨fd, F⟩ := F
  refine ⟨fd, F, ?_⟩
  obtain ⟨oc, od, dV, kV, doc, pm, an, cdv, ct, osl, e, lk, hcd, _, _⟩ := F.ex
  subst e
  exact fnv_of lk hcd S hn fun A outer s H E hr σ0 => hbody cdv A outer s H E hr (takes_of rfl rfl rfl rfl) (passes_of (X := cxOf (L2.CX P w) P w K mg base N d.qual d.scope (d.ad K) cdv A outer s H E) rfl) σ0
theorem takesF {Y : Cx} : Takes Y WF := fun u s' ⟨_, _, _, _, _, _, _, _, _, _, _, _, _, _, _, _, w⟩ => w.elim
/-- the law's promise -/
theorem law_sp {K : PySem.W.Frag} {G : Gam} (hK : G.K = K) {mf : MF} {ns : List Int} {H : Hp} {a : Addr} {fs : VEnv} (h : mf [.scr ns] = .ok (.bl true) fs) (hO : Only H) (hS : SqL K H a (ns.map V.int)) : spV G 1 mf [.ref a] H (fun v _ => v = .bl true) fun _ _ _ => False := by
  subst hK
  refine ⟨rfl, fun _ => False, [.scr ns], fun _ => [], ⟨rfl, fun i v hv => ?_, fun _ _ => rfl, fun _ => List.nodup_nil, fun _ _ _ h => (nomatch h), fun _ _ h => (nomatch h), fun _ z => z.elim⟩, ?_⟩
  · cases i with
    | succ i => simp at hv
    | zero =>
      simp at hv
      subst hv
      refine ⟨.ref a, rfl, .scr ?_⟩
      rcases hS with (e | ⟨o, e⟩) | e
      · rcases hO a with z | ⟨o, xs, z⟩
        · rw [z] at e; cases e
        · rw [z] at e; cases e
      · exact .inl ⟨o, e, fun z => z.elim id fun ⟨i, z⟩ => nomatch z⟩
      · exact .inr (.inr e)
  · show Post G _ _ _ _ _ _ _ _ _ (mf [.scr ns])
    rw [h]
    intro x H' Os' O rel rep nd k _
    cases rep
    rfl
end
end VL
/-! VL, part R: operators of the text's own classes. -/
namespace VL
open PySem PySem.Spec PyProof.Rows
section
variable {P : Program} {w : World} {A : Around} {E : Value → Shared → Prop} {s : Shared}
theorem int_bin_ref {R : Fin → Shared → Prop} {a : Int} {t : Tok} {x C dx : Addr} {nm : String} {f : Int → Int → Sem Fin} (hx : s.heap.get? x = some (PySem.W.instObj C dx))
   (h : R (.done (.ret .notImplemented)) s) : wpAny (model P w) A (PySem.Builtin.Int.intBinary nm f false ⟨[.int a t, .ref x], []⟩) R E s := by
  unfold PySem.Builtin.Int.intBinary
  refine wpAny_bind (m := slotArgs nm 1 ⟨[.int a t, .ref x], []⟩) (wpAny_of_eq (a := (.int a t, [.ref x])) (by rfl) ?_)
  refine wpAny_bind (m := PySem.Builtin.Int.intOfSelf (.int a t)) (wpAny_of_eq (a := a) (by rfl) ?_)
  refine wpAny_bind (m := asInt? (.ref x)) ?_
  show wpAny _ A (load x >>= fun o => _) _ _ _
  refine wpAny_bind (wpAny_load hx (wpAny_pure ?_))
  exact wpAny_bind (wpAny_rule (wpAny_pure h))
theorem int_bin_call {Q : Value → Shared → Prop} {a : Int} {t : Tok} {x C dx : Addr} {nm : String} {name : Str} {id : String} {f : Int → Int → Sem Fin} (hx : s.heap.get? x = some (PySem.W.instObj C dx))
   (slot : Slot "int" name id) (entry : entryFor table id = some (PySem.Builtin.Int.intBinary nm f false)) (args : argsOk id ⟨[.int a t, .ref x], []⟩) (h : Q .notImplemented s) :
   wpAny (model P w) A (call (.builtin id) [.int a t, .ref x]) Q E s := by
  refine wpAny_call (codeAny_call_builtin slot.plain entry (slot.check _ _ _ _ _ _ _ _ (typeIs_int s a t) args ?_))
  exact int_bin_ref hx h
theorem binop_IK {K : PySem.W.Frag} {op : Operator} {x C f f0 : Addr} {ox : Obj} {od : Option Obj} {i : Int} {t : Tok} {idl : String} {Q : Value → Shared → Prop} (X : K.In s.heap) (J : PySem.W.InstAt s.heap x ox C od) (hc : PySem.W.selfFirst K C = true)
    (hs : PySem.W.findIn K (.ref C) (PySem.dunder op.info.2) = some (some (.ref f0))) (hsr : PySem.W.findIn K (.ref C) (dunderR op.info.2) = some (some (.ref f))) (hf : PySem.W.isFn K (.ref f) = true)
    (fillsT : fillsNumberSlot (.type "int") op.info.2 = pure true) (hsub : PySem.W.subIn K (.ref C) (.type "int") = some false) (slot : Slot "int" (PySem.dunder op.info.2) idl)
    (hcall : ∀ Q : Value → Shared → Prop, Q .notImplemented s → wpAny (model P w) A (call (.builtin idl) [.int i t, .ref x]) Q E s)
    (h : wpAny (model P w) A (call (.ref f) [.ref x, .int i t]) (PySem.W.CmpBack Q) E s) : wpAny (model P w) A (binaryOp op (.int i t) (.ref x)) Q E s := by
  obtain ⟨cd, rest, hcd, hm⟩ := PySem.W.ksp_first hc
  rcases hi : op.info with ⟨sym, nm⟩
  rw [hi] at hs hsr fillsT slot
  dsimp only at hs hsr fillsT slot
  have one := PySem.W.ksp_try X J hsr hf h
  simp only [binaryOp, hi]
  refine wpAny_holding (wpAny_bind ?_)
  simp only [binaryOp1]
  refine wpAny_bind (wpAny_typeOf (typeIs_int s i t) (wpAny_bind (J.type.here (wpAny_bind (wpAny_of_eq fillsT ?_)))))
  have hne : (Value.type "int" == Value.ref C) = false := by first | rfl | simp
  simp only [hne, Bool.false_eq_true, if_false]
  refine wpAny_bind ((PySem.W.fills_K X hcd hm hs).here ?_)
  simp only [Bool.and_self, if_true]
  refine wpAny_bind ((PySem.W.looks_subIn X hsub).here ?_)
  have hpy : numberSlotInPython (.type "int") nm = pure false := rfl
  simp only [Bool.false_eq_true, if_false, pure_bind, Bool.not_false, Bool.and_self, if_true, hpy]
  refine wpAny_bind (wpAny_tryMethod_declines (typeIs_int s i t) slot (hcall _ ⟨rfl, ?_⟩))
  refine wpAny_bind (wpAny_mono one (fun r s' z => ?_) fun _ _ e => e)
  obtain ⟨v, rfl, hq⟩ := z
  exact wpAny_bind (wpAny_rule (wpAny_pure (wpAny_pure hq)))
/-- .. the method of that name that the class has from object, bound -/
theorem ifBound_slot {M : Model} {K : PySem.W.Frag} {x C : Addr} {ox : Obj} {od : Option Obj} {name : Str} {id : String} {args : List Value} {Q : Option Value → Shared → Prop} (X : K.In s.heap) (J : PySem.W.InstAt s.heap x ox C od)
    (hs : PySem.W.findIn K (.ref C) name = some (some (.builtin id))) (hb : bindSpecial (.builtin id) (.ref x) = pure (.builtin id, [.ref x])) (h : wpAny M A (call (.builtin id) (.ref x :: args)) (fun v => Q (some v)) E s) :
    wpAny M A (callSpecialIfBound? (.ref x) name args) Q E s := by
  simp only [callSpecialIfBound?, bindSpecialIfBound?]
  refine wpAny_holding (wpAny_bind (wpAny_bind (wpAny_bind (J.type.here ((PySem.W.looks_findIn X hs).here ?_)))))
  simp only [hb]
  refine wpAny_bind (wpAny_askSetting (wpAny_ite ?_))
  have fin : wpAny M A (call (.builtin id) ([.ref x] ++ args) >>= fun v => pure (some v)) Q E s := wpAny_bind (wpAny_mono h (fun v s' h' => wpAny_pure h') fun _ _ h' => h')
  split
  · exact wpAny_bind (wpAny_pure (wpAny_pure (by exact fin)))
  · exact wpAny_tryCatch (wpAny_bind (wpAny_pure (wpAny_pure (by exact fin))))
theorem bind_objne (self : Value) : bindSpecial (.builtin "object.__ne__") self = pure (.builtin "object.__ne__", [self]) :=
  (Slot.of (T := "object") (name := "__ne__") (owner := "object") (n := "__ne__") (by rw [typeLookup_type, builtinLookup_eq_fast]; kernel_rfl) (by decide +kernel) (by decide +kernel) (by decide +kernel)
    (.inl (by decide +kernel)) (by rw [isSubtype_type]; kernel_rfl)).bind self
theorem plain_objne : plainId "object.__ne__" = true := by decide +kernel
/-- x != b by object.__ne__, through the class's own __eq__ -/
theorem try_ne {K : PySem.W.Frag} {x C f : Addr} {ox : Obj} {od : Option Obj} {b : Value} {Q : Value → Shared → Prop} (hu : A.units + 1 < cLine) (X : K.In s.heap) (J : PySem.W.InstAt s.heap x ox C od)
    (hn : PySem.W.findIn K (.ref C) "__ne__" = some (some (.builtin "object.__ne__"))) (ho : PySem.W.subIn K (.ref C) (.type "object") = some true)
    (he : PySem.W.findIn K (.ref C) "__eq__" = some (some (.ref f))) (hf : PySem.W.isFn K (.ref f) = true)
    (h : wpAny (model P w) A.in1 (call (.ref f) [.ref x, b]) (fun v s' => ∃ k, v = .bool k ∧ Q (.bool (!k)) s') E s) : wpAny (model P w) A (tryCompare (.ref x) "__ne__" b) (fun r s' => ∃ v, r = some v ∧ Q v s') E s := by
  unfold tryCompare
  have hi : PySem.W.Looks (model P w) s.heap (isInstance (.ref x) (.type "object")) true := J.type.andThen (PySem.W.looks_subIn X ho)
  refine wpAny_bind (ifBound_slot X J hn (bind_objne _) (wpAny_call (codeAny_call_builtin plain_objne F.cmpEntry_ne (PySem.W.check_slot F.cmpKind_ne F.cmpSplit_ne hi (F.cmpArgs_ne _ _) ?_))))
  unfold Builtin.«object.__ne__»
  refine wpAny_bind (m := slotArgs "__ne__" 1 ⟨[.ref x, b], []⟩) (wpAny_of_eq (a := (.ref x, [b])) (by rfl) ?_)
  dsimp only
  refine wpAny_bind (wpAny_cRoomFor hu ?_)
  refine wpAny_bind (PySem.W.ifBound_K X J he hf (wpAny_mono h (fun v s' hv => ?_) fun _ _ e => e))
  obtain ⟨k, rfl, hq⟩ := hv
  refine wpAny_bind (wpAny_truthy_bool (wpAny_pure ?_))
  exact wpAny_pure ⟨_, rfl, hq⟩
/-- x op b where the left has its own way -/
theorem cmp_left {K : PySem.W.Frag} {x C : Addr} {ox : Obj} {od : Option Obj} {op : CmpOp} {b tb : Value} {Q : Value → Shared → Prop} (hu : A.units < cLine) (X : K.In s.heap) (J : PySem.W.InstAt s.heap x ox C od) (hb : PySem.W.Looks (model P w) s.heap (typeOf b) tb) (hn : PySem.W.notFirst K C tb = true)
    (one : wpAny (model P w) A (tryCompare (.ref x) (cmpInfo op).2.1 b) (fun r s' => ∃ v, r = some v ∧ Q v s') E s) : wpAny (model P w) A (richCompare op (.ref x) b) Q E s := by
  unfold richCompare
  simp only [oneThing_ref]
  refine wpAny_holding (wpAny_bind (wpAny_cRoomFor hu (wpAny_bind (J.type.here (wpAny_bind (hb.here ?_))))))
  by_cases q : (Value.ref C != tb) = true
  · rw [if_pos q]
    have e : PySem.W.subIn K tb (.ref C) = some false := by
      rcases Bool.or_eq_true_iff.mp hn with e | e
      · rw [beq_iff_eq.mp e] at q; simp at q
      · exact beq_iff_eq.mp e
    refine wpAny_bind ((PySem.W.looks_subIn X e).here ?_)
    simp only [Bool.false_eq_true, if_false]
    refine wpAny_bind (wpAny_mono one (fun r s' z => ?_) fun _ _ e => e)
    obtain ⟨v, rfl, hq⟩ := z
    exact wpAny_pure hq
  · rw [if_neg q]
    refine wpAny_bind (wpAny_pure ?_)
    simp only [Bool.false_eq_true, if_false]
    refine wpAny_bind (wpAny_mono one (fun r s' z => ?_) fun _ _ e => e)
    obtain ⟨v, rfl, hq⟩ := z
    exact wpAny_pure hq
/-- i op x where only the right knows -/
theorem cmp_right {K : PySem.W.Frag} {x C : Addr} {ox : Obj} {od : Option Obj} {op : CmpOp} {i : Int} {t : Tok} {idl : String} {Q : Value → Shared → Prop} (hu : A.units < cLine) (X : K.In s.heap) (J : PySem.W.InstAt s.heap x ox C od) (hsub : PySem.W.subIn K (.ref C) (.type "int") = some false)
    (slot : Slot "int" (cmpInfo op).2.1 idl) (hcall : ∀ Q : Value → Shared → Prop, Q .notImplemented s → wpAny (model P w) A (call (.builtin idl) [.int i t, .ref x]) Q E s)
    (one : wpAny (model P w) A (tryCompare (.ref x) (cmpInfo op).2.2 (.int i t)) (fun r s' => ∃ v, r = some v ∧ Q v s') E s) : wpAny (model P w) A (richCompare op (.int i t) (.ref x)) Q E s := by
  unfold richCompare
  simp only [(typeIs_int s i t).oneThing_none]
  refine wpAny_holding (wpAny_bind (wpAny_cRoomFor hu (wpAny_bind (wpAny_typeOf (typeIs_int s i t) (wpAny_bind (J.type.here ?_))))))
  rw [if_pos (show (Value.type "int" != Value.ref C) = true from by first | rfl | simp)]
  refine wpAny_bind ((PySem.W.looks_subIn X hsub).here ?_)
  simp only [Bool.false_eq_true, if_false, Bool.not_false, if_true]
  refine wpAny_bind (m := tryCompare (.int i t) _ (.ref x)) ?_
  unfold tryCompare
  refine wpAny_bind (wpAny_callSpecialIfBound?_slot (typeIs_int s i t) slot (hcall _ (wpAny_pure ?_)))
  refine wpAny_bind (wpAny_mono one (fun r s' z => ?_) fun _ _ e => e)
  obtain ⟨v, rfl, hq⟩ := z
  exact wpAny_pure hq
theorem try_eq {K : PySem.W.Frag} {x C f : Addr} {ox : Obj} {od : Option Obj} {nm : Str} {b : Value} {Q : Value → Shared → Prop} (X : K.In s.heap) (J : PySem.W.InstAt s.heap x ox C od) (he : PySem.W.findIn K (.ref C) nm = some (some (.ref f))) (hf : PySem.W.isFn K (.ref f) = true)
    (h : wpAny (model P w) A (call (.ref f) [.ref x, b]) (PySem.W.CmpBack Q) E s) : wpAny (model P w) A (tryCompare (.ref x) nm b) (fun r s' => ∃ v, r = some v ∧ Q v s') E s := by
  unfold tryCompare
  refine wpAny_bind (PySem.W.ifBound_K X J he hf (wpAny_mono h (fun v s' hv => ?_) fun _ _ e => e))
  cases v <;> first | exact hv.elim | exact wpAny_pure ⟨_, rfl, hv⟩
end
end VL
/-! VL, part S: operators of the text's own classes, as functions on trees. -/
namespace VL
open PySem L2

def voidR : RE → RE
  | .ok v _ => .ok v [none, none]
  | .exc e _ => .exc e [none, none]
  | .bad => .bad
/-- a op b: the left's own def, or the right's for an int on the left -/
def mfBin (c : Nat) (ml mr : MF) : MF := fun vs => match vs with
  | [.obj o n fs xs, .int i] => if n = c then voidR (ml [.obj o n fs xs, .int i]) else .bad
  | [.obj o n fs xs, .obj p k gs ys] => if n = c ∧ k = c then voidR (ml [.obj o n fs xs, .obj p k gs ys]) else .bad
  | [.int i, .obj o n fs xs] => if n = c then voidR (mr [.obj o n fs xs, .int i]) else .bad
  | _ => .bad
def boolR (g : Bool → Bool) : RE → RE
  | .ok (.bl b) _ => .ok (.bl (g b)) [none, none]
  | .exc e _ => .exc e [none, none]
  | _ => .bad
/-- a == b, a != b by __eq__ (g: what is made of its answer) -/
def mfCmp (g : Bool → Bool) (c : Nat) (ml : MF) : MF := fun vs => match vs with
  | [.obj o n fs xs, .obj p k gs ys] => if n = c ∧ k = c then boolR g (ml [.obj o n fs xs, .obj p k gs ys]) else .bad
  | [.obj o n fs xs, v] => if n = c ∧ (tyName v).isSome = true then boolR g (ml [.obj o n fs xs, v]) else .bad
  | [.int i, .obj o n fs xs] => if n = c then boolR g (ml [.obj o n fs xs, .int i]) else .bad
  | _ => .bad
section
variable {G : Gam} {R : Addr → Prop} {H : Hp}
theorem Rel.void {σ : L2.St} {ρ : VEnv} {Os : Nat → List Addr} (rel : Rel G R H σ ρ Os) (τ : L2.St) : Rel G R H τ (τ.map fun _ => none) (fun _ => []) := by
  refine ⟨by simp, fun i v hv => ?_, fun _ _ => rfl, fun _ => List.nodup_nil, fun _ _ _ h => (nomatch h), fun _ _ h => (nomatch h), rel.rt⟩
  rw [List.getElem?_map] at hv
  cases e : τ[i]? with
  | none => rw [e] at hv; cases hv
  | some o => rw [e] at hv; cases hv
theorem KeepE.void {H' : Hp} {Os Os' : Nat → List Addr} {O : Addr → Prop} (k : KeepE H Os H' Os' O) : KeepE H Os H' (fun _ => []) O := fun a o e nw => let ⟨e1, _, n2⟩ := k a o e nw; ⟨e1, (fun ⟨i, z⟩ => nomatch z), n2⟩
theorem we_nil {a : Addr} : ¬ We (fun _ => []) a := fun ⟨i, z⟩ => nomatch z
theorem Post.unvoid {E : WX} {x y : V} {τ : L2.St} {Os : Nat → List Addr} {ρ ρ2 : VEnv} {Q : VK} {r : RE} (post : Post G R E [some x, some y] H Os false true ρ Q (voidR r)) (hE : ∀ c d H', E c d [some x, some y] H' → E c d τ H') : Post G R E τ H Os false true ρ2 Q r := by
  cases r with
  | bad => exact post
  | exc e ρ' => exact fun c d H' Os' rel rx k => hE _ _ _ (post c d H' (fun _ => []) (rel.void _) (rx.mono fun a o e nw => ⟨e, fun z => nw (z.imp id fun z => (we_nil z).elim)⟩) k.void)
  | ok v ρ' => exact fun x' H' Os' O rel rep nd k _ => post x' H' (fun _ => []) O (rel.void _) (rep.weakW fun a z => z.imp id fun z => (we_nil z).elim) nd k.void fun z => by cases z
theorem Rel.swap {x y : V} {v u : Val} {Oa : Nat → List Addr} (rel : Rel G R H [some x, some y] [some v, some u] Oa) : Rel G R H [some y, some x] [some u, some v] (fun j => match j with | 0 => Oa 1 | 1 => Oa 0 | _ => []) := by
  have we : ∀ a, We (fun j => match j with | 0 => Oa 1 | 1 => Oa 0 | _ => []) a ↔ We Oa a := fun a => by
    constructor
    · rintro ⟨j, z⟩
      match j, z with
      | 0, z => exact ⟨1, z⟩
      | 1, z => exact ⟨0, z⟩
      | _ + 2, z => exact nomatch z
    · rintro ⟨j, z⟩
      match j, z with
      | 0, z => exact ⟨1, z⟩
      | 1, z => exact ⟨0, z⟩
      | j + 2, z => rw [rel.nil (j + 2) (fun v hv => by simp at hv)] at z; cases z
  have hw : WW R Oa = WW R (fun j => match j with | 0 => Oa 1 | 1 => Oa 0 | _ => []) := setEq fun a => by unfold WW; rw [we a]
  refine ⟨rfl, fun i w hw' => ?_, fun i hi => ?_, fun i => ?_, fun i j a ha hb => ?_, fun i a ha => ?_, rel.rt⟩
  · match i, hw' with
    | 0, hw' =>
      simp at hw'; subst hw'
      obtain ⟨z, e, r⟩ := rel.rep 1 _ rfl
      exact ⟨z, by simpa using e, hw ▸ r⟩
    | 1, hw' =>
      simp at hw'; subst hw'
      obtain ⟨z, e, r⟩ := rel.rep 0 _ rfl
      exact ⟨z, by simpa using e, hw ▸ r⟩
    | i + 2, hw' => simp at hw'
  · match i, hi with
    | 0, hi => exact absurd rfl (hi u)
    | 1, hi => exact absurd rfl (hi v)
    | i + 2, hi => rfl
  · match i with
    | 0 => exact rel.nd 1
    | 1 => exact rel.nd 0
    | i + 2 => exact List.nodup_nil
  · match i, j, ha, hb with
    | 0, 0, _, _ => rfl
    | 1, 1, _, _ => rfl
    | 0, 1, ha, hb => have := rel.dj 1 0 a ha hb; omega
    | 1, 0, ha, hb => have := rel.dj 0 1 a ha hb; omega
    | i + 2, _, ha, _ => exact nomatch ha
    | 0, j + 2, _, hb => exact nomatch hb
    | 1, j + 2, _, hb => exact nomatch hb
  · match i, ha with
    | 0, ha => exact rel.dr 1 a ha
    | 1, ha => exact rel.dr 0 a ha
    | i + 2, ha => exact nomatch ha
/-- the addresses by other names -/
theorem post_os {E : WX} {τ : L2.St} {Os Os2 : Nat → List Addr} {ρ : VEnv} {Q : VK} {r : RE} (post : Post G R E τ H Os false true ρ Q r) (h : ∀ a, We Os2 a ↔ We Os a) : Post G R E τ H Os2 false true ρ Q r := by
  cases r with
  | bad => exact post
  | exc e ρ' => exact fun c d H' Os' rel rx k => post c d H' Os' rel rx fun a o e nw => k a o e fun z => nw ((h a).mp z)
  | ok v ρ' => exact fun x' H' Os' O rel rep nd k _ => post x' H' Os' O rel rep nd (fun a o e nw => k a o e fun z => nw ((h a).mp z)) fun z => by cases z
/-- the two operands of a promise of two -/
theorem sp_two {n : Nat} {mf : MF} {x y : V} {Q : VK} {E : XK} (h : spV G n mf [x, y] H Q E) : n = 2 ∧ ∃ R v u Oa, Rel G R H [some x, some y] [some v, some u] Oa ∧ Rep G (WW R Oa) H x v (Oa 0) ∧ Rep G (WW R Oa) H y u (Oa 1) ∧ Post G R (fun c d _ H => E c d H) [some x, some y] H Oa false true [some v, some u] Q (mf [v, u]) := by
  obtain ⟨hn, R, vs, Oa, rel, post⟩ := h
  have hl := rel.len
  match vs, rel, post, hl with
  | [v, u], rel, post, _ =>
    obtain ⟨x', e, r⟩ := rel.rep 0 v rfl
    obtain ⟨y', e', r'⟩ := rel.rep 1 u rfl
    have ex : x = x' := by simpa using e
    have ey : y = y' := by simpa using e'
    subst ex ey
    exact ⟨by simpa using hn.symm, R, v, u, Oa, rel, r, r', post⟩
/-- what comes of a promise of mfBin -/
theorem bin_own {c : Nat} {C : Addr} {ml mr : MF} {x y : V} {Q : VK} {E : XK} (hc : G.cn c = some C) (h : spV G 2 (mfBin c ml mr) [x, y] H Q E) :
    (∃ a dx fs, x = .ref a ∧ H a = some (.ins C dx fs) ∧ ((∃ i, y = .int i) ∨ ∃ b dy gs, y = .ref b ∧ H b = some (.ins C dy gs)) ∧ spV G 2 ml [x, y] H Q E) ∨
    (∃ i b dy gs, x = .int i ∧ y = .ref b ∧ H b = some (.ins C dy gs) ∧ spV G 2 mr [y, x] H Q E) := by
  obtain ⟨_, R, v, u, Oa, rel, r1, r2, post⟩ := sp_two h
  unfold mfBin at post
  split at post
  · rename_i o n fs xs i hvu
    cases hvu
    by_cases hn : n = c
    · rw [if_pos hn] at post
      subst hn
      obtain ⟨a, C', dx, fs', rfl, ea, hC, _⟩ := rep_obj r1
      rw [hc] at hC; cases hC
      obtain ⟨j, rfl⟩ : ∃ j, y = .int j := by generalize Oa 1 = O2 at r2; cases r2; exact ⟨_, rfl⟩
      exact .inl ⟨a, dx, fs', rfl, ea, .inl ⟨_, rfl⟩, rfl, R, [_, _], Oa, rel, post.unvoid fun _ _ _ z => z⟩
    · rw [if_neg hn] at post; exact post.elim
  · rename_i o n fs xs p k gs ys hvu
    cases hvu
    by_cases hn : n = c ∧ k = c
    · rw [if_pos hn] at post
      obtain ⟨rfl, rfl⟩ := hn
      obtain ⟨a, C', dx, fs', rfl, ea, hC, _⟩ := rep_obj r1
      rw [hc] at hC; cases hC
      obtain ⟨b, C', dy, gs', rfl, eb, hC, _⟩ := rep_obj r2
      rw [hc] at hC; cases hC
      exact .inl ⟨a, dx, fs', rfl, ea, .inr ⟨b, dy, gs', rfl, eb⟩, rfl, R, [_, _], Oa, rel, post.unvoid fun _ _ _ z => z⟩
    · rw [if_neg hn] at post; exact post.elim
  · rename_i i o n fs xs hvu
    cases hvu
    by_cases hn : n = c
    · rw [if_pos hn] at post
      subst hn
      obtain ⟨b, C', dy, gs', rfl, eb, hC, _⟩ := rep_obj r2
      rw [hc] at hC; cases hC
      obtain rfl : x = .int i := by generalize Oa 0 = O2 at r1; cases r1; rfl
      refine .inr ⟨i, b, dy, gs', rfl, rfl, eb, rfl, R, [_, _], _, rel.swap, ?_⟩
      have := post.unvoid (τ := [some (.ref b), some (.int i)]) (ρ2 := [some (.obj o n fs xs), some (.int i)]) fun _ _ _ z => z
      refine post_os this fun a => ?_
      constructor
      · rintro ⟨j, z⟩
        match j, z with
        | 0, z => exact ⟨1, z⟩
        | 1, z => exact ⟨0, z⟩
        | _ + 2, z => exact nomatch z
      · rintro ⟨j, z⟩
        match j, z with
        | 0, z => exact ⟨1, z⟩
        | 1, z => exact ⟨0, z⟩
        | j + 2, z => rw [rel.nil (j + 2) (fun v hv => by simp at hv)] at z; cases z
    · rw [if_neg hn] at post; exact post.elim
  · exact post.elim

/-- what the class must have for an operator: nm its name in the tables -/
structure OwnOp (K : PySem.W.Frag) (C : Addr) (nm : String) (f g : Addr) : Prop where
  sf : PySem.W.selfFirst K C = true
  l : PySem.W.findIn K (.ref C) (PySem.dunder nm) = some (some (.ref f))
  lf : PySem.W.isFn K (.ref f) = true
  r : PySem.W.findIn K (.ref C) (dunderR nm) = some (some (.ref g))
  rf : PySem.W.isFn K (.ref g) = true
  tl : (PySem.W.findIn K (.type "int") (PySem.dunder nm)).isSome = true
  tr : (PySem.W.findIn K (.type "int") (dunderR nm)).isSome = true
  ul : PySem.W.subIn K (.type "int") (.ref C) = some false
  ur : PySem.W.subIn K (.ref C) (.type "int") = some false
/-- what int has for it -/
structure IntOp (op : Operator) (idl : String) : Prop where
  fills : fillsNumberSlot (.type "int") op.info.2 = pure true
  slot : Slot "int" (PySem.dunder op.info.2) idl
  call : ∀ {P : Program} {w : World} {A : Around} {E : Value → Shared → Prop} {s : Shared} {Q : Value → Shared → Prop} {a : Int} {t : Tok} {x C dx : Addr}, s.heap.get? x = some (PySem.W.instObj C dx) → Q .notImplemented s → wpAny (model P w) A (call (.builtin idl) [.int a t, .ref x]) Q E s
theorem int_add : IntOp .Add "int.__add__" := ⟨PySem.F.fills_int_add, PySem.F.slot_int_add, fun hx h => int_bin_call hx PySem.F.slot_int_add PySem.F.entry_int_add (PySem.F.args_int_add_2 _ _) h⟩
theorem int_sub : IntOp .Sub "int.__sub__" := ⟨PySem.F.fills_int_sub, PySem.F.slot_int_sub, fun hx h => int_bin_call hx PySem.F.slot_int_sub PySem.F.entry_int_sub (PySem.F.args_int_sub_2 _ _) h⟩
theorem int_mul : IntOp .Mult "int.__mul__" := ⟨PySem.F.fills_int_mul, PySem.F.slot_int_mul, fun hx h => int_bin_call hx PySem.F.slot_int_mul PySem.F.entry_int_mul (PySem.F.args_int_mul_2 _ _) h⟩
section
variable {X : Cx} {E : WX} {a b : Expr} {p1 p2 s1 s2 : Bool} {m1 m2 : ME} {pos : Pos} {C f g : Addr} {c : Nat} {ml mr : MF}
theorem ins_here {pins : List (Addr × Obj)} {σ : L2.St} {H : Hp} {s : Shared} {x C dx : Addr} {fs : List (Str × V)} (I : Inv X pins σ H s) (e : H x = some (.ins C dx fs)) : s.heap.get? x = some (PySem.W.instObj C dx) ∧ ∃ od, PySem.W.InstAt s.heap x (PySem.W.instObj C dx) C (some od) := by
  obtain ⟨mA, O, _⟩ := ins_get I.hok e
  obtain ⟨od, J, _⟩ := O.look
  exact ⟨J.at_, od, J⟩
theorem bin_run {op : Operator} {idl : String} (T : OwnOp X.K C op.info.2 f g) (B : IntOp op idl) (hc : G.cn c = some C) (hl : CalV G X E (.ref f) 2 ml []) (hr : CalV G X E (.ref g) 2 mr []) (pins : List (Addr × Obj)) (s : Shared) (σ : L2.St) (H : Hp) (x y : V) (v u : Value) (Q : VK)
    (I : Inv X pins σ H s) (rx : RelV x v) (ry : RelV y u) (h : spV G 2 (mfBin c ml mr) [x, y] H Q (WE E σ)) : wpAny (model X.prog X.w) X.A (binaryOp op v u) (EP X pins σ Q) X.xe s := by
  obtain ⟨m, hF⟩ := I.fr
  have back : ∀ {w : Value} {s' : Shared}, EP X pins σ Q w s' → PySem.W.CmpBack (EP X pins σ Q) w s' := fun ⟨z, H', I', rz, q⟩ => SlX.cmpback rz ⟨z, H', I', rz, q⟩
  rcases bin_own hc h with ⟨x0, dx, fs, rfl, ea, hy, q⟩ | ⟨i, b0, dy, gs, rfl, rfl, eb, q⟩
  · cases rx
    obtain ⟨hx, od, J⟩ := ins_here I ea
    have one := thn (hl pins s σ H [.ref x0, y] [.ref x0, u] Q I (.cons rfl (.cons ry .nil)) (by simpa using q)) fun w s' z => back z
    rcases hy with ⟨i, rfl⟩ | ⟨b0, dy, gs, rfl, eb⟩
    · obtain ⟨t, rfl⟩ := ry
      obtain ⟨fo, hfo⟩ := Option.isSome_iff_exists.mp T.tl
      obtain ⟨ro, hro⟩ := Option.isSome_iff_exists.mp T.tr
      exact PySem.W.ksp_binT hF I.ok.mod.kin J (by rfl) T.sf T.l T.lf T.r (.inr ⟨g, rfl⟩) hfo hro T.ul one
    · cases ry
      obtain ⟨hy, od', J'⟩ := ins_here I eb
      exact PySem.W.binop_K hF I.ok.mod.kin J J'.type T.sf T.l T.lf one
  · obtain ⟨t, rfl⟩ := rx
    cases ry
    obtain ⟨hy, od, J⟩ := ins_here I eb
    have one := thn (hr pins s σ H [.ref b0, .int i] [.ref b0, .int i t] Q I (.cons rfl (.cons ⟨t, rfl⟩ .nil)) (by simpa using q)) fun w s' z => back z
    exact binop_IK I.kIn J T.sf T.l T.r T.rf B.fills T.ur B.slot (fun Q h => B.call hy h) one
theorem ve_ownbin {op : Operator} {idl : String} (T : OwnOp X.K C op.info.2 f g) (B : IntOp op idl) (hc : G.cn c = some C) (hl : CalV G X E (.ref f) 2 ml []) (hr : CalV G X E (.ref g) 2 mr []) (h1 : VE G X E p1 true a m1) (h2 : VE G X E p2 true b m2) :
    VE G X E (p1 && p2) true (.BinOp a op b pos) (mCall (mfBin c ml mr) [.v ⟨p1, true, m1⟩, .v ⟨p2, true, m2⟩]) := by
  refine ⟨fun pins s σ H Q I h => ?_⟩
  have q := call_of (E := E) (as := [.v ⟨p1, true, m1⟩, .v ⟨p2, true, m2⟩]) (n := 2) trivial rfl rfl (σ := σ) (H := H) (Q := Q) (mf := mfBin c ml mr) (by simpa [argsP] using h)
  refine wpAny_BinOp (thn (h1.run pins s σ H _ I q) fun v s1 hv => ?_)
  obtain ⟨x, H1, I1, rx, q1⟩ := hv
  refine thn (h2.run pins s1 σ H1 _ I1 q1) fun u s2 hu => ?_
  obtain ⟨y, H2, I2, ry, q2⟩ := hu
  exact bin_run T B hc hl hr pins s2 σ H2 x y v u Q I2 rx ry q2
end

/-! ### a == b, a != b -/
theorem cmp_own {g : Bool → Bool} {c : Nat} {C : Addr} {ml : MF} {x y : V} {Q : VK} {E : XK} (hc : G.cn c = some C) (h : spV G 2 (mfCmp g c ml) [x, y] H Q E) :
    (∃ a dx fs, x = .ref a ∧ H a = some (.ins C dx fs) ∧ ((∃ b dy gs, y = .ref b ∧ H b = some (.ins C dy gs)) ∨ ∃ t, t ∈ ["NoneType", "bool", "int", "str", "tuple", "list", "dict"] ∧ TyX G.K H y (.type t)) ∧ spV G 2 ml [x, y] H (fun z H' => ∃ k, z = .bl k ∧ Q (.bl (g k)) H') E) ∨
    (∃ i b dy gs, x = .int i ∧ y = .ref b ∧ H b = some (.ins C dy gs) ∧ spV G 2 ml [y, x] H (fun z H' => ∃ k, z = .bl k ∧ Q (.bl (g k)) H') E) := by
  obtain ⟨_, R, v, u, Oa, rel, r1, r2, post⟩ := sp_two h
  have fin : ∀ {τ : L2.St} {r : RE} {ρ2 : VEnv} {Os : Nat → List Addr}, (∀ a, We Os a ↔ We Oa a) → Post G R (fun c d _ H => E c d H) [some x, some y] H Oa false true [some v, some u] Q (boolR g r) → Post G R (fun c d _ H => E c d H) τ H Os false true ρ2 (fun z H' => ∃ k, z = .bl k ∧ Q (.bl (g k)) H') r := by
    intro τ r ρ2 Os hw post
    cases r with
    | bad => exact post
    | exc e ρ' => exact fun c d H' Os' rel rx k => post c d H' (fun _ => []) (rel.void _) (rx.mono fun a o e nw => ⟨e, fun z => nw (z.imp id fun z => (we_nil z).elim)⟩) fun a o e nw => k.void a o e fun z => nw ((hw a).mp z)
    | ok w ρ' =>
      cases w with
      | bl k =>
        intro x' H' Os' O rel rep nd kk _
        cases rep
        refine ⟨k, rfl, post (.bl (g k)) H' (fun _ => []) [] ((rel.void _).weak fun a z => z.elim .inl fun z => nomatch z.2) (.bl _) (fun _ => List.nodup_nil) (fun a o e nw => ?_) fun z => by cases z⟩
        obtain ⟨e1, n1, _⟩ := kk.void a o e fun z => nw ((hw a).mp z)
        exact ⟨e1, n1, fun z => nomatch z.2⟩
      | _ => exact post.elim
  unfold mfCmp at post
  split at post
  · rename_i o n fs xs p k gs ys hvu
    cases hvu
    by_cases hn : n = c ∧ k = c
    · rw [if_pos hn] at post
      obtain ⟨rfl, rfl⟩ := hn
      obtain ⟨a, C', dx, fs', rfl, ea, hC, _⟩ := rep_obj r1
      rw [hc] at hC; cases hC
      obtain ⟨b, C', dy, gs', rfl, eb, hC, _⟩ := rep_obj r2
      rw [hc] at hC; cases hC
      exact .inl ⟨a, dx, fs', rfl, ea, .inl ⟨b, dy, gs', rfl, eb⟩, rfl, R, [_, _], Oa, rel, fin (fun _ => Iff.rfl) post⟩
    · rw [if_neg hn] at post; exact post.elim
  · rename_i o n fs xs w _ hvu
    cases hvu
    by_cases hn : n = c ∧ (tyName u).isSome = true
    · rw [if_pos hn] at post
      obtain ⟨rfl, ht⟩ := hn
      obtain ⟨a, C', dx, fs', rfl, ea, hC, _⟩ := rep_obj r1
      rw [hc] at hC; cases hC
      obtain ⟨t, ht⟩ := Option.isSome_iff_exists.mp ht
      exact .inl ⟨a, dx, fs', rfl, ea, .inr ⟨t, tyName_mem ht, rep_tyX r2 ht⟩, rfl, R, [_, _], Oa, rel, fin (fun _ => Iff.rfl) post⟩
    · rw [if_neg hn] at post; exact post.elim
  · rename_i i o n fs xs hvu
    cases hvu
    by_cases hn : n = c
    · rw [if_pos hn] at post
      subst hn
      obtain ⟨b, C', dy, gs', rfl, eb, hC, _⟩ := rep_obj r2
      rw [hc] at hC; cases hC
      obtain rfl : x = .int i := by generalize Oa 0 = O2 at r1; cases r1; rfl
      refine .inr ⟨i, b, dy, gs', rfl, rfl, eb, rfl, R, [_, _], _, rel.swap, fin (fun a => ?_) post⟩
      constructor
      · rintro ⟨j, z⟩
        match j, z with
        | 0, z => exact ⟨1, z⟩
        | 1, z => exact ⟨0, z⟩
        | _ + 2, z => exact nomatch z
      · rintro ⟨j, z⟩
        match j, z with
        | 0, z => exact ⟨1, z⟩
        | 1, z => exact ⟨0, z⟩
        | j + 2, z => rw [rel.nil (j + 2) (fun v hv => by simp at hv)] at z; cases z
    · rw [if_neg hn] at post; exact post.elim
  · exact post.elim

structure OwnEq (K : PySem.W.Frag) (C : Addr) (f : Addr) : Prop where
  l : PySem.W.findIn K (.ref C) "__eq__" = some (some (.ref f))
  lf : PySem.W.isFn K (.ref f) = true
  nf : ∀ t ∈ ["NoneType", "bool", "int", "str", "tuple", "list", "dict"], PySem.W.notFirst K C (.type t) = true
  ur : PySem.W.subIn K (.ref C) (.type "int") = some false
  ne : PySem.W.findIn K (.ref C) "__ne__" = some (some (.builtin "object.__ne__"))
  ob : PySem.W.subIn K (.ref C) (.type "object") = some true
section
variable {X : Cx} {E : WX} {a b : Expr} {p1 p2 s1 s2 : Bool} {m1 m2 : ME} {pos : Pos} {C f : Addr} {c k : Nat} {ml : MF} {fd : FuncData} {ps : List Str}
theorem notFirst_self {K : PySem.W.Frag} {C : Addr} : PySem.W.notFirst K C (.ref C) = true := by
  unfold PySem.W.notFirst
  rw [beq_self_eq_true, Bool.true_or]
/-- the callee one level further in -/
theorem run_in1 {pins : List (Addr × Obj)} {σ : L2.St} {H : Hp} {s : Shared} {Q : VK} {us : List Value} {vs : List V} {sp : Sp} (F : FnOkG X.prog X.w X.K X.mg X.base (L2.CX X.prog X.w) k f fd ps sp) (hr : RoomG (k + 1) X.A) (hb : Binds X.K fd ps []) (tk : Takes X E) (I : Inv X pins σ H s) (r : Vals vs us) (h : sp vs H Q (WE E σ)) :
    wpAny (model X.prog X.w) X.A.in1 (call (.ref f) us) (EP X pins σ Q) X.xe s := by
  have hl : (us ++ []).length = ps.length := by rw [List.append_nil, ← r.length]; exact F.len _ _ _ _ h
  have b := hb s us I.kIn hl
  rw [List.append_nil] at b
  refine wpAny_call (codeAny_mono (F.run X.A.in1 X.stack s H ⟨us, []⟩ us vs Q (WE E σ) hr.in1 I.env0.in1 b r h) fun res s2 hq => ?_)
  cases res with
  | error er => exact passAt tk σ pins H s er s2 I hq
  | ok fl =>
    cases fl with
    | ret u => exact I.after hq
    | next => exact hq.elim
    | brk => exact hq.elim
    | cont => exact hq.elim
theorem int_eq_call {P : Program} {w : World} {A : Around} {E : Value → Shared → Prop} {s : Shared} {Q : Value → Shared → Prop} {a : Int} {t : Tok} {x C dx : Addr} (hx : s.heap.get? x = some (PySem.W.instObj C dx)) (h : Q .notImplemented s) : wpAny (model P w) A (call (.builtin "int.__eq__") [.int a t, .ref x]) Q E s :=
  int_bin_call hx PySem.F.slot_int_eq PySem.F.entry_int_eq (PySem.F.args_int_eq_2 _ _) h
theorem int_ne_call {P : Program} {w : World} {A : Around} {E : Value → Shared → Prop} {s : Shared} {Q : Value → Shared → Prop} {a : Int} {t : Tok} {x C dx : Addr} (hx : s.heap.get? x = some (PySem.W.instObj C dx)) (h : Q .notImplemented s) : wpAny (model P w) A (call (.builtin "int.__ne__") [.int a t, .ref x]) Q E s :=
  int_bin_call hx PySem.F.slot_int_ne PySem.F.entry_int_ne (PySem.F.args_int_ne_2 _ _) h
theorem eq_run (T : OwnEq X.K C f) (hK : X.K = G.K) (hu : X.A.units < cLine) (hc : G.cn c = some C) (hl : CalV G X E (.ref f) 2 ml []) (pins : List (Addr × Obj)) (s : Shared) (σ : L2.St) (H : Hp) (x y : V) (v u : Value) (Q : VK)
    (I : Inv X pins σ H s) (rx : RelV x v) (ry : RelV y u) (h : spV G 2 (mfCmp id c ml) [x, y] H Q (WE E σ)) : wpAny (model X.prog X.w) X.A (compareOp .Eq v u) (EP X pins σ Q) X.xe s := by
  show wpAny _ _ (richCompare .Eq v u) _ _ _
  have back : ∀ {w : Value} {s' : Shared}, EP X pins σ (fun z H' => ∃ k, z = .bl k ∧ Q (.bl k) H') w s' → PySem.W.CmpBack (EP X pins σ Q) w s' := fun ⟨z, H', I', rz, k, e, q⟩ => by
    subst e
    exact SlX.cmpback rz ⟨_, H', I', rz, q⟩
  rcases cmp_own hc h with ⟨x0, dx, fs, rfl, ea, hy, q⟩ | ⟨i, b0, dy, gs, rfl, rfl, eb, q⟩
  · cases rx
    obtain ⟨hx, od, J⟩ := ins_here I ea
    have one := thn (hl pins s σ H [.ref x0, y] [.ref x0, u] _ I (.cons rfl (.cons ry .nil)) (by simpa using q)) fun w s' z => back z
    rcases hy with ⟨b0, dy, gs, rfl, eb⟩ | ⟨t, ht, ty⟩
    · cases ry
      obtain ⟨hy, od', J'⟩ := ins_here I eb
      exact cmp_left (op := .Eq) hu I.kIn J J'.type notFirst_self (try_eq I.kIn J T.l T.lf one)
    · obtain ⟨P, Z, pp, _⟩ := kit_of I ry (hK ▸ ty)
      exact cmp_left (op := .Eq) hu I.kIn J (Z.ty _ _ I.kIn pp) (T.nf t ht) (try_eq I.kIn J T.l T.lf one)
  · obtain ⟨t, rfl⟩ := rx
    cases ry
    obtain ⟨hy, od, J⟩ := ins_here I eb
    have one := thn (hl pins s σ H [.ref b0, .int i] [.ref b0, .int i t] _ I (.cons rfl (.cons ⟨t, rfl⟩ .nil)) (by simpa using q)) fun w s' z => back z
    exact cmp_right (op := .Eq) hu I.kIn J T.ur PySem.F.slot_int_eq (fun Q h => int_eq_call hy h) (try_eq I.kIn J T.l T.lf one)
theorem ne_run (T : OwnEq X.K C f) (hK : X.K = G.K) (hu : X.A.units + 1 < cLine) (hc : G.cn c = some C) (F : FnOkG X.prog X.w X.K X.mg X.base (L2.CX X.prog X.w) k f fd ps (spV G 2 ml)) (hr : RoomG (k + 1) X.A) (hb : Binds X.K fd ps []) (tk : Takes X E) (pins : List (Addr × Obj)) (s : Shared) (σ : L2.St) (H : Hp) (x y : V) (v u : Value) (Q : VK)
    (I : Inv X pins σ H s) (rx : RelV x v) (ry : RelV y u) (h : spV G 2 (mfCmp not c ml) [x, y] H Q (WE E σ)) : wpAny (model X.prog X.w) X.A (compareOp .NotEq v u) (EP X pins σ Q) X.xe s := by
  show wpAny _ _ (richCompare .NotEq v u) _ _ _
  have back : ∀ {w : Value} {s' : Shared}, EP X pins σ (fun z H' => ∃ k, z = .bl k ∧ Q (.bl (!k)) H') w s' → ∃ k, w = .bool k ∧ EP X pins σ Q (.bool (!k)) s' := fun ⟨z, H', I', rz, k, e, q⟩ => by
    subst e
    cases rz
    exact ⟨k, rfl, .bl (!k), H', I', rfl, q⟩
  have hu0 : X.A.units < cLine := Nat.lt_of_succ_lt hu
  rcases cmp_own hc h with ⟨x0, dx, fs, rfl, ea, hy, q⟩ | ⟨i, b0, dy, gs, rfl, rfl, eb, q⟩
  · cases rx
    obtain ⟨hx, od, J⟩ := ins_here I ea
    have one := thn (run_in1 F hr hb tk (us := [.ref x0, u]) (vs := [.ref x0, y]) I (.cons rfl (.cons ry .nil)) q) fun w s' z => back z
    rcases hy with ⟨b0, dy, gs, rfl, eb⟩ | ⟨t, ht, ty⟩
    · cases ry
      obtain ⟨hy, od', J'⟩ := ins_here I eb
      exact cmp_left (op := .NotEq) hu0 I.kIn J J'.type notFirst_self (try_ne hu I.kIn J T.ne T.ob T.l T.lf one)
    · obtain ⟨P, Z, pp, _⟩ := kit_of I ry (hK ▸ ty)
      exact cmp_left (op := .NotEq) hu0 I.kIn J (Z.ty _ _ I.kIn pp) (T.nf t ht) (try_ne hu I.kIn J T.ne T.ob T.l T.lf one)
  · obtain ⟨t, rfl⟩ := rx
    cases ry
    obtain ⟨hy, od, J⟩ := ins_here I eb
    have one := thn (run_in1 F hr hb tk (us := [.ref b0, .int i t]) (vs := [.ref b0, .int i]) I (.cons rfl (.cons ⟨t, rfl⟩ .nil)) q) fun w s' z => back z
    exact cmp_right (op := .NotEq) hu0 I.kIn J T.ur PySem.F.slot_int_ne (fun Q h => int_ne_call hy h) (try_ne hu I.kIn J T.ne T.ob T.l T.lf one)
theorem pc_eqo (T : OwnEq X.K C f) (hK : X.K = G.K) (hu : X.A.units < cLine) (hc : G.cn c = some C) (hl : CalV G X E (.ref f) 2 ml []) (h1 : VE G X E p1 true a m1) (h2 : VE G X E p2 true b m2) :
    PC X .Eq a b (rd G E (p1 && p2) true (mCall (mfCmp id c ml) [.v ⟨p1, true, m1⟩, .v ⟨p2, true, m2⟩])) := by
  refine ⟨fun pins s σ H Q I h => ?_⟩
  have q := call_of (E := E) (as := [.v ⟨p1, true, m1⟩, .v ⟨p2, true, m2⟩]) (n := 2) trivial rfl rfl (σ := σ) (H := H) (Q := Q) (mf := mfCmp id c ml) (by simpa [argsP] using h)
  refine thn (h1.run pins s σ H _ I q) fun v s1 hv => ?_
  obtain ⟨x, H1, I1, rx, q1⟩ := hv
  refine thn (h2.run pins s1 σ H1 _ I1 q1) fun u s2 hu2 => ?_
  obtain ⟨y, H2, I2, ry, q2⟩ := hu2
  exact eq_run T hK hu hc hl pins s2 σ H2 x y v u Q I2 rx ry q2
theorem pc_neo (T : OwnEq X.K C f) (hK : X.K = G.K) (hu : X.A.units + 1 < cLine) (hc : G.cn c = some C) (F : FnOkG X.prog X.w X.K X.mg X.base (L2.CX X.prog X.w) k f fd ps (spV G 2 ml)) (hr : RoomG (k + 1) X.A) (hb : Binds X.K fd ps []) (tk : Takes X E) (h1 : VE G X E p1 true a m1) (h2 : VE G X E p2 true b m2) :
    PC X .NotEq a b (rd G E (p1 && p2) true (mCall (mfCmp not c ml) [.v ⟨p1, true, m1⟩, .v ⟨p2, true, m2⟩])) := by
  refine ⟨fun pins s σ H Q I h => ?_⟩
  have q := call_of (E := E) (as := [.v ⟨p1, true, m1⟩, .v ⟨p2, true, m2⟩]) (n := 2) trivial rfl rfl (σ := σ) (H := H) (Q := Q) (mf := mfCmp not c ml) (by simpa [argsP] using h)
  refine thn (h1.run pins s σ H _ I q) fun v s1 hv => ?_
  obtain ⟨x, H1, I1, rx, q1⟩ := hv
  refine thn (h2.run pins s1 σ H1 _ I1 q1) fun u s2 hu2 => ?_
  obtain ⟨y, H2, I2, ry, q2⟩ := hu2
  exact ne_run T hK hu hc F hr hb tk pins s2 σ H2 x y v u Q I2 rx ry q2
theorem ve_cmpo {op : CmpOp} {m : ME} {p s : Bool} (h : PC X op a b (rd G E p s m)) (h1 : behindInMarks op b = false) : VE G X E p s (.Compare a [op] [b] pos) m := pe_cmp h h1
theorem vt_cmpo {op : CmpOp} {m : ME} {p s : Bool} (h : PC X op a b (rd G E p s m)) (h1 : behindInMarks op b = false) : VT G X E p (.Compare a [op] [b] pos) m :=
  PT.pre (pt_cmp h h1) fun σ H Q ⟨R, ρ, Os, rel, post⟩ => ⟨R, ρ, Os, rel, post.post⟩
end
end
end VL
/-! VL, part T: str(x) by an own __str__. -/
namespace VL
open PySem L2

def strR : RE → RE
  | .ok (.str y) _ => .ok (.str y) [none]
  | _ => .bad
def mfStr (c : Nat) (ml : MF) : MF := fun vs => match vs with
  | [.obj o n fs xs] => if n = c then strR (ml [.obj o n fs xs]) else .bad
  | _ => .bad
section
variable {G : Gam} {X : Cx} {E : WX} {e : Expr} {p : Bool} {m : ME} {pos px : Pos} {C f : Addr} {c k : Nat} {ml : MF} {fd : FuncData} {ps : List Str}
def rStrO (G : Gam) (C : Addr) (ml : MF) : List V → Hp → VK → Prop := fun xs H Q => ∃ a dx fs, xs = [.ref a] ∧ H a = some (.ins C dx fs) ∧ spV G 1 ml [.ref a] H (fun z H' => ∃ y, z = .str y ∧ Q z H') fun _ _ _ => False
theorem call_strO (hs : PySem.W.findIn X.K (.ref C) "__str__" = some (some (.ref f))) (hf : PySem.W.isFn X.K (.ref f) = true) (F : FnOkG X.prog X.w X.K X.mg X.base (L2.CX X.prog X.w) k f fd ps (spV G 1 ml)) (hr : RoomG (k + 2) X.A) (hb : Binds X.K fd ps []) : CallR X (.type "str") (rStrO G C ml) := by
  intro pins s σ H xs us Q I r h
  obtain ⟨a, dx, fs, rfl, ea, q⟩ := h
  obtain ⟨u, rfl, ru⟩ := vals1 r
  cases ru
  obtain ⟨hx, od, J⟩ := ins_here I ea
  have hr2 : RoomG k X.A.in1.in1 := (show RoomG (k + 1) X.A.in1 from RoomG.in1 hr).in1
  have hl : ([Value.ref a] ++ []).length = ps.length := by rw [← F.len _ _ _ _ q]; rfl
  have b := hb s [.ref a] I.kIn hl
  rw [List.append_nil] at b
  refine PySem.W.kso_call hr2.units0 I.kIn J hs hf (wpAny_call (codeAny_mono (F.run X.A.in1.in1 X.stack s H ⟨[.ref a], []⟩ [.ref a] [.ref a] _ _ hr2 I.env0.in1.in1 b (.cons rfl .nil) q) fun res s2 hq => ?_))
  cases res with
  | error er => exact (pass_none (Y := X.nox) pins σ H s er s2 (I.wish _) hq).elim
  | ok fl =>
    cases fl with
    | ret u =>
      obtain ⟨z, H', I', rz, y, ez, qz⟩ := I.after hq
      subst ez
      obtain ⟨t, rfl⟩ := rz
      exact ⟨.str y, H', I', ⟨t, rfl⟩, qz⟩
    | next => exact hq.elim
    | brk => exact hq.elim
    | cont => exact hq.elim
theorem ve_strO (hs : PySem.W.findIn X.K (.ref C) "__str__" = some (some (.ref f))) (hf : PySem.W.isFn X.K (.ref f) = true) (F : FnOkG X.prog X.w X.K X.mg X.base (L2.CX X.prog X.w) k f fd ps (spV G 1 ml)) (hr : RoomG (k + 2) X.A) (hb : Binds X.K fd ps []) (hc : G.cn c = some C)
    (hg : Gl X "str") (hm : X.mg "str" = none) (hv : bootBuiltins "str" = some (.type "str")) (h : VE G X E p true e m) (he : starEach [e] X.env = (false, eval e X.env) :: starEach [] X.env := by rfl) (hpl : (backTo pos (starEach [] X.env)).any (·.1) = false := by rfl) :
    VE G X E p true (.Call (.Name "str" px) [e] [] pos) (mCall (mfStr c ml) [.v ⟨p, true, m⟩]) := by
  refine PE.pre (pe_callTy (call_strO (G := G) (ml := ml) hs hf F hr hb) hg hm hv (pa_cons h pa_nil he) (by decide) (by decide) he hpl) fun σ H Q h => ?_
  have h' : rd G E (argsP [.v ⟨p, true, m⟩]) true (mCall (mfStr c ml) [.v ⟨p, true, m⟩]) σ H Q := by simpa [argsP] using h
  have q := call_of (E := E) (as := [.v ⟨p, true, m⟩]) (n := 1) trivial rfl rfl (σ := σ) h'
  refine rd_mono q fun x H1 z => ?_
  obtain ⟨_, R, vs, Oa, rel, post⟩ := z
  have hl := rel.len
  obtain ⟨v, rfl⟩ : ∃ v, vs = [v] := by
    match vs, hl with
    | [v], _ => exact ⟨v, rfl⟩
  obtain ⟨x', e', r⟩ := rel.rep 0 v rfl
  have ex : x = x' := by simpa using e'
  subst ex
  unfold mfStr at post
  split at post
  · rename_i o n fs xs hvu
    cases hvu
    by_cases hn : n = c
    rotate_left
    · rw [if_neg hn] at post; exact post.elim
    rw [if_pos hn] at post
    subst hn
    obtain ⟨a, C', dx, fs', rfl, ea, hC, _⟩ := rep_obj r
    rw [hc] at hC; cases hC
    refine ⟨a, dx, fs', rfl, ea, rfl, R, [_], Oa, rel, ?_⟩
    cases hml : ml [Val.obj o n fs xs] with
    | bad => rw [hml] at post; exact post
    | exc ee ρ' => rw [hml] at post; exact post.elim
    | ok w ρ' =>
      rw [hml] at post
      cases w with
      | str y =>
        intro x2 H2 Os2 O2 rel2 rep2 nd2 k2 _
        cases rep2
        refine ⟨y, rfl, post (.str y) H2 (fun _ => []) [] ((rel2.void _).weak fun a z => z.elim .inl fun z => nomatch z.2) (.str _) (fun _ => List.nodup_nil) (fun a o e nw => ?_) fun z => by cases z⟩
        obtain ⟨e1, n1, _⟩ := k2.void a o e nw
        exact ⟨e1, n1, fun z => nomatch z.2⟩
      | _ => exact post.elim
  · exact post.elim

end
def mfBad : MF := fun _ => .bad
theorem cal_bad {G : Gam} {X : Cx} {E : WX} {u : Value} {n : Nat} {dks : List (V × Val)} : CalV G X E u n mfBad dks := fun _ _ _ _ _ _ _ _ _ ⟨_, _, _, _, _, z⟩ => z.elim
/-- as many turns as an int that a name holds, and one more -/
def fuelAt (i : Nat) : VEnv → Nat := fun ρ => match ρ[i]? with
  | some (some (.int j)) => j.toNat + 1
  | _ => 0
theorem vts0 {G : Gam} {X : Cx} : PTs X [] (tT G WF true mYes) := PTs.pre pts_nil fun σ H Q ⟨R, ρ, Os, rel, post⟩ => post H Os rel KeepE.refl fun _ => ⟨rfl, rfl, fun _ _ e => e⟩
end VL
/-! VL, part U: tests of the facts; the law's end. -/
namespace VL
open PySem L2 PySem.W

def tyL : List String := ["NoneType", "bool", "int", "str", "tuple", "list", "dict"]
abbrev Ftest := Frag → Bool
def tFind (C : Addr) (nm : Str) (v : Value) : Ftest := fun K => He.eqO (findIn K (.ref C) nm) (some (some v))
def tProp (x f : Str) : Ftest := fun K => He.eqO (findIn K (.ref (He.ga K x)) f) (some (some (.ref (He.ma K (He.ga K x) f)))) && (He.eqO (specialIn K (.ref (He.ma K (He.ga K x) f)) "__get__") (some (some (.builtin "property.__get__"))) &&
  (decide (takesIn K (.ref (He.ma K (He.ga K x) f)) = some true) && (match recIn K (He.ma K (He.ga K x) f) "property" with
    | some (.ref g :: _) => true
    | _ => false)))
theorem prop_ok {K : Frag} {x f : Str} (c : tProp x f K = true) : PropOf K (He.ga K x) f (He.ma K (He.ga K x) f) (getr K (He.ma K (He.ga K x) f) 0) := by
  unfold tProp at c
  simp only [Bool.and_eq_true] at c
  obtain ⟨c1, c2, c3, c4⟩ := c
  refine ⟨He.eqO_ok c1, He.eqO_ok c2, of_decide_eq_true c3, ?_⟩
  unfold getr
  split at c4
  · rename_i g rest e
    rw [e]
    exact ⟨rest, rfl⟩
  · cases c4
def tOwn (x : Str) (nm : String) : Ftest := fun K => selfFirst K (He.ga K x) && (He.eqO (findIn K (.ref (He.ga K x)) (PySem.dunder nm)) (some (some (.ref (He.ma K (He.ga K x) (PySem.dunder nm))))) && (isFn K (.ref (He.ma K (He.ga K x) (PySem.dunder nm))) &&
  (He.eqO (findIn K (.ref (He.ga K x)) (dunderR nm)) (some (some (.ref (He.ma K (He.ga K x) (dunderR nm))))) && (isFn K (.ref (He.ma K (He.ga K x) (dunderR nm))) && ((findIn K (.type "int") (PySem.dunder nm)).isSome && ((findIn K (.type "int") (dunderR nm)).isSome &&
  (decide (subIn K (.type "int") (.ref (He.ga K x)) = some false) && decide (subIn K (.ref (He.ga K x)) (.type "int") = some false))))))))
theorem own_ok {K : Frag} {x : Str} {nm : String} (c : tOwn x nm K = true) : OwnOp K (He.ga K x) nm (He.ma K (He.ga K x) (PySem.dunder nm)) (He.ma K (He.ga K x) (dunderR nm)) := by
  unfold tOwn at c
  simp only [Bool.and_eq_true] at c
  obtain ⟨c1, c2, c3, c4, c5, c6, c7, c8, c9⟩ := c
  exact ⟨c1, He.eqO_ok c2, c3, He.eqO_ok c4, c5, c6, c7, of_decide_eq_true c8, of_decide_eq_true c9⟩
def tOwnEq (x : Str) : Ftest := fun K => He.eqO (findIn K (.ref (He.ga K x)) "__eq__") (some (some (.ref (He.ma K (He.ga K x) "__eq__")))) && (isFn K (.ref (He.ma K (He.ga K x) "__eq__")) && ((tyL.all fun t => notFirst K (He.ga K x) (.type t)) &&
  (decide (subIn K (.ref (He.ga K x)) (.type "int") = some false) && (He.eqO (findIn K (.ref (He.ga K x)) "__ne__") (some (some (.builtin "object.__ne__"))) && decide (subIn K (.ref (He.ga K x)) (.type "object") = some true)))))
theorem owneq_ok {K : Frag} {x : Str} (c : tOwnEq x K = true) : OwnEq K (He.ga K x) (He.ma K (He.ga K x) "__eq__") := by
  unfold tOwnEq at c
  simp only [Bool.and_eq_true] at c
  obtain ⟨c1, c2, c3, c4, c5, c6⟩ := c
  exact ⟨He.eqO_ok c1, c2, fun t ht => List.all_eq_true.mp c3 t ht, of_decide_eq_true c4, He.eqO_ok c5, of_decide_eq_true c6⟩
/-- the classes by number -/
def clsAt (L : List Str) (K : Frag) (n : Nat) : Option Addr := (L[n]?).map (He.ga K)
def tCls1 (K : Frag) (C : Addr) : Bool := plainGet K C Str.empty && (hasDictIn K C && (plainOver K C && (He.eqO (findIn K (.ref C) "__setattr__") (some (some (.builtin "object.__setattr__"))) &&
  (He.eqO (findIn K (.ref C) "__class__") (some (some (.builtin "object.__class__"))) && (He.eqO (specialIn K (.builtin "object.__class__") "__get__") (some (some (.builtin "getset_descriptor.__get__"))) && (decide (takesIn K (.builtin "object.__class__") = some true) && decide (mroIn K C (.type "object") = some true)))))))
/-- S: those of them that are made by the text (exceptions are not) -/
def tIsi (L : List Str) (sub : Nat → Nat → Bool) : Ftest := fun K => ((List.range L.length).all fun n => (List.range L.length).all fun m => match clsAt L K n, clsAt L K m with
    | some C, some D => decide (kitOne K (.ref C) (.ref D) = some (sub n m))
    | _, _ => true) &&
  (((List.range L.length).all fun n => match clsAt L K n with
    | some C => (tyL.all fun t => decide (kitOne K (.type t) (.ref C) = some false)) && (tyL.all fun t => decide (kitOne K (.ref C) (.type t) = some false))
    | _ => true) && ((List.range L.length).all fun n => match clsAt L K n with
    | some C => tCls1 K C
    | _ => true))
theorem cls_lt {L : List Str} {K : Frag} {n : Nat} {C : Addr} (h : clsAt L K n = some C) : n ∈ List.range L.length := by
  unfold clsAt at h
  cases e : L[n]? with
  | none => rw [e] at h; cases h
  | some x => exact List.mem_range.mpr (List.getElem?_eq_some_iff.mp e).1
theorem isi_ok {G : Gam} {L : List Str} {sub : Nat → Nat → Bool} (hg : ∀ n C, G.cn n = some C → clsAt L G.K n = some C) (c : tIsi L sub G.K = true) : IsiFacts G sub := by
  unfold tIsi at c
  simp only [Bool.and_eq_true] at c
  obtain ⟨c1, c2, c3⟩ := c
  refine ⟨fun n C m D h1 h2 => ?_, fun t m D ht h => ?_, fun n C t ht h => ?_, fun n C h => ?_⟩
  · have h1 := hg _ _ h1
    have h2 := hg _ _ h2
    have := List.all_eq_true.mp (List.all_eq_true.mp c1 n (cls_lt h1)) m (cls_lt h2)
    rw [h1, h2] at this
    exact of_decide_eq_true this
  · have h := hg _ _ h
    have := List.all_eq_true.mp c2 m (cls_lt h)
    rw [h] at this
    simp only [Bool.and_eq_true] at this
    exact of_decide_eq_true (List.all_eq_true.mp this.1 t ht)
  · have h := hg _ _ h
    have := List.all_eq_true.mp c2 n (cls_lt h)
    rw [h] at this
    simp only [Bool.and_eq_true] at this
    exact of_decide_eq_true (List.all_eq_true.mp this.2 t ht)
  · have h := hg _ _ h
    have := List.all_eq_true.mp c3 n (cls_lt h)
    rw [h] at this
    unfold tCls1 at this
    simp only [Bool.and_eq_true] at this
    obtain ⟨d1, d2, d3, d4, d5, d6, d7, d8⟩ := this
    exact ⟨⟨d1, d2, d3, He.eqO_ok d4⟩, He.eqO_ok d5, He.eqO_ok d6, of_decide_eq_true d7, of_decide_eq_true d8⟩
theorem FunV.uniq {K : Frag} {d : VDef} {fd fd' : FuncData} (F : FunV K d fd) (F' : FunV K d fd') : fd = fd' := by
  obtain ⟨_, _, _, _, _, _, _, _, _, _, _, l, _⟩ := F.ex
  obtain ⟨_, _, _, _, _, _, _, _, _, _, _, l', _⟩ := F'.ex
  rw [l] at l'
  cases l'
  rfl
/-- the law's def, from what the head shows -/
theorem law_end {P : Program} {w : World} {K : Frag} {mg : Str → Option Value} {G : Gam} {d : VDef} {k : Nat} {x : Str} {mf : MF} {fd : FuncData} (F : FunV K d fd) (h : ∀ base : Heap, K.In base → base.Ns mainGlobals mg → Ok P w K mg base G d k [x] mf) (base : Heap) (h1 : K.In base) (h2 : base.Ns mainGlobals mg) :
    FnOkG P w K mg base (L2.CX P w) k (d.ad K) fd [x] (spV G 1 mf) := by
  obtain ⟨fd', F', q⟩ := h base h1 h2
  cases F.uniq F'
  exact q
theorem cx_none {P : Program} {w : World} (H : Hp) (s : Shared) (e : Value) (s' : Shared) (h : L2.CX P w [] H s (fun _ _ _ => False) e s') : False := by
  obtain ⟨_, _, _, _, _, _, _, _, _, _, _, _, z⟩ := h
  exact z
/-- the goal of the head: from the law's function on trees -/
theorem walk_ofV {l : PySem.W.OpenLaw} {n k : Nat} {q : Program} {loose : List Str} {XP : (Str → Option Value) → Heap → Prop} {YP : World → Heap → Prop} {r : DefRec} {x : Str} {mf : MF} {G : Frag → World → Gam} (hG : ∀ K w, (G K w).K = K)
    (hn : l.most = some n) (hn2 : n ≤ sizeLine) (hdf : r.params.defaults = []) (hr : RoomG k callerA) (hlaw : ∀ ns : List Int, ns.length ≤ n → ∃ fs, mf [.scr ns] = .ok (.bl true) fs)
    (F : ∀ (w : World) (mg : Str → Option Value) (f : Addr) (h : Heap), YP w h → h.Ns mainGlobals mg → mg r.name = some (.ref f) → ∃ (K : Frag) (fd : FuncData), K.In h ∧ (∀ (s : Shared) (u : Value), BindsTo s fd ⟨[u], []⟩ [(x, u)]) ∧
      ∀ base : Heap, K.In base → base.Ns mainGlobals mg → FnOkG l.prog w K mg base (L2.CX l.prog w) k f fd [x] (spV (G K w) 1 mf)) :
    PySem.W.WalkO q loose XP YP l.row.toRowW r [] (fun f vs => PySem.call f vs) := by
  refine Att.attach_call hn hdf fun w s0 s1 mg mb f o pm cd doc a vs ns Gr Y ho hd hcd hmg hobj hints hlen hg => ?_
  obtain ⟨K, fd, KX, hb, hF⟩ := F w mg f _ Y Gr.T.g hmg
  obtain ⟨fs, hl⟩ := hlaw ns hlen
  exact law_callG KX Gr.T.g Gr.T.b Gr.T.builtins Gr.T.nolimit hg hobj hints (Nat.le_trans hlen hn2) hr hF hb (fun H hO hS => law_sp (hG K w) hl hO hS) fun H e s' z => cx_none H s1 e s' z
end VL
/-! VL, part WA: ** in a dict display: one dict laid into another. -/
namespace VL
open PySem
section
variable {prog : Program} {w : World} {K : Type} [DecidableEq K] {kk : KeyKind prog w K} {A : Around} {E : Value → Shared → Prop} {s : Shared}
theorem put_pairs {d : Addr} {xs : List (K × Value)} {k : K} {kv v : Value} {Q : Unit → Shared → Prop} (kis : kk.is k kv = true) (m : s.heap.DictOf kk d xs) (z : xs.length ≤ sizeLine)
    (q : ∀ h', h'.DictOf kk d (stored xs k v) → Heap.SameBut d s.heap h' → Q () { s with heap := h' }) : wpAny (model prog w) A (dictPut d (kk.hash k) kv v) Q E s := by
  obtain ⟨ob, es, ep, go, gc, gd, gk, gp, gn⟩ := m
  have zs : es.size ≤ sizeLine := by
    have e1 := gp.length
    rw [show es.toList.length = es.size by simp] at e1
    omega
  unfold dictPut
  refine wpAny_bind (wpAny_dictFind_of kis go gd gk ?_)
  have ix : (es.findIdx? fun e => kk.is k e.key) = xs.findIdx? fun p => decide (p.1 = k) := by rw [← gp.findIdx k]; obtain ⟨l⟩ := es; simp
  cases fi : es.findIdx? fun e => kk.is k e.key with
  | some i =>
    have any : (xs.any fun p => decide (p.1 = k)) = true := any_of_findIdx_some (ix ▸ fi)
    have fl : (es.toList.findIdx? fun e => kk.is k e.key) = some i := by rw [← fi]; obtain ⟨l⟩ := es; simp
    have gp2 := gp.modify gn fl v
    refine wpAny_updateDict go gd (q _ ⟨_, _, ep, Heap.get?_update_self _ go (Obj.isFreed_of_dict (Obj.data_mapDict gd _)), gc.mapDict _, Obj.data_mapDict gd _, gk.modify _ _, ?_, ?_⟩ (Heap.SameBut.update ..))
    · rw [stored, if_pos any]; obtain ⟨l⟩ := es; simpa using gp2
    · rw [stored, if_pos any, keys_map_store]; exact gn
  | none =>
    have nin : k ∉ xs.map (·.1) := not_mem_of_findIdx_none (ix ▸ fi)
    have nany : ¬ (xs.any fun p => decide (p.1 = k)) = true := fun z => by
      obtain ⟨p, hp, e⟩ := List.any_eq_true.mp z
      exact nin (List.mem_map.mpr ⟨p, hp, of_decide_eq_true e⟩)
    have gp2 := gp.append kis (kk.hash k) v
    refine wpAny_updateDictKeys (hz := zs) go gd (q _ ⟨_, _, ep + 1, Heap.get?_update_self _ go (Obj.isFreed_of_dict (Obj.data_mapDictKeys gd _)), gc.mapDictKeys _, Obj.data_mapDictKeys gd _, gk.push kis _, ?_, ?_⟩ (Heap.SameBut.update ..))
    · rw [stored, if_neg nany]; obtain ⟨l⟩ := es; simpa using gp2
    · rw [stored, if_neg nany, List.map_append]
      exact List.nodup_append.mpr ⟨gn, by simp, fun a ha b hb e => nin (by simp at hb; subst hb; exact e ▸ ha)⟩
theorem not_ref {v : Value} (h : carriedByValue v = true) : ∀ a, v ≠ .ref a := by
  intro a e; subst e; cases h
/-- ** d of a plain dict -/
theorem merge_mapping {d o : Addr} {xs ys : List (K × Value)} {Q : Unit → Shared → Prop} (ne : d ≠ o) (os : (o == sysModules) = false) (hd : s.heap.DictOf kk d xs) (ho : s.heap.DictOf kk o ys) (z : xs.length + ys.length ≤ sizeLine)
    (q : ∀ h', h'.DictOf kk d (merged xs ys) → h'.DictOf kk o ys → Heap.SameBut d s.heap h' → Q () { s with heap := h' }) : wpAny (model prog w) A (mergeMapping d (.ref o) false) Q E s := by
  obtain ⟨ob, es, ep, go, gc, gd, gk, gp, gn⟩ := id hd
  obtain ⟨oc, fs, fp, fo, fc, fd, fk, fpp, fn⟩ := id ho
  have len : ys.length = fs.size := by rw [← fpp.length]; simp
  unfold mergeMapping
  refine wpAny_bind (wpAny_isInstance ho.typeIs isSubtype_dict_dict ?_)
  rw [if_pos rfl]
  refine wpAny_bind (wpAny_specialOf ho.typeIs F.slot_dict_iter.lookup (wpAny_bind (wpAny_pure ?_)))
  simp only [beq_self_eq_true]
  rw [os]
  rw [if_neg Bool.false_ne_true]
  refine wpAny_bind (wpAny_dictEntries go gd ?_)
  have last : wpAny (model prog w) A (do
      let l ← dictEntries o
      let epoch ← dictEpoch o
      forIn (List.range l.size) PUnit.unit fun i (_ : PUnit) => (do
        let l ← dictEntries o
        match l[i]? with
          | some e => do
            holding [e.key, e.val] (dictPut d e.hash e.key e.val)
            let l ← dictEpoch o
            if (l != epoch) = true then do
                (unsupported "dict.changed-during-merge" : Sem PUnit)
                pure (ForInStep.yield PUnit.unit)
              else pure (ForInStep.yield PUnit.unit)
          | _ => do
            (unsupported "dict.changed-during-merge" : Sem PUnit)
            pure (ForInStep.yield PUnit.unit) : Sem (ForInStep PUnit))
      pure ()) Q E s := by
    refine wpAny_bind (wpAny_dictEntries fo fd ?_)
    refine wpAny_bind (wpAny_dictEpoch fo fd ?_)
    refine wpAny_bind ?_
    rw [List.range_eq_range']
    refine wpAny_forIn_list _ (fun rest _ s' => ∃ h' i, s' = { s with heap := h' } ∧ rest = List.range' i (fs.size - i) ∧ i ≤ fs.size ∧ h'.DictOf kk d (merged xs (ys.take i)) ∧ h'.get? o = some oc ∧ Heap.SameBut d s.heap h') _ ?_ ?_ _ _
      ⟨s.heap, 0, rfl, by simp, Nat.zero_le _, by simpa [merged] using hd, fo, Heap.SameBut.refl _ _⟩
    · rintro x rest b s' ⟨h', i, rfl, hr, hi, hd', fo', hs'⟩
      have lt : i < fs.size := Nat.lt_of_not_le fun h => by rw [Nat.sub_eq_zero_of_le h] at hr; simp at hr
      have e1 : fs.size - i = (fs.size - (i + 1)) + 1 := by omega
      rw [e1, List.range'_succ] at hr
      obtain ⟨rfl, rfl⟩ := List.cons.inj hr
      refine wpAny_bind (wpAny_dictEntries fo' fd ?_)
      rw [Array.getElem?_eq_getElem lt]
      obtain ⟨⟨k, v⟩, hkv⟩ : ∃ p, ys[x]? = some p := ⟨ys[x]'(by omega), List.getElem?_eq_getElem _⟩
      obtain ⟨k1, k2⟩ := fpp.get? (e := fs[x]) (by simp [lt]) hkv
      obtain ⟨k', k3, k4⟩ := fk fs[x] (Array.getElem_mem lt)
      obtain rfl : k' = k := kk.inj _ _ _ k3 k1
      show wpAny _ _ (holding [fs[x].key, fs[x].val] (dictPut d fs[x].hash fs[x].key fs[x].val) >>= _) _ _ _
      rw [k4, k2]
      have z1 : (merged xs (ys.take x)).length ≤ sizeLine := by
        have a1 := merged_length_le xs (ys.take x)
        have a2 : (ys.take x).length ≤ ys.length := by rw [List.length_take]; omega
        omega
      refine wpAny_bind (wpAny_holding (put_pairs k1 hd' z1 fun h2 hd2 hs2 => ?_))
      have fo2 : h2.get? o = some oc := (hs2.2 o (Ne.symm ne)).trans fo'
      refine wpAny_bind (wpAny_dictEpoch fo2 fd ?_)
      rw [if_neg (by simp)]
      exact wpAny_pure ⟨h2, x + 1, rfl, rfl, lt, by rw [merged_take_succ xs ys x (k', v) hkv]; exact hd2, fo2, hs'.trans hs2⟩
    · rintro b s' ⟨h', i, rfl, hr, hi, hd', fo', hs'⟩
      have e : i = fs.size := Nat.le_antisymm hi (Nat.le_of_not_lt fun h => by
        rw [show fs.size - i = (fs.size - (i + 1)) + 1 by omega, List.range'_succ] at hr
        cases hr)
      rw [e, ← len, List.take_length] at hd'
      exact wpAny_pure (q h' hd' ⟨oc, fs, fp, fo', fc, fd, fk, fpp, fn⟩ hs')
  split
  · refine wpAny_bind (wpAny_dictEntries fo fd ?_)
    have loop : (forIn fs PUnit.unit fun e (_ : PUnit) => (match e.key with
        | .ref _ => do
          if (← specialOf e.key "__eq__") != some (.builtin "object.__eq__") then
            if (fs.filter (fun x => x.hash == e.hash)).size > 1 then
              (unsupported "dict.merge-into-an-empty-dict:keys-of-equal-hash" : Sem PUnit)
              pure (ForInStep.yield PUnit.unit)
            else pure (ForInStep.yield PUnit.unit)
          else pure (ForInStep.yield PUnit.unit)
        | _ => pure (ForInStep.yield PUnit.unit) : Sem (ForInStep PUnit))) = pure PUnit.unit := by
      rw [← Array.forIn_toList]
      refine forIn_yield_id _ fun e he c => ?_
      obtain ⟨k, k1, _⟩ := fk e (Array.mem_toList_iff.mp he)
      have nr := not_ref (kk.byValue k _ k1)
      split
      · rename_i a ea; exact absurd ea (nr a)
      · rfl
    exact wpAny_bind (wpAny_of_eq loop last)
  · exact last
end
end VL
/-! VL, part WB: dict displays with **. -/
namespace VL
open PySem
abbrev DSt := Option Addr × List (Sem Value × Sem Value)
theorem gather_any (f : (Option (Sem Value) × Sem Value) → DSt → Sem (ForInStep DSt)) (main : Option Addr) (hf : ∀ (p : Sem Value × Sem Value) (run : List (Sem Value × Sem Value)), run.length + 1 < 17 → f (some p.1, p.2) (main, run) = pure (.yield (main, run ++ [p]))) :
    ∀ (items run : List (Sem Value × Sem Value)), run.length + items.length < 17 → forIn (items.map fun p => (some p.1, p.2)) (main, run) f = pure (main, run ++ items)
  | [], run, _ => by simp
  | p :: r, run, h => by
    simp only [List.length_cons] at h
    rw [List.map_cons, List.forIn_cons, hf p run (by omega), pure_bind]
    simpa using gather_any f main hf r (run ++ [p]) (by simp; omega)
/-- what ** e does -/
def starIn (d : Addr) (v : Sem Value) : Sem Unit := do
  let m ← holding [.ref d] v
  (((holding [.ref d, m] (mergeMapping d m false)).onRaise fun x => do let _ ← holding [.ref d, m, x] (runValue (.builtin "proto.let_go" {}))).tryCatch fun e => do
    if ← isInstance e (.type "AttributeError") then
      rule "dict.display.not-a-mapping"; raiseError "TypeError" s!"'{← typeNameOf m}' object is not a mapping"
    throw e).onRaise fun x => do let _ ← holding [.ref d, x] (runValue (.builtin "proto.let_go" {}))
theorem display_one (v : Sem Value) (pairs : List (Sem Value × Sem Value)) (h0 : pairs ≠ []) (hlen : pairs.length < 17) :
    dictDisplay ((none, v) :: pairs.map fun p => (some p.1, p.2)) = (do
      let d ← alloc { cls := .type "dict", data := .dict #[] }
      starIn d v
      let sub ← holding [.ref d] (subDict pairs)
      (holding [.ref d, .ref sub] (mergeMapping d (.ref sub) false)).onRaise fun x => do let _ ← holding [.ref d, x] (runValue (.builtin "proto.let_go" {}))
      pure (.ref d)) := by
  unfold dictDisplay starIn
  dsimp only
  rw [List.forIn_cons]
  simp only [List.isEmpty_nil, if_true, pure_bind, bind_assoc]
  refine bind_congr fun x => bind_congr fun m => bind_congr fun _ => ?_
  rw [gather_any _ (some x) (fun p run h => by
    have h17 : ((run ++ [(p.1, p.2)]).length == 17) = false := by simp; omega
    simp only [h17, Bool.false_eq_true, if_false]) pairs [] (by simpa using hlen)]
  have e0 : pairs.isEmpty = false := by cases pairs with | nil => exact absurd rfl h0 | cons _ _ => rfl
  simp only [List.nil_append, pure_bind, e0, Bool.false_eq_true, if_false, bind_assoc]
theorem display_two (v v' : Sem Value) : dictDisplay [(none, v), (none, v')] = (do
      let d ← alloc { cls := .type "dict", data := .dict #[] }
      starIn d v
      starIn d v'
      pure (.ref d)) := by
  unfold dictDisplay starIn
  dsimp only
  rw [List.forIn_cons]
  simp only [List.isEmpty_nil, if_true, pure_bind, bind_assoc]
  refine bind_congr fun x => bind_congr fun m => bind_congr fun _ => ?_
  rw [List.forIn_cons]
  simp only [List.isEmpty_nil, if_true, pure_bind, bind_assoc, List.forIn_nil]
section
variable {prog : Program} {w : World} {A : Around} {E : Value → Shared → Prop} {s : Shared}
theorem wp_star {d : Addr} {v : Sem Value} {Q : Unit → Shared → Prop} (h : wpAny (model prog w) A v (fun m s' => wpAny (model prog w) A (mergeMapping d m false) Q (fun _ _ => False) s') E s) : wpAny (model prog w) A (starIn d v) Q E s := by
  unfold starIn
  refine wpAny_bind (wpAny_holding (wpAny_mono h (fun m s' q => ?_) fun _ _ e => e))
  refine wpAny_onRaise (wpAny_tryCatch (wpAny_onRaise (wpAny_holding (wpAny_mono q (fun _ _ q => q) fun _ _ e => e.elim))))
end
end VL
/-! VL, part WC: dict displays with **, read. -/
namespace VL
open PySem L2 PyProof.Rows
section
variable {X : Cx} {pins : List (Addr × Obj)} {s : Shared} {σ : L2.St} {H : Hp}
/-- ** m into the dict at d -/
theorem merge_at {A : Around} {E : Value → Shared → Prop} {d o : Addr} {xs ys : List (Key × V)} {Q : Unit → Shared → Prop} (I : Inv X pins σ H s) (ne : d ≠ o) (hd : H d = some (.dK xs)) (ho : Rd H o (.dK ys)) (z : xs.length + ys.length ≤ sizeLine)
    (q : ∀ s', Inv X pins σ (upd H d (.dK (mergeK xs ys))) s' → Q () s') : wpAny (model X.prog X.w) A (mergeMapping d (.ref o) false) Q E s := by
  obtain ⟨z1, y1, vs, r1, d1⟩ := dk_of I.hok hd
  obtain ⟨z2, y2, us, r2, d2⟩ := dk_rd I.hok ho
  refine merge_mapping (kk := mixKind X.prog X.w) ne y2 d1 d2 (by rw [← r1.length, ← r2.length]; exact z) fun h' e1 _ sb => ?_
  have ze : (mergeK xs ys).length ≤ sizeLine := Nat.le_trans (length_mergeK ys xs) z
  have he : ∃ q, h'.get? d = some q := let ⟨q, _, _, hq, _⟩ := e1; ⟨q, hq⟩
  exact q { s with heap := h' } (d_write (t' := s.toks) I (by rw [hd]; exact True.intro) sb he (dk_new ze y1 (r2.merge r1) e1))
/-- {**e, k: v, ..}: what is laid where -/
def tStar1 (te : TE) (trs : List (TE × TE)) : TE := fun σ H Q => ∀ p, H p = none → te σ (upd H p (.dK [])) fun x H1 => ∃ a kvs, x = .ref a ∧ a ≠ p ∧ H1 p = some (.dK []) ∧ Rd H1 a (.dK kvs) ∧ kvs.length ≤ 1000 ∧
  ∀ q, upd H1 p (.dK (mergeK [] kvs)) q = none → tPairs trs σ (upd (upd H1 p (.dK (mergeK [] kvs))) q (.dK [])) fun ps H2 => H2 q = some (.dK []) ∧ q ≠ p ∧ H2 p = some (.dK (mergeK [] kvs)) ∧ ∃ more : List (Key × V), ps = more.map (fun kv => (kV kv.1, kv.2)) ∧ more.length ≤ 15 ∧
    Q (.ref p) (upd (upd H2 q (.dK (mergeK [] more))) p (.dK (mergeK (mergeK [] kvs) (mergeK [] more))))
def tStar2 (ta tb : TE) : TE := fun σ H Q => ∀ p, H p = none → ta σ (upd H p (.dK [])) fun x H1 => ∃ a kvs, x = .ref a ∧ a ≠ p ∧ H1 p = some (.dK []) ∧ Rd H1 a (.dK kvs) ∧ kvs.length ≤ 1000 ∧
  tb σ (upd H1 p (.dK (mergeK [] kvs))) fun y H2 => ∃ b more, y = .ref b ∧ b ≠ p ∧ H2 p = some (.dK (mergeK [] kvs)) ∧ Rd H2 b (.dK more) ∧ more.length ≤ 1000 ∧ Q (.ref p) (upd H2 p (.dK (mergeK (mergeK [] kvs) more)))
theorem sz_of {n : Nat} (h : n ≤ 3000) : n ≤ sizeLine := by rw [sizeLine_eq]; omega
theorem eval_back {e : Expr} {te : TE} {pos : Pos} {Q : V → Hp → Prop} {P : Value → Shared → Prop} (he : PE X e te) (I : Inv X pins σ H s) (q : te σ H Q) (k : ∀ u s' x H', Inv X pins σ H' s' → RelV x u → Q x H' → P u s') :
    wpAny (model X.prog X.w) X.A (do let x ← eval e X.env; standAt pos; pure x) P X.xe s :=
  wpAny_bind (thn (he.run pins s σ H _ I q) fun u s' ⟨x, H', I', r, h⟩ => wpAny_bind (wpAny_standAt (wpAny_pure (k u s' x H' I' r h))))
theorem new_dict {A : Around} {E : Value → Shared → Prop} {Q : Addr → Shared → Prop} (I : Inv X pins σ H s) (q : ∀ p s', H p = none → Inv X pins σ (upd H p (.dK [])) s' → Q p s') : wpAny (model X.prog X.w) A (alloc { cls := .type "dict", data := .dict #[] }) Q E s :=
  wpAny_alloc (q s.heap.objs.size _ (I.hok.fresh (Nat.le_refl _)) (I.laid (a := s.heap.objs.size) (o := .dK []) (t' := s.toks) (fun _ _ z => Heap.get?_push_of_some _ z) (Nat.le_refl _) (dk_empty s.heap I.big)))
theorem pe_star1 {pos : Pos} {e : Expr} {te : TE} {keys : List (Option Expr)} {values : List Expr} {trs : List (TE × TE)} (he : PE X e te) (h : PPs X pos keys values trs) (hall : keys.all (·.isSome) = true := by rfl) (hl : keys.length = values.length := by rfl) (h0 : keys ≠ [] := by exact List.cons_ne_nil _ _)
    (h15 : keys.length ≤ 15 := by decide) : PE X (.Dict (none :: keys) (e :: values) pos) (tStar1 te trs) := by
  refine ⟨fun pins s σ H Q I q => ?_⟩
  have hn := pairTrees_length keys values X.env pos hall hl
  have shape : (evalEachOpt (none :: keys) X.env).zip ((evalEach (e :: values) X.env).map fun v => do let x ← v; standAt pos; pure x) = (none, (do let x ← eval e X.env; standAt pos; pure x)) :: (pairTrees keys values X.env pos).map fun p => (some p.1, p.2) := by
    show (none, _) :: (evalEachOpt keys X.env).zip _ = _
    rw [zip_pairTrees keys values X.env pos hall hl]
  rw [arm_eval_Dict, shape, display_one _ _ (fun z => by rw [z] at hn; exact h0 (List.length_eq_zero_iff.mp hn.symm)) (by omega)]
  refine wpAny_bind (wpAny_standAt (wpAny_bind (new_dict I fun p s1 np I1 => wpAny_bind (wp_star (eval_back he I1 (q p np) fun u s2 x H1 I2 rx ⟨a, kvs, ex, ne, hp, ha, zk, q2⟩ => ?_)))))
  subst ex
  obtain rfl : u = Value.ref a := rx
  refine merge_at I2 ne.symm hp ha (sz_of (by simp; omega)) fun s3 I3 => wpAny_bind (wpAny_holding ?_)
  have nq := I3.hok.fresh (Nat.le_refl s3.heap.objs.size)
  have I4 := I3.laid (a := s3.heap.objs.size) (o := .dK []) (h' := s3.heap.push { cls := .type "dict", data := .dict #[] }) (t' := s3.toks) (fun _ _ z => Heap.get?_push_of_some _ z) (Nat.le_refl _) (dk_empty s3.heap I3.big)
  refine wpAny_subDict (knd := mixKind X.prog X.w) (by omega) (thn (h.run pins _ σ _ _ I4 (q2 _ nq)) fun ws s5 ⟨ps, H2, I5, rel, e5, qp, hp2, more, ep, lk, q5⟩ => ?_)
  subst ep
  obtain ⟨rs, c, rk⟩ := carries_of (P := X.prog) (w := X.w) rel
  obtain ⟨z, hd, vs0, r0, dd⟩ := dk_of I5.hok e5
  cases r0
  refine ⟨rs, c, dd, fun h' d' hs => ?_⟩
  have zm : (mergeK [] more).length ≤ 15 := by
    have h1 := length_mergeK more []
    simp at h1; omega
  have I6 := d_write (t' := s5.toks + ws.length) I5 (by rw [e5]; exact True.intro) hs (let ⟨q, _, _, hq, _⟩ := d'; ⟨q, hq⟩) (dk_new (sz_of (by omega)) hd (rk.merge .nil) d')
  have zk2 := length_mergeK kvs []
  refine wpAny_bind (wpAny_onRaise (wpAny_holding (merge_at I6 qp.symm (by rw [upd_ne (Ne.symm qp)]; exact hp2) (.inl upd_same) (sz_of (by simp at zk2; omega)) fun s7 I7 => wpAny_pure ⟨.ref p, _, I7, rfl, q5⟩)))
theorem pe_star2 {pos : Pos} {a b : Expr} {ta tb : TE} (ha : PE X a ta) (hb : PE X b tb) : PE X (.Dict [none, none] [a, b] pos) (tStar2 ta tb) := by
  refine ⟨fun pins s σ H Q I q => ?_⟩
  have shape : (evalEachOpt [none, none] X.env).zip ((evalEach [a, b] X.env).map fun v => do let x ← v; standAt pos; pure x) = [(none, (do let x ← eval a X.env; standAt pos; pure x)), (none, (do let x ← eval b X.env; standAt pos; pure x))] := rfl
  rw [arm_eval_Dict, shape, display_two]
  refine wpAny_bind (wpAny_standAt (wpAny_bind (new_dict I fun p s1 np I1 => wpAny_bind (wp_star (eval_back ha I1 (q p np) fun u s2 x H1 I2 rx ⟨c, kvs, ex, ne, hp, hc, zk, q2⟩ => ?_)))))
  subst ex
  obtain rfl : u = Value.ref c := rx
  refine merge_at I2 ne.symm hp hc (sz_of (by simp; omega)) fun s3 I3 => wpAny_bind (wp_star (eval_back hb I3 q2 fun u2 s4 y H2 I4 ry ⟨d, more, ey, ne2, hp2, hd2, zm, q4⟩ => ?_))
  subst ey
  obtain rfl : u2 = Value.ref d := ry
  have zk2 := length_mergeK kvs []
  exact merge_at I4 ne2.symm hp2 hd2 (sz_of (by simp at zk2; omega)) fun s5 I5 => wpAny_pure ⟨.ref p, _, I5, rfl, q4⟩
end
end VL
/-! VL, part WD: dict displays as functions on trees. -/
namespace VL
open PySem L2
/-! ### a new object that is filled while it stands reserved -/
section
variable {G : Gam} {R : Addr → Prop} {E : WX} {σ : L2.St} {H H' : Hp} {Os Os' : Nat → List Addr} {ρ ρ' : VEnv} {Q : VK} {O : List Addr} {v : Val} {p : Addr} {o0 o1 : HO}
theorem Rel.fresh (rel : Rel G R H σ ρ Os) (hp : H p = none) : ¬ We Os p := fun z => let ⟨o, e⟩ := rel.we z; by rw [hp] at e; cases e
theorem Rel.root0 (rel : Rel G R H σ ρ Os) (hp : H p = none) : Rel G (fun a => R a ∨ a = p) (upd H p o0) σ ρ Os :=
  rel.grow (same_upd hp) (fun a z => z.imp id fun (z : a = p) => by rw [z]; exact hp) fun a z => by
    rcases z with z | z
    · obtain ⟨o, e⟩ := rel.rt a z
      exact ⟨o, same_upd hp a o e⟩
    · rw [z]; exact ⟨_, upd_same⟩
theorem keep_root {O' : Addr → Prop} (hp : H p = none) (k : KeepE (upd H p o0) Os H' Os' O') : ∀ a o, H a = some o → ¬ We Os a → (H' a = some o ∧ ¬ We Os' a ∧ ¬ O' a) ∧ a ≠ p := fun a o e nw => ⟨k a o (same_upd hp a o e) nw, ne_of_none e hp⟩
theorem root_end {pu : Bool} (hp : H p = none) (post : Post G R E σ H Os pu true ρ Q (.ok v ρ')) (rel : Rel G (fun a => (R a ∨ a = p) ∨ a ∈ O) H' σ ρ' Os') (nd : (p :: O).Nodup) (keep : KeepE H Os H' Os' fun a => a ∈ O)
    (rep : Rep G (WW (fun a => (R a ∨ a = p) ∨ a ∈ O) Os') (upd H' p o1) (.ref p) v (p :: O)) (pure : pu = true → ρ' = ρ ∧ Os' = Os ∧ Same H H') : Q (.ref p) (upd H' p o1) := by
  have hw : ∀ a, Rp R true (p :: O) a → (R a ∨ a = p) ∨ a ∈ O := fun a z => by
    rcases z with z | ⟨_, z⟩
    · exact .inl (.inl z)
    · rcases List.mem_cons.mp z with z | z
      · exact .inl (.inr z)
      · exact .inr z
  refine post (.ref p) _ Os' (p :: O) ((rel.chg (.inl (.inr rfl))).weak hw) (rep.mono (fun a o e nw => ⟨e, fun z => nw (z.imp (hw a) id)⟩) fun _ _ _ e => e) (fun _ => nd) (fun a o e nw => ?_) fun z => ?_
  · obtain ⟨e1, n1, n2⟩ := keep a o e nw
    have ne := ne_of_none e hp
    refine ⟨by rw [upd_ne ne]; exact e1, n1, fun z => ?_⟩
    rcases List.mem_cons.mp z.2 with z | z
    · exact ne z
    · exact n2 z
  · obtain ⟨a1, a2, a3⟩ := pure z
    exact ⟨a1, a2, fun a o e => by rw [upd_ne (ne_of_none e hp)]; exact a3 a o e⟩
/-- what is held stays, at a heap in which p is written -/
theorem Reps.other {W : Addr → Prop} {xs : List V} {vs : List Val} (q : Reps G W H' xs vs O) (hW : W p) (hO : p ∉ O) : Reps G W (L2.upd H' p o1) xs vs O :=
  q.mono (fun a o e nw => ⟨by rw [upd_ne (show a ≠ p from fun z => nw (z ▸ hW))]; exact e, nw⟩) fun a ha o e => by rw [upd_ne (show a ≠ p from fun z => hO (z ▸ ha))]; exact e
end

/-! ### dicts as lists of pairs -/
abbrev DL := List (Val × Val)
def putD (d : DL) (k v : Val) : DL := if (d.any fun q => decide (q.1 = k)) = true then d.map (fun q => if q.1 = k then (q.1, v) else q) else d ++ [(k, v)]
def mergeD (d e : DL) : DL := e.foldl (fun acc q => putD acc q.1 q.2) d
def dctOf (d : DL) : Val := .dct true .k (d.map (·.1)) (d.map (·.2))
structure KRel (G : Gam) (W : Addr → Prop) (H : Hp) (kvs : List (Key × V)) (d : DL) : Prop where
  ks : d.map (·.1) = kvs.map fun q => ofKey q.1
  vs : Reps G W H (kvs.map (·.2)) (d.map (·.2)) []
section
variable {G : Gam} {W : Addr → Prop} {H : Hp}
theorem KRel.any {kvs : List (Key × V)} {d : DL} (r : KRel G W H kvs d) (k : Key) : (d.any fun q => decide (q.1 = ofKey k)) = kvs.any fun q => decide (q.1 = k) := by
  have e := r.ks
  have h : ∀ (d : DL) (kvs : List (Key × V)), d.map (·.1) = kvs.map (fun q => ofKey q.1) → (d.any fun q => decide (q.1 = ofKey k)) = kvs.any fun q => decide (q.1 = k) := by
    intro d
    induction d with
    | nil => intro kvs e; cases kvs with | nil => rfl | cons _ _ => cases e
    | cons p d ih =>
      intro kvs e
      cases kvs with
      | nil => cases e
      | cons q kvs =>
        simp only [List.map_cons, List.cons.injEq] at e
        rw [List.any_cons, List.any_cons, ih kvs e.2, e.1]
        congr 1
        by_cases h : q.1 = k
        · simp [h]
        · have h' : ¬ ofKey q.1 = ofKey k := fun z => h (ofKey_inj z)
          simp [h, h']
  exact h d kvs e
theorem KRel.put {kvs : List (Key × V)} {d : DL} (r : KRel G W H kvs d) (k : Key) {x : V} {v : Val} (rx : Rep G W H x v []) : KRel G W H (putK kvs k x) (putD d (ofKey k) v) := by
  unfold putK putD
  rw [r.any k]
  by_cases a : (kvs.any fun q => decide (q.1 = k)) = true
  · rw [if_pos a, if_pos a]
    obtain ⟨e, rv⟩ := r
    clear a
    induction d generalizing kvs with
    | nil => cases kvs with
      | nil => exact ⟨rfl, .nil⟩
      | cons _ _ => cases e
    | cons p d ih => cases kvs with
      | nil => cases e
      | cons q kvs =>
        simp only [List.map_cons, List.cons.injEq] at e rv
        obtain ⟨y, ys, e1, r1, r2⟩ := rv.inv0
        simp only [List.cons.injEq] at e1
        obtain ⟨rfl, rfl⟩ := e1
        obtain ⟨i1, i2⟩ := ih e.2 r2
        refine ⟨?_, ?_⟩
        · simp only [List.map_cons]
          congr 1
          rw [e.1]
          by_cases h : q.1 = k
          · rw [if_pos h, if_pos (by rw [h])]
          · rw [if_neg h, if_neg fun z => h (ofKey_inj z)]; exact e.1
        · simp only [List.map_cons]
          refine .cons (O := []) (O' := []) ?_ i2
          rw [e.1]
          by_cases h : q.1 = k
          · rw [if_pos h, if_pos (by rw [h])]; exact rx
          · rw [if_neg h, if_neg fun z => h (ofKey_inj z)]; exact r1
  · rw [if_neg a, if_neg a]
    refine ⟨by simp [r.ks], ?_⟩
    simp only [List.map_append, List.map_cons, List.map_nil]
    exact r.vs.append (.cons (O := []) (O' := []) rx .nil)
theorem KRel.merge : ∀ {more : List (Key × V)} {e : DL} {kvs : List (Key × V)} {d : DL}, KRel G W H more e → KRel G W H kvs d → KRel G W H (mergeK kvs more) (mergeD d e)
  | [], [], _, _, _, r => r
  | [], _ :: _, _, _, q, _ => by have := q.ks; simp at this
  | _ :: _, [], _, _, q, _ => by have := q.ks; simp at this
  | p :: more, (k, v) :: e, kvs, d, q, r => by
    have h1 := q.ks
    have h2 := q.vs
    simp only [List.map_cons, List.cons.injEq] at h1 h2
    obtain ⟨x, xs, e1, r1, r2⟩ := h2.inv0
    simp only [List.cons.injEq] at e1
    obtain ⟨rfl, rfl⟩ := e1
    obtain ⟨h3, h4⟩ := h1
    subst h3
    exact KRel.merge (more := more) (e := e) ⟨h4, r2⟩ (r.put p.1 r1)
theorem KRel.mono {W' : Addr → Prop} {H' : Hp} {kvs : List (Key × V)} {d : DL} (r : KRel G W H kvs d) (k : Keep W H W' H') : KRel G W' H' kvs d := ⟨r.ks, r.vs.mono k fun _ z => nomatch z⟩
theorem zip_maps : ∀ {ks vs : List Val}, ks.length = vs.length → (ks.zip vs).map (·.1) = ks ∧ (ks.zip vs).map (·.2) = vs
  | [], [], _ => ⟨rfl, rfl⟩
  | [], _ :: _, h => by simp at h
  | _ :: _, [], h => by simp at h
  | k :: ks, v :: vs, h => by
    obtain ⟨h1, h2⟩ := zip_maps (ks := ks) (vs := vs) (by simpa using h)
    simp [h1, h2]
/-- a dict that is read: its pairs -/
theorem rep_dk {x : V} {o : Bool} {ks vs : List Val} {O : List Addr} (r : Rep G W H x (.dct o .k ks vs) O) (hf : fzs vs = true) : ∃ a kvs, x = .ref a ∧ Rd H a (.dK kvs) ∧ KRel G W H kvs (ks.zip vs) ∧ ks.length = vs.length ∧ kvs.length = ks.length := by
  have key : ∀ {a : Addr} {kvs : List (Key × V)} {O' : List Addr}, Rd H a (.dK kvs) → ks = kvs.map (fun q => ofKey q.1) → Reps G W H (kvs.map (·.2)) vs O' → ∃ a' kvs, (V.ref a) = .ref a' ∧ Rd H a' (.dK kvs) ∧ KRel G W H kvs (ks.zip vs) ∧ ks.length = vs.length ∧ kvs.length = ks.length := by
    intro a kvs O' h hk q
    have hl : ks.length = vs.length := by
      have := q.length
      rw [List.length_map] at this
      rw [hk, List.length_map, this]
    obtain ⟨z1, z2⟩ := zip_maps hl
    exact ⟨a, kvs, rfl, h, ⟨by rw [z1, hk], by rw [z2]; exact q.fz hf⟩, hl, by rw [hk, List.length_map]⟩
  cases r with
  | dkO h hk q => exact key (.inl h) hk q
  | dkF h hk q => exact key h.1 hk q
theorem merge_new : ∀ {more acc : List (Key × V)}, ((acc ++ more).map (·.1)).Nodup → mergeK acc more = acc ++ more
  | [], acc, _ => by simp [mergeK]
  | p :: more, acc, h => by
    have hn : valV acc p.1 = none := by
      cases e : valV acc p.1 with
      | none => rfl
      | some y =>
        have a := valV_any p.1 acc
        rw [e] at a
        obtain ⟨q, hq, hq2⟩ := List.any_eq_true.mp a
        rw [List.map_append, List.map_cons] at h
        exact absurd (of_decide_eq_true hq2) (List.nodup_append.mp h |>.2.2 q.1 (List.mem_map.mpr ⟨q, hq, rfl⟩) p.1 List.mem_cons_self)
    show mergeK (putK acc p.1 p.2) more = _
    rw [putK_new p.2 hn, merge_new (by simpa using h)]
    simp
end

/-! ### the displays -/
def trsOf (G : Gam) (E : WX) (l : List (Str × Op)) : List (TE × TE) := l.map fun q => (tC (.str q.1), rd G E q.2.p q.2.s q.2.m)
def VD (G : Gam) (X : Cx) (E : WX) (pos : Pos) (keys : List (Option Expr)) (values : List Expr) (l : List (Str × Op)) : Prop := PPs X pos keys values (trsOf G E l)
def mDct (ns : List Str) (ms : List ME) : ME := fun ρ => match evalM ms ρ with
  | .ok vs ρ' => .ok (.dct true .k (ns.map Val.str) vs) ρ'
  | .exc e ρ' => .exc e ρ'
  | .bad => .bad
/-- a dict whose values nobody changes: its pairs -/
def dlOf : Val → Option DL
  | .dct false .k ks vs => if fzs vs = true ∧ ks.length ≤ 1000 then some (ks.zip vs) else none
  | _ => none
def mDctS (m : ME) (ns : List Str) (ms : List ME) : ME := fun ρ => match m ρ with
  | .ok v ρ1 => (match dlOf v with
    | some d => (match evalM ms ρ1 with
      | .ok us ρ2 => if fzs us = true then .ok (dctOf (mergeD (mergeD [] d) (mergeD [] ((ns.map Val.str).zip us)))) ρ2 else .bad
      | .exc e ρ2 => .exc e ρ2
      | .bad => .bad)
    | none => .bad)
  | .exc e ρ1 => .exc e ρ1
  | .bad => .bad
def mDct2 (m1 m2 : ME) : ME := fun ρ => match m1 ρ with
  | .ok v ρ1 => (match dlOf v with
    | some d => (match m2 ρ1 with
      | .ok u ρ2 => (match dlOf u with
        | some e => .ok (dctOf (mergeD (mergeD [] d) e)) ρ2
        | none => .bad)
      | .exc e ρ2 => .exc e ρ2
      | .bad => .bad)
    | none => .bad)
  | .exc e ρ1 => .exc e ρ1
  | .bad => .bad
section
variable {G : Gam} {X : Cx} {E : WX} {pos : Pos} {keys : List (Option Expr)} {values : List Expr} {l : List (Str × Op)} {k e a b : Expr} {p s p2 s2 : Bool} {m m2 : ME} {x : Str}
theorem vd_nil : VD G X E pos [] [] [] := pps_nil
theorem vd_cons (hk : PE X k (tC (.str x))) (h : VE G X E p s e m) (t : VD G X E pos keys values l) : VD G X E pos (some k :: keys) (e :: values) ((x, ⟨p, s, m⟩) :: l) := pps_cons hk h t
theorem tPairs_of : ∀ {l : List (Str × Op)} {σ : L2.St} {H : Hp} {K : List (V × V) → Hp → Prop}, nest G E (l.map (·.2)) σ H (fun xs H' => K ((l.map fun q => V.str q.1).zip xs) H') → tPairs (trsOf G E l) σ H K
  | [], σ, H, K, h => h
  | q :: l, σ, H, K, h => rd_mono h fun x H1 h1 => tPairs_of (l := l) h1
def kvsOf (l : List (Str × Op)) (xs : List V) : List (Key × V) := (l.map fun q => (Sum.inr q.1 : Key)).zip xs
theorem kvs_maps : ∀ {l : List (Str × Op)} {xs : List V}, xs.length = l.length → (l.map fun q => V.str q.1).zip xs = (kvsOf l xs).map (fun kv => (kV kv.1, kv.2)) ∧ (kvsOf l xs).map (·.2) = xs ∧ (kvsOf l xs).map (·.1) = l.map (fun q => (Sum.inr q.1 : Key)) ∧ (kvsOf l xs).length = l.length
  | [], [], _ => ⟨rfl, rfl, rfl, rfl⟩
  | [], _ :: _, h => by simp at h
  | _ :: _, [], h => by simp at h
  | q :: l, x :: xs, h => by
    obtain ⟨h1, h2, h3, h4⟩ := kvs_maps (l := l) (xs := xs) (by simpa using h)
    unfold kvsOf at h1 h2 h3 h4 ⊢
    simp only [List.map_cons, List.zip_cons_cons, h2, h3, List.length_cons, h4, h1]
    exact ⟨rfl, trivial, trivial, trivial⟩
theorem nodup_inr : ∀ {l : List (Str × Op)}, (l.map (·.1)).Nodup → (l.map fun q => (Sum.inr q.1 : Key)).Nodup
  | [], _ => List.nodup_nil
  | q :: l, h => by
    simp only [List.map_cons, List.nodup_cons] at h ⊢
    refine ⟨fun z => h.1 ?_, nodup_inr h.2⟩
    obtain ⟨r, hr, e⟩ := List.mem_map.mp z
    exact List.mem_map.mpr ⟨r, hr, by simpa using e⟩
theorem ve_dct (h : VD G X E pos keys values l) (hs : (l.map (·.2)).all (·.s) = true := by rfl) (nd : (l.map (·.1)).Nodup := by decide +kernel) (hall : keys.all (·.isSome) = true := by rfl) (hl : keys.length = values.length := by rfl) (h0 : keys ≠ [] := by exact List.cons_ne_nil _ _) (h15 : keys.length ≤ 15 := by decide) (hlen : l.length ≤ 15 := by decide) :
    VE G X E ((l.map (·.2)).all (·.p)) true (.Dict keys values pos) (mDct (l.map (·.1)) ((l.map (·.2)).map Op.m)) := by
  refine PE.pre (pe_disp h hall hl h0 h15) fun σ H Q ⟨R, ρ, Os, rel, post⟩ p hp => tPairs_of (nest_of (wf_all hs) (rel.root0 (o0 := .dK []) hp) ?_)
  rw [evalA_eq]
  unfold mDct at post
  cases he : evalM ((l.map (·.2)).map Op.m) ρ with
  | bad => rw [he] at post; exact post
  | exc e ρ' =>
    rw [he] at post
    intro c d H' Os' rel' rx k
    refine post c d H' Os' (rel'.weak fun a z => .inl z) (rx.mono fun a o e nw => ⟨e, fun z => nw (z.imp .inl id)⟩) fun a o e nw => ?_
    exact (keep_root hp k a o e nw).1
  | ok vs ρ' =>
    rw [he] at post
    intro xs H' Os' Ol rel' reps nd' keep pure
    have hlen2 := reps.len
    have hv := evalM_len he
    rw [List.length_map, List.length_map] at hv
    obtain ⟨g1, g2, g3, g4⟩ := kvs_maps (l := l) (xs := xs) (hlen2.1.trans hv)
    have es := stab_all (os := l.map (·.2)) hs (by rw [List.length_map, ← hv]; exact hlen2.2)
    rw [es] at rel' nd' keep reps
    have hpp := keep p _ upd_same (rel.fresh hp)
    refine ⟨hpp.1, kvsOf l xs, g1, by rw [g4]; exact hlen, ?_⟩
    rw [merge_new (acc := []) (by rw [List.nil_append, g3]; exact nodup_inr nd), List.nil_append]
    refine root_end hp post rel' (List.nodup_cons.mpr ⟨hpp.2.2, nd'⟩) (fun a o e nw => keep a o (same_upd hp a o e) nw) (.dkO upd_same (by have g5 := congrArg (List.map ofKey) g3; simpa [List.map_map, Function.comp_def, ofKey] using g5.symm) (by rw [g2]; exact reps.reps.other (.inl (.inl (.inr rfl))) hpp.2.2)) fun z => let ⟨a1, a2, a3⟩ := pure (by simpa using z); ⟨a1, a2, fun a o e => a3 a o (same_upd hp a o e)⟩
theorem dl_of {W : Addr → Prop} {H : Hp} {x : V} {v : Val} {O : List Addr} {d : DL} (r : Rep G W H x v O) (h : dlOf v = some d) : ∃ a kvs, x = .ref a ∧ Rd H a (.dK kvs) ∧ ¬ W a ∧ KRel G W H kvs d ∧ kvs.length ≤ 1000 := by
  unfold dlOf at h
  split at h
  · split at h
    · rename_i hf
      cases h
      obtain ⟨a, kvs, e1, e2, e3, e4, e5⟩ := rep_dk r hf.1
      refine ⟨a, kvs, e1, e2, ?_, e3, by rw [e5]; exact hf.2⟩
      subst e1
      cases r with
      | dkF h _ _ => exact h.2
    · cases h
  · cases h
theorem ve_dctS (hd : VE G X E p s e m) (h : VD G X E pos keys values l) (hs : (l.map (·.2)).all (·.s) = true := by rfl) (hall : keys.all (·.isSome) = true := by rfl) (hl : keys.length = values.length := by rfl) (h0 : keys ≠ [] := by exact List.cons_ne_nil _ _) (h15 : keys.length ≤ 15 := by decide) (hlen : l.length ≤ 15 := by decide) :
    VE G X E (p && (l.map (·.2)).all (·.p)) true (.Dict (none :: keys) (e :: values) pos) (mDctS m (l.map (·.1)) ((l.map (·.2)).map Op.m)) := by
  refine PE.pre (pe_star1 hd h hall hl h0 h15) fun σ H Q ⟨R, ρ, Os, rel, post⟩ z hz => ⟨fun a => R a ∨ a = z, ρ, Os, rel.root0 (o0 := .dK []) hz, ?_⟩
  unfold mDctS at post
  cases hm : m ρ with
  | bad => rw [hm] at post; exact post
  | exc e ρ' =>
    rw [hm] at post
    intro c d H' Os' rel' rx k
    exact post c d H' Os' (rel'.weak fun a z => .inl z) (rx.mono fun a o e nw => ⟨e, fun z => nw (z.imp .inl id)⟩) fun a o e nw => (keep_root hz k a o e nw).1
  | ok v ρ1 =>
    rw [hm] at post
    dsimp only at post
    intro x H1 Os1 O1 rel1 rep1 _ keep1 pure1
    cases hdl : dlOf v with
    | none => rw [hdl] at post; exact post.elim
    | some d =>
    rw [hdl] at post
    dsimp only at post
    obtain ⟨a, kvs, ex, ea, na, kr, kl⟩ := dl_of rep1 hdl
    have hz1 := keep1 z _ upd_same (rel.fresh hz)
    have hzW : WW (Rp (fun a => R a ∨ a = z) s O1) Os1 z := .inl (.inl (.inr rfl))
    refine ⟨a, kvs, ex, fun q => na (q ▸ hzW), hz1.1, ea, kl, fun q hq => ?_⟩
    have rel2 : Rel G (fun a => R a ∨ a = z) (upd H1 z (.dK (mergeK [] kvs))) σ ρ1 Os1 := (rel1.weak fun a w => .inl w).chg (.inr rfl)
    have krm : KRel G (WW (fun a => R a ∨ a = z) Os1) (upd H1 z (.dK (mergeK [] kvs))) kvs d := kr.mono fun b o e nw => ⟨by rw [upd_ne (show b ≠ z from fun w => nw (w ▸ hzW))]; exact e, fun w => nw (w.imp .inl id)⟩
    have qz : q ≠ z := fun w => by rw [w, upd_same] at hq; cases hq
    have nq1 : H1 q = none := by rw [upd_ne qz] at hq; exact hq
    refine tPairs_of (nest_of (wf_all hs) (rel2.root0 (o0 := .dK []) hq) ?_)
    rw [evalA_eq]
    cases he : evalM ((l.map (·.2)).map Op.m) ρ1 with
    | bad => rw [he] at post; exact post
    | exc e ρ' =>
      rw [he] at post
      intro c d' H' Os' rel' rx k
      refine post c d' H' Os' (rel'.weak fun a w => .inl (.inl w)) (rx.mono fun a o e nw => ⟨e, fun w => nw (w.imp (fun w => .inl (.inl w)) id)⟩) fun b o e nw => ?_
      obtain ⟨⟨e1, n1, _⟩, n3⟩ := keep_root hz keep1 b o e nw
      exact (keep_root hq k b o (by rw [upd_ne n3]; exact e1) n1).1
    | ok vs ρ' =>
      rw [he] at post
      dsimp only at post
      by_cases hf : fzs vs = true
      rotate_left
      · rw [if_neg hf] at post; exact post.elim
      rw [if_pos hf] at post
      intro xs H' Os' Ol rel' reps nd' keep pure
      have hlen2 := reps.len
      have hv := evalM_len he
      rw [List.length_map, List.length_map] at hv
      obtain ⟨g1, g2, g3, g4⟩ := kvs_maps (l := l) (xs := xs) (hlen2.1.trans hv)
      have es := stab_all (os := l.map (·.2)) hs (by rw [List.length_map, ← hv]; exact hlen2.2)
      have hOl : Ol.flatten = [] := reps.reps.none_of_fz hf
      rw [es, hOl] at rel' keep reps
      have hqq := keep q _ upd_same (rel2.fresh hq)
      have hzz := keep z _ (by rw [upd_ne qz.symm]; exact upd_same) hz1.2.1
      refine ⟨hqq.1, qz, hzz.1, kvsOf l xs, g1, by rw [g4]; exact hlen, ?_⟩
      have kw : Keep (WW (fun a => R a ∨ a = z) Os1) (upd H1 z (.dK (mergeK [] kvs))) (WW (fun a => R a ∨ a = z) Os') (upd (upd H' q (.dK (mergeK [] (kvsOf l xs)))) z (.dK (mergeK (mergeK [] kvs) (mergeK [] (kvsOf l xs))))) := fun b o e nw => by
        have b1 : b ≠ z := fun w => nw (.inl (.inr w))
        have b2 := ne_of_none e hq
        obtain ⟨c1, c2, _⟩ := keep b o (same_upd hq b o e) fun w => nw (.inr w)
        exact ⟨by rw [upd_ne b1, upd_ne b2]; exact c1, fun w => w.elim (fun w => nw (.inl w)) c2⟩
      have kr1 := krm.mono kw
      have kr2 : KRel G (WW (fun a => R a ∨ a = z) Os') (upd (upd H' q (.dK (mergeK [] (kvsOf l xs)))) z (.dK (mergeK (mergeK [] kvs) (mergeK [] (kvsOf l xs))))) (kvsOf l xs) (((l.map (·.1)).map Val.str).zip vs) := by
        have hz2 := zip_maps (ks := (l.map (·.1)).map Val.str) (vs := vs) (by simp [hv])
        have rx : Reps G (WW (fun a => R a ∨ a = z) Os') (upd (upd H' q (.dK (mergeK [] (kvsOf l xs)))) z (.dK (mergeK (mergeK [] kvs) (mergeK [] (kvsOf l xs))))) xs vs [] := by
          refine (reps.reps.fz hf).mono (fun b o e nw => ⟨?_, fun w => nw ?_⟩) fun _ w => nomatch w
          · have b1 : b ≠ z := fun w => nw (.inl (.inl (.inl (.inr w))))
            have b2 : b ≠ q := fun w => nw (.inl (.inl (.inr w)))
            rw [upd_ne b1, upd_ne b2]; exact e
          · exact w.imp (fun w => .inl (.inl w)) id
        refine ⟨by rw [hz2.1]; have g5 := congrArg (List.map ofKey) g3; simpa [List.map_map, Function.comp_def, ofKey] using g5.symm, by rw [hz2.2, g2]; exact rx⟩
      have nilr : ∀ {W : Addr → Prop} {H : Hp}, KRel G W H [] [] := ⟨rfl, .nil⟩
      have kr3 := KRel.merge (KRel.merge kr2 nilr) (KRel.merge kr1 nilr)
      refine root_end (O := []) (R := R) (H' := upd H' q (.dK (mergeK [] (kvsOf l xs)))) hz post (((rel'.weak (R' := fun a => (R a ∨ a = z) ∨ a = q) fun a w => .inl w).chg (D := q) (.inr rfl)).weak fun a w => .inl (w.elim id fun w => nomatch w)) (by simp) (fun b o e nw => ?_) (.dkO upd_same kr3.ks (kr3.vs.mono (fun b o e nw => ⟨e, fun w => nw (w.imp (fun w => w.elim id fun w => nomatch w) id)⟩) fun _ w => nomatch w)) fun w => ?_
      · obtain ⟨⟨e1, n1, _⟩, bz⟩ := keep_root hz keep1 b o e nw
        obtain ⟨c1, c2, _⟩ := keep b o (same_upd hq b o (by rw [upd_ne bz]; exact e1)) n1
        exact ⟨by rw [upd_ne (ne_of_none e1 nq1)]; exact c1, c2, fun w => nomatch w⟩
      · simp only [Bool.and_eq_true] at w
        obtain ⟨a1, a2, a3⟩ := pure1 w.1
        obtain ⟨b1, b2, b3⟩ := pure (by simpa using w.2)
        refine ⟨b1.trans a1, b2.trans a2, fun b o e => ?_⟩
        have bz := ne_of_none e hz
        have e1 := a3 b o (same_upd hz b o e)
        rw [upd_ne (ne_of_none e1 nq1)]
        exact b3 b o (same_upd hq b o (by rw [upd_ne bz]; exact e1))
theorem ve_dct2 (ha : VE G X E p s a m) (hb : VE G X E p2 s2 b m2) : VE G X E (p && p2) true (.Dict [none, none] [a, b] pos) (mDct2 m m2) := by
  refine PE.pre (pe_star2 ha hb) fun σ H Q ⟨R, ρ, Os, rel, post⟩ z hz => ⟨fun a => R a ∨ a = z, ρ, Os, rel.root0 (o0 := .dK []) hz, ?_⟩
  unfold mDct2 at post
  cases hm : m ρ with
  | bad => rw [hm] at post; exact post
  | exc e ρ' =>
    rw [hm] at post
    intro c d H' Os' rel' rx k
    exact post c d H' Os' (rel'.weak fun a z => .inl z) (rx.mono fun a o e nw => ⟨e, fun z => nw (z.imp .inl id)⟩) fun a o e nw => (keep_root hz k a o e nw).1
  | ok v ρ1 =>
    rw [hm] at post
    dsimp only at post
    intro x H1 Os1 O1 rel1 rep1 _ keep1 pure1
    cases hdl : dlOf v with
    | none => rw [hdl] at post; exact post.elim
    | some d =>
    rw [hdl] at post
    dsimp only at post
    obtain ⟨a, kvs, ex, ea, na, kr, kl⟩ := dl_of rep1 hdl
    have hz1 := keep1 z _ upd_same (rel.fresh hz)
    have hzW : WW (Rp (fun a => R a ∨ a = z) s O1) Os1 z := .inl (.inl (.inr rfl))
    refine ⟨a, kvs, ex, fun q => na (q ▸ hzW), hz1.1, ea, kl, ?_⟩
    have rel2 : Rel G (fun a => R a ∨ a = z) (upd H1 z (.dK (mergeK [] kvs))) σ ρ1 Os1 := (rel1.weak fun a w => .inl w).chg (.inr rfl)
    have krm : KRel G (WW (fun a => R a ∨ a = z) Os1) (upd H1 z (.dK (mergeK [] kvs))) kvs d := kr.mono fun b o e nw => ⟨by rw [upd_ne (show b ≠ z from fun w => nw (w ▸ hzW))]; exact e, fun w => nw (w.imp .inl id)⟩
    refine ⟨fun a => R a ∨ a = z, ρ1, Os1, rel2, ?_⟩
    cases he : m2 ρ1 with
    | bad => rw [he] at post; exact post
    | exc e ρ' =>
      rw [he] at post
      intro c d' H' Os' rel' rx k
      refine post c d' H' Os' (rel'.weak fun a w => .inl w) (rx.mono fun a o e nw => ⟨e, fun w => nw (w.imp .inl id)⟩) fun b o e nw => ?_
      obtain ⟨⟨e1, n1, _⟩, n3⟩ := keep_root hz keep1 b o e nw
      exact k b o (by rw [upd_ne n3]; exact e1) n1
    | ok u ρ' =>
      rw [he] at post
      dsimp only at post
      intro y H' Os' O2 rel' rep2 _ keep2 pure2
      cases hdl2 : dlOf u with
      | none => rw [hdl2] at post; exact post.elim
      | some d2 =>
      rw [hdl2] at post
      dsimp only at post
      obtain ⟨b, more, ey, eb, nb, kr2, ml⟩ := dl_of rep2 hdl2
      have hzz := keep2 z _ upd_same hz1.2.1
      have hzW2 : WW (Rp (fun a => R a ∨ a = z) s2 O2) Os' z := .inl (.inl (.inr rfl))
      refine ⟨b, more, ey, fun q => nb (q ▸ hzW2), hzz.1, eb, ml, ?_⟩
      have nilr : ∀ {W : Addr → Prop} {H : Hp}, KRel G W H [] [] := ⟨rfl, .nil⟩
      have kr1 : KRel G (WW (fun a => R a ∨ a = z) Os') (upd H' z (.dK (mergeK (mergeK [] kvs) more))) kvs d := krm.mono fun c o e nw => by
        have c1 : c ≠ z := fun w => nw (.inl (.inr w))
        obtain ⟨e1, n1, _⟩ := keep2 c o e fun w => nw (.inr w)
        exact ⟨by rw [upd_ne c1]; exact e1, fun w => w.elim (fun w => nw (.inl w)) n1⟩
      have kr3 : KRel G (WW (fun a => R a ∨ a = z) Os') (upd H' z (.dK (mergeK (mergeK [] kvs) more))) more d2 := kr2.mono fun c o e nw => ⟨by rw [upd_ne (show c ≠ z from fun w => nw (w ▸ hzW2))]; exact e, fun w => nw (w.imp .inl id)⟩
      have kr4 := KRel.merge kr3 (KRel.merge kr1 nilr)
      refine root_end (O := []) (R := R) (H' := H') hz post (rel'.weak fun a w => .inl (w.elim id fun w => nomatch w)) (by simp) (fun b o e nw => ?_) (.dkO upd_same kr4.ks (kr4.vs.mono (fun b o e nw => ⟨e, fun w => nw (w.imp (fun w => w.elim id fun w => nomatch w) id)⟩) fun _ w => nomatch w)) fun w => ?_
      · obtain ⟨⟨e1, n1, _⟩, bz⟩ := keep_root hz keep1 b o e nw
        obtain ⟨c1, c2, _⟩ := keep2 b o (by rw [upd_ne bz]; exact e1) n1
        exact ⟨c1, c2, fun w => nomatch w⟩
      · simp only [Bool.and_eq_true] at w
        obtain ⟨a1, a2, a3⟩ := pure1 w.1
        obtain ⟨b1, b2, b3⟩ := pure2 w.2
        refine ⟨b1.trans a1, b2.trans a2, fun b o e => ?_⟩
        have bz := ne_of_none e hz
        exact b3 b o (by rw [upd_ne bz]; exact a3 b o (same_upd hz b o e))
end
end VL
/-! VL, part WE: changes deep within what a name holds. -/
namespace VL
open PySem L2
/-- a step into a value: an attribute (of an object of these classes), a text key of a dict -/
inductive Stp where
  | f (cs : List Nat) (n : Str) | k (z : Str)
  deriving DecidableEq
def idxL (x : Val) : List Val → Nat → Option Nat
  | [], _ => none
  | y :: ys, j => if y = x then some j else idxL x ys (j + 1)
def idxS (x : Str) : List Str → Nat → Option Nat
  | [], _ => none
  | y :: ys, j => if y = x then some j else idxS x ys (j + 1)
def stepV : Stp → Val → Option Nat
  | .f cs n, .obj true c fs _ => if c ∈ cs then idxS n fs 0 else none
  | .k z, .dct true .k ks _ => idxL (.str z) ks 0
  | _, _ => none
def kids : Val → List Val
  | .obj _ _ _ xs => xs
  | .dct _ _ _ xs => xs
  | _ => []
def withKids (v : Val) (xs : List Val) : Val := match v with
  | .obj o c fs _ => .obj o c fs xs
  | .dct o d ks _ => .dct o d ks xs
  | v => v
def getP : List Stp → Val → Option Val
  | [], v => some v
  | s :: r, v => match stepV s v with
    | some j => (match (kids v)[j]? with
      | some u => getP r u
      | none => none)
    | none => none
def setP : List Stp → Val → Val → Val
  | [], _, w => w
  | s :: r, v, w => match stepV s v with
    | some j => (match (kids v)[j]? with
      | some u => withKids v ((kids v).set j (setP r u w))
      | none => v)
    | none => v
def Nav (K : PySem.W.Frag) (H : Hp) : List Stp → V → V → Prop
  | [], x, y => x = y
  | .f _ n :: r, x, y => ∃ a C dx fs z, x = .ref a ∧ H a = some (.ins C dx fs) ∧ Cls K C ∧ NoAttr K C n ∧ fs.lookup n = some z ∧ Nav K H r z y
  | .k s :: r, x, y => ∃ a kvs z, x = .ref a ∧ H a = some (.dK kvs) ∧ valV kvs (.inr s) = some z ∧ Nav K H r z y
theorem Nav.app {K : PySem.W.Frag} {H : Hp} {y : V} : ∀ {r r' : List Stp} {x : V}, Nav K H (r ++ r') x y → ∃ z, Nav K H r x z ∧ Nav K H r' z y
  | [], r', x, h => ⟨x, rfl, h⟩
  | .f cs n :: r, r', x, ⟨a, C, dx, fs, z, h1, h2, h3, h4, h5, h6⟩ => by
    obtain ⟨u, g1, g2⟩ := Nav.app (r := r) h6
    exact ⟨u, ⟨a, C, dx, fs, z, h1, h2, h3, h4, h5, g1⟩, g2⟩
  | .k s :: r, r', x, ⟨a, kvs, z, h1, h2, h3, h4⟩ => by
    obtain ⟨u, g1, g2⟩ := Nav.app (r := r) h4
    exact ⟨u, ⟨a, kvs, z, h1, h2, h3, g1⟩, g2⟩
/-- e is what lies behind these steps from the name in the slot i -/
def tNav (K : PySem.W.Frag) (i : Nat) (r : List Stp) : TE := fun σ H Q => ∃ x y, σ[i]? = some (some x) ∧ Nav K H r x y ∧ Q y H
section
variable {G : Gam} {X : Cx} {o : Expr} {i : Nat} {r : List Stp} {pos : Pos}
theorem tn_root (h : PE X o (tVar i)) : PE X o (tNav X.K i []) := PE.pre h fun σ H Q ⟨x, y, h1, h2, q⟩ => ⟨x, h1, by cases h2; exact q⟩
theorem tn_f {cs : List Nat} {f : Str} (h : PE X o (tNav X.K i r)) (hb : attributeBase o f X.env (eval o X.env) = eval o X.env := by rfl) : PE X (.Attribute o f pos) (tNav X.K i (r ++ [.f cs f])) :=
  PE.pre (pe_fld h hb) fun σ H Q ⟨x, y, h1, h2, q⟩ => by
    obtain ⟨z, g1, a, C, dx, fs, u, e1, e2, e3, e4, e5, e6⟩ := Nav.app h2
    exact ⟨x, z, h1, g1, a, C, dx, fs, u, e1, e2, e3, e4, e5, by cases e6; exact q⟩
theorem tn_k {e : Expr} {z : Str} (h : PE X o (tNav X.K i r)) (hu : X.A.units + 1 < cLine) (hk : PE X e (tC (.str z))) (hs : NoSl e := by exact fun _ _ => rfl) : PE X (.Subscript o e pos) (tNav X.K i (r ++ [.k z])) :=
  PE.pre (pe_dget hu h hk hs) fun σ H Q ⟨x, y, h1, h2, q⟩ => by
    obtain ⟨w, g1, a, kvs, u, e1, e2, e3, e4⟩ := Nav.app h2
    cases e4
    exact ⟨x, w, h1, g1, a, y, e1, .inl ⟨kvs, .inr z, .inl e2, rfl, e3.symm⟩, q⟩
end
section
variable {G : Gam} {W : Addr → Prop} {H : Hp}
theorem idxS_get {x : Str} : ∀ {ys : List Str} {j k : Nat}, idxS x ys j = some k → j ≤ k ∧ ys[k - j]? = some x ∧ ∀ l, l < k - j → ys[l]? ≠ some x
  | [], j, k, h => by cases h
  | y :: ys, j, k, h => by
    unfold idxS at h
    by_cases e : y = x
    · rw [if_pos e] at h
      cases h
      exact ⟨Nat.le_refl _, by simp [e], fun l hl => by omega⟩
    · rw [if_neg e] at h
      obtain ⟨h1, h2, h3⟩ := idxS_get h
      have e1 : k - j = (k - (j + 1)) + 1 := by omega
      refine ⟨by omega, by rw [e1]; simpa using h2, fun l hl => ?_⟩
      cases l with
      | zero => simpa using e
      | succ l => simpa using h3 l (by omega)
theorem idxL_get {x : Val} : ∀ {ys : List Val} {j k : Nat}, idxL x ys j = some k → j ≤ k ∧ ys[k - j]? = some x ∧ ∀ l, l < k - j → ys[l]? ≠ some x
  | [], j, k, h => by cases h
  | y :: ys, j, k, h => by
    unfold idxL at h
    by_cases e : y = x
    · rw [if_pos e] at h
      cases h
      exact ⟨Nat.le_refl _, by simp [e], fun l hl => by omega⟩
    · rw [if_neg e] at h
      obtain ⟨h1, h2, h3⟩ := idxL_get h
      have e1 : k - j = (k - (j + 1)) + 1 := by omega
      refine ⟨by omega, by rw [e1]; simpa using h2, fun l hl => ?_⟩
      cases l with
      | zero => simpa using e
      | succ l => simpa using h3 l (by omega)
theorem look_idx {n : Str} : ∀ {fs : List (Str × V)} {j : Nat} {x : V}, (fs.map (·.1))[j]? = some n → (∀ l, l < j → (fs.map (·.1))[l]? ≠ some n) → (fs.map (·.2))[j]? = some x → fs.lookup n = some x
  | [], j, x, h, _, _ => by simp at h
  | (g, y) :: fs, 0, x, h, _, hx => by
    simp at h hx
    subst h; subst hx
    simp [List.lookup]
  | (g, y) :: fs, j + 1, x, h, hl, hx => by
    have e : ¬ g = n := by simpa using hl 0 (by omega)
    show (match n == g with | true => some y | false => fs.lookup n) = some x
    rw [beq_false_of_ne fun z => e z.symm]
    exact look_idx (j := j) (by simpa using h) (fun l h' => by simpa using hl (l + 1) (by omega)) (by simpa using hx)
theorem val_idx {k : Key} : ∀ {kvs : List (Key × V)} {j : Nat} {x : V}, (kvs.map fun q => ofKey q.1)[j]? = some (ofKey k) → (∀ l, l < j → (kvs.map fun q => ofKey q.1)[l]? ≠ some (ofKey k)) → (kvs.map (·.2))[j]? = some x → valV kvs k = some x
  | [], j, x, h, _, _ => by simp at h
  | (g, y) :: fs, 0, x, h, _, hx => by
    simp at h hx
    subst hx
    exact valV_pos (p := (g, y)) (ofKey_inj h)
  | (g, y) :: fs, j + 1, x, h, hl, hx => by
    have e : ¬ g = k := fun z => hl 0 (by omega) (by simp [z])
    rw [valV_neg (p := (g, y)) e]
    exact val_idx (j := j) (by simpa using h) (fun l h' => by simpa using hl (l + 1) (by omega)) (by simpa using hx)
/-- the object at the root of a value: its address, its children -/
theorem set_same {α : Type} {xs : List α} {j : Nat} {x : α} (h : xs[j]? = some x) : xs.set j x = xs := by
  apply List.ext_getElem?
  intro k
  by_cases e : j = k
  · subst e; rw [List.getElem?_set_self (List.getElem?_eq_some_iff.mp h).1, h]
  · rw [List.getElem?_set_ne e]
/-- down the steps: what lies there, and what the whole is once that is exchanged -/
theorem Rep.path {K : PySem.W.Frag} : ∀ {r : List Stp} {x : V} {v w : Val} {O : List Addr}, (∀ cs n, Stp.f cs n ∈ r → FldF G K cs n) → Rep G W H x v O → getP r v = some w →
    ∃ y O1 Ow O2, Nav K H r x y ∧ Rep G W H y w Ow ∧ O = O1 ++ (Ow ++ O2) ∧
      ∀ W' H' w' Ow', (∀ z u Oz, (∀ a ∈ Oz, a ∈ O1 ++ O2) → Rep G W H z u Oz → Rep G W' H' z u Oz) → (∀ a ∈ O1, ∀ o, H a = some o → H' a = some o) → Rep G W' H' y w' Ow' → Rep G W' H' x (setP r v w') (O1 ++ (Ow' ++ O2))
  | [], x, v, w, O, _, rep, h => by
    cases h
    exact ⟨x, [], O, [], rfl, rep, by simp, fun W' H' w' Ow' _ _ q => by simpa [setP] using q⟩
  | s :: r, x, v, w, O, F, rep, h => by
    unfold getP at h
    cases hs : stepV s v with
    | none => rw [hs] at h; cases h
    | some j =>
    rw [hs] at h
    dsimp only at h
    cases hu : (kids v)[j]? with
    | none => rw [hu] at h; cases h
    | some u =>
    rw [hu] at h
    dsimp only at h
    have fin : setP (s :: r) v = fun w' => withKids v ((kids v).set j (setP r u w')) := funext fun w' => by rw [setP, hs]; simp only [hu]
    cases s with
    | f cs n =>
      cases v with
      | obj ow c fs xs =>
        cases ow with
        | false => cases hs
        | true =>
          have hs' : (if c ∈ cs then idxS n fs 0 else none) = some j := hs
          by_cases hc : c ∈ cs
          rotate_left
          · rw [if_neg hc] at hs'; cases hs'
          rw [if_pos hc] at hs'
          obtain ⟨_, i1, i2⟩ := idxS_get hs'
          rw [Nat.sub_zero] at i1 i2
          obtain ⟨a, C, dx, gs, P, rfl, rfl, ea, hC, rfl, reps⟩ := rep_objO rep
          obtain ⟨z, O1, Oi, O2, e1, e2, rz, set⟩ := reps.set hu
          obtain ⟨y, P1, Ow, P2, nav, rw', e3, set2⟩ := Rep.path (fun cs n h => F cs n (List.mem_cons_of_mem _ h)) rz h
          obtain ⟨f1, f2⟩ := F cs n List.mem_cons_self c hc C hC
          refine ⟨y, a :: (O1 ++ P1), Ow, P2 ++ O2, ⟨a, C, dx, gs, z, rfl, ea, f1, f2, look_idx i1 i2 e1, nav⟩, rw', by rw [e2, e3]; simp [List.append_assoc], fun W' H' w' Ow' tr stay q => ?_⟩
          rw [fin]
          have q2 := set2 W' H' w' Ow' (fun z u Oz hz => tr z u Oz fun b hb => by
            rcases List.mem_append.mp (hz b hb) with q | q
            · exact List.mem_append_left _ (List.mem_cons_of_mem _ (List.mem_append_right _ q))
            · exact List.mem_append_right _ (List.mem_append_left _ q)) (fun b hb => stay b (List.mem_cons_of_mem _ (List.mem_append_right _ hb))) q
          have q3 := set W' H' z _ _ (fun z u Oz hz => tr z u Oz fun b hb => by
            rcases List.mem_append.mp (hz b hb) with q | q
            · exact List.mem_append_left _ (List.mem_cons_of_mem _ (List.mem_append_left _ q))
            · exact List.mem_append_right _ (List.mem_append_right _ q)) q2
          rw [set_same e1] at q3
          have q4 : Rep G W' H' (.ref a) (.obj true c (gs.map (·.1)) (xs.set j (setP r u w'))) (a :: (O1 ++ ((P1 ++ (Ow' ++ P2)) ++ O2))) := .objO (stay a List.mem_cons_self _ ea) hC rfl q3
          simpa [withKids, kids, List.append_assoc] using q4
      | _ => cases hs
    | k zz =>
      cases v with
      | dct ow dk ks xs =>
        cases ow with
        | false => cases hs
        | true =>
          cases dk with
          | k =>
            have hs' : idxL (.str zz) ks 0 = some j := hs
            obtain ⟨_, i1, i2⟩ := idxL_get hs'
            rw [Nat.sub_zero] at i1 i2
            cases rep with
            | @dkO a kvs _ _ P ea hk reps =>
            subst hk
            obtain ⟨z, O1, Oi, O2, e1, e2, rz, set⟩ := reps.set hu
            obtain ⟨y, P1, Ow, P2, nav, rw', e3, set2⟩ := Rep.path (fun cs n h => F cs n (List.mem_cons_of_mem _ h)) rz h
            refine ⟨y, a :: (O1 ++ P1), Ow, P2 ++ O2, ⟨a, kvs, z, rfl, ea, val_idx (k := .inr zz) i1 i2 e1, nav⟩, rw', by rw [e2, e3]; simp [List.append_assoc], fun W' H' w' Ow' tr stay q => ?_⟩
            rw [fin]
            have q2 := set2 W' H' w' Ow' (fun z u Oz hz => tr z u Oz fun b hb => by
              rcases List.mem_append.mp (hz b hb) with q | q
              · exact List.mem_append_left _ (List.mem_cons_of_mem _ (List.mem_append_right _ q))
              · exact List.mem_append_right _ (List.mem_append_left _ q)) (fun b hb => stay b (List.mem_cons_of_mem _ (List.mem_append_right _ hb))) q
            have q3 := set W' H' z _ _ (fun z u Oz hz => tr z u Oz fun b hb => by
              rcases List.mem_append.mp (hz b hb) with q | q
              · exact List.mem_append_left _ (List.mem_cons_of_mem _ (List.mem_append_left _ q))
              · exact List.mem_append_right _ (List.mem_append_right _ q)) q2
            rw [set_same e1] at q3
            have q4 : Rep G W' H' (.ref a) (.dct true .k (kvs.map fun q => ofKey q.1) (xs.set j (setP r u w'))) (a :: (O1 ++ ((P1 ++ (Ow' ++ P2)) ++ O2))) := .dkO (stay a List.mem_cons_self _ ea) rfl q3
            simpa [withKids, kids, List.append_assoc] using q4
          | _ => cases hs
      | _ => cases hs
/-- an object deep within what a name holds is written anew -/
theorem Rel.deep {R : Addr → Prop} {H : Hp} {σ : L2.St} {ρ : VEnv} {Os : Nat → List Addr} {O P' : List Addr} {i : Nat} {v w : Val} {x : V} {b : Addr} {ob' : HO} (rel : Rel G (fun a => R a ∨ a ∈ O) H σ ρ Os) (nO : ∀ a ∈ O, ¬ R a) (hv : ρ[i]? = some (some v)) (hx : σ[i]? = some (some x))
    (bin : b ∈ Os i) (hP : ∀ c ∈ P', c ∈ Os i ∨ c ∈ O) (nd : P'.Nodup)
    (mk : (∀ z u Oz, (∀ c ∈ Oz, (c ∈ Os i ∨ c ∈ O) ∧ c ≠ b) → Rep G (WW (fun a => R a ∨ a ∈ O) Os) H z u Oz → Rep G (WW R (fun j => if j = i then P' else Os j)) (upd H b ob') z u Oz) → Rep G (WW R (fun j => if j = i then P' else Os j)) (upd H b ob') x w P') :
    Rel G R (upd H b ob') σ (ρ.set i (some w)) (fun j => if j = i then P' else Os j) ∧ ∀ c o, H c = some o → ¬ We Os c → ¬ c ∈ O → upd H b ob' c = some o ∧ ¬ We (fun j => if j = i then P' else Os j) c := by
  have bO : b ∉ O := fun z => rel.dr i b bin (.inr z)
  have we : ∀ c, We (fun j => if j = i then P' else Os j) c → We Os c ∨ c ∈ O := fun c ⟨j, z⟩ => by
    by_cases hj : j = i
    · simp only [hj, if_true] at z; exact (hP c z).imp (fun z => ⟨i, z⟩) id
    · simp only [hj, if_false] at z; exact .inl ⟨j, z⟩
  have kp : Keep (WW (fun a => R a ∨ a ∈ O) Os) H (WW R (fun j => if j = i then P' else Os j)) (upd H b ob') := fun c o e nw => by
    refine ⟨(upd_ne (show c ≠ b from fun z => nw (.inr ⟨i, by rw [z]; exact bin⟩))).trans e, fun z => ?_⟩
    rcases z with z | z
    · exact nw (.inl (.inl z))
    · exact (we c z).elim (fun z => nw (.inr z)) fun z => nw (.inl (.inr z))
  have hi : i < ρ.length := (List.getElem?_eq_some_iff.mp hv).1
  refine ⟨⟨by rw [List.length_set]; exact rel.len, fun j u hu => ?_, fun j hj => ?_, fun j => ?_, fun j k c hb hb' => ?_, fun j c hb z => ?_, fun c z => ?_⟩, fun c o e nw nO => ⟨(upd_ne (show c ≠ b from fun z => nw ⟨i, by rw [z]; exact bin⟩)).trans e, fun z => (we c z).elim nw nO⟩⟩
  · by_cases h : j = i
    · subst h
      rw [List.getElem?_set_self hi] at hu
      cases hu
      refine ⟨x, hx, ?_⟩
      show Rep G _ _ _ _ (if j = j then P' else Os j)
      rw [if_pos rfl]
      exact mk fun z u Oz hz r => r.mono kp fun c hc o e => by rw [upd_ne (hz c hc).2]; exact e
    · rw [List.getElem?_set_ne (Ne.symm h)] at hu
      obtain ⟨y, e, r⟩ := rel.rep j u hu
      refine ⟨y, e, ?_⟩
      show Rep G _ _ _ _ (if j = i then P' else Os j)
      rw [if_neg h]
      exact r.mono kp fun c hc o e => (upd_ne (show c ≠ b from fun z => h (rel.dj j i b (by rw [← z]; exact hc) bin))).trans e
  · by_cases h : j = i
    · subst h; exact absurd (List.getElem?_set_self hi) (hj w)
    · simp only [h, if_false]
      exact rel.nil j fun u hu => hj u (by rw [List.getElem?_set_ne (Ne.symm h)]; exact hu)
  · by_cases h : j = i
    · simp only [h, if_true]; exact nd
    · simp only [h, if_false]; exact rel.nd j
  · by_cases h : j = i <;> by_cases h' : k = i
    · rw [h, h']
    · simp only [h, h', if_true, if_false] at hb hb'
      exact (hP c hb).elim (fun z => absurd (rel.dj k i c hb' z) h') fun z => absurd (.inr z) (rel.dr k c hb')
    · simp only [h, h', if_true, if_false] at hb hb'
      exact (hP c hb').elim (fun z => absurd (rel.dj j i c hb z) h) fun z => absurd (.inr z) (rel.dr j c hb)
    · simp only [h, h', if_false] at hb hb'; exact rel.dj j k c hb hb'
  · by_cases h : j = i
    · simp only [h, if_true] at hb
      exact (hP c hb).elim (fun q => rel.dr i c q (.inl z)) fun q => nO c q z
    · simp only [h, if_false] at hb; exact rel.dr j c hb (.inl z)
  · by_cases h : c = b
    · subst h; exact ⟨_, upd_same⟩
    · rw [upd_ne h]; exact rel.rt c (.inl z)
/-- .. at the end of these steps: the object there is exchanged for one that holds what it held, or what O has, or what is frozen -/
theorem Rel.at_path {K : PySem.W.Frag} {R : Addr → Prop} {H : Hp} {σ : L2.St} {ρ : VEnv} {Os : Nat → List Addr} {O : List Addr} {i : Nat} {r : List Stp} {v w : Val} (rel : Rel G (fun a => R a ∨ a ∈ O) H σ ρ Os) (nO : ∀ a ∈ O, ¬ R a) (ndO : O.Nodup) (F : ∀ cs n, Stp.f cs n ∈ r → FldF G K cs n)
    (hv : ρ[i]? = some (some v)) (hg : getP r v = some w) :
    ∃ x y Ow, σ[i]? = some (some x) ∧ Nav K H r x y ∧ Rep G (WW (fun a => R a ∨ a ∈ O) Os) H y w Ow ∧ Ow.Nodup ∧ (∀ c ∈ Ow, c ∈ Os i) ∧
      ∀ b ob' w' P, y = .ref b → b ∈ Ow → (b :: P).Nodup → (∀ c ∈ P, c ∈ Ow ∨ c ∈ O) →
        (∀ W', (∀ z u Oz, (∀ c ∈ Oz, (c ∈ Ow ∨ c ∈ O) ∧ c ≠ b) → Rep G (WW (fun a => R a ∨ a ∈ O) Os) H z u Oz → Rep G W' (upd H b ob') z u Oz) → Rep G W' (upd H b ob') y w' (b :: P)) →
        ∃ Os', Rel G R (upd H b ob') σ (ρ.set i (some (setP r v w'))) Os' ∧ ∀ c o, H c = some o → ¬ We Os c → ¬ c ∈ O → upd H b ob' c = some o ∧ ¬ We Os' c := by
  obtain ⟨x, hx, rep⟩ := rel.rep i v hv
  obtain ⟨y, O1, Ow, O2, nav, rw', e, set⟩ := Rep.path F rep hg
  have hnd := rel.nd i
  rw [e] at hnd
  obtain ⟨n1, n2, n3⟩ := List.nodup_append.mp hnd
  obtain ⟨n4, n5, n6⟩ := List.nodup_append.mp n2
  have sub : ∀ c ∈ Ow, c ∈ Os i := fun c hc => by rw [e]; exact List.mem_append_right _ (List.mem_append_left _ hc)
  refine ⟨x, y, Ow, hx, nav, rw', n4, sub, fun b ob' w' P hy hb ndP hP mk => ?_⟩
  have inO : ∀ c ∈ b :: P, c ∈ Ow ∨ c ∈ O := fun c hc => by
    rcases List.mem_cons.mp hc with z | z
    · exact .inl (z ▸ hb)
    · exact hP c z
  have dj : ∀ c, c ∈ Os i → c ∉ O := fun c hc z => rel.dr i c hc (.inr z)
  have nd' : (O1 ++ ((b :: P) ++ O2)).Nodup := by
    refine List.nodup_append.mpr ⟨n1, List.nodup_append.mpr ⟨ndP, n5, fun a ha c hc q => ?_⟩, fun a ha c hc q => ?_⟩
    · subst q
      exact (inO a ha).elim (fun z => n6 a z a hc rfl) fun z => dj a (by rw [e]; exact List.mem_append_right _ (List.mem_append_right _ hc)) z
    · subst q
      rcases List.mem_append.mp hc with z | z
      · exact (inO a z).elim (fun z => n3 a ha a (List.mem_append_left _ z) rfl) fun z => dj a (by rw [e]; exact List.mem_append_left _ ha) z
      · exact n3 a ha a (List.mem_append_right _ z) rfl
  have hd := Rel.deep (P' := O1 ++ ((b :: P) ++ O2)) (ob' := ob') (w := setP r v w') rel nO hv hx (sub b hb) (fun c hc => by
    rcases List.mem_append.mp hc with z | z
    · exact .inl (by rw [e]; exact List.mem_append_left _ z)
    · rcases List.mem_append.mp z with z | z
      · exact (inO c z).imp (sub c) id
      · exact .inl (by rw [e]; exact List.mem_append_right _ (List.mem_append_right _ z))) nd' fun tr => by
    refine set _ _ w' (b :: P) (fun z u Oz hz q => tr z u Oz (fun c hc => ?_) q) (fun a ha o ea => ?_) (mk _ fun z u Oz hz q => tr z u Oz (fun c hc => ⟨(hz c hc).1.imp (sub c) id, (hz c hc).2⟩) q)
    · rcases List.mem_append.mp (hz c hc) with z | z
      · exact ⟨.inl (by rw [e]; exact List.mem_append_left _ z), fun q => n3 c z c (List.mem_append_left _ (q ▸ hb)) rfl⟩
      · exact ⟨.inl (by rw [e]; exact List.mem_append_right _ (List.mem_append_right _ z)), fun q => n6 c (q ▸ hb) c z rfl⟩
    · rw [upd_ne (show a ≠ b from fun q => n3 a ha a (List.mem_append_left _ (q ▸ hb)) rfl)]; exact ea
  exact ⟨_, hd.1, hd.2⟩
end
end VL
/-! VL, part WF: append, extend, pop at the end of steps; d[k] = v there. -/
namespace VL
open PySem L2
def mPath (i : Nat) (r : List Stp) : ME := fun ρ => match ρ[i]? with
  | some (some v) => (match getP r v with
    | some w => .ok w ρ
    | none => .bad)
  | _ => .bad
/-- what is done to a list at the end of the steps -/
def mLop (i : Nat) (r : List Stp) (f : List Val → Val → Option (List Val)) (m : ME) : ME := fun ρ => match ρ[i]? with
  | some (some v) => (match getP r v with
    | some (.lst true ys) => (match m ρ with
      | .ok u _ => (match f ys u with
        | some zs => .ok .non (ρ.set i (some (setP r v (.lst true zs))))
        | none => .bad)
      | .exc e ρ1 => .exc e ρ1
      | .bad => .bad)
    | _ => .bad)
  | _ => .bad
def fApp (ys : List Val) (u : Val) : Option (List Val) := if ys.length < 16777216 then some (ys ++ [u]) else none
def fExt (ys : List Val) (u : Val) : Option (List Val) := match u with
  | .lst _ us => if fzs us = true ∧ ys.length + us.length ≤ 16777216 then some (ys ++ us) else none
  | _ => none
section
variable {G : Gam} {X : Cx} {E : WX} {o e : Expr} {i : Nat} {r : List Stp} {pos apos : Pos} {p s : Bool} {m : ME}
def StpF (G : Gam) (K : PySem.W.Frag) (r : List Stp) : Prop := ∀ cs n, Stp.f cs n ∈ r → FldF G K cs n
theorem stpF_nil {K : PySem.W.Frag} : StpF G K [] := fun _ _ h => nomatch h
theorem stpF_f {K : PySem.W.Frag} {cs : List Nat} {n : Str} (h : StpF G K r) (f : FldF G K cs n) : StpF G K (r ++ [.f cs n]) := fun cs' n' z => by
  rcases List.mem_append.mp z with z | z
  · exact h cs' n' z
  · cases List.mem_singleton.mp z; exact f
theorem stpF_k {K : PySem.W.Frag} {z : Str} (h : StpF G K r) : StpF G K (r ++ [.k z]) := fun cs' n' w => by
  rcases List.mem_append.mp w with w | w
  · exact h cs' n' w
  · cases List.mem_singleton.mp w
theorem ve_path (hF : StpF G X.K r) (ho : PE X o (tNav X.K i r)) : VE G X E true false o (mPath i r) := by
  refine PE.pre ho fun σ H Q ⟨R, ρ, Os, rel, post⟩ => ?_
  unfold mPath at post
  split at post
  · rename_i v hv
    split at post
    · rename_i w hg
      obtain ⟨x, hx, rep⟩ := rel.rep i v hv
      obtain ⟨y, O1, Ow, O2, nav, rw', _, _⟩ := Rep.path hF rep hg
      refine ⟨x, y, hx, nav, post y H Os Ow (rel.weak fun a z => z.elim id fun z => by cases z.1) (rw'.mono (fun a o e nw => ⟨e, fun z => nw (z.imp (fun z => z.elim id fun z => by cases z.1) id)⟩) fun _ _ _ e => e) (fun z => by cases z) (KeepE.refl.imp fun a z => by cases z.1) fun _ => ⟨rfl, rfl, fun _ _ e => e⟩⟩
    · exact post.elim
  · exact post.elim
theorem Nav.same {K : PySem.W.Frag} {H H' : Hp} {y : V} (sm : Same H H') : ∀ {r : List Stp} {x : V}, Nav K H r x y → Nav K H' r x y
  | [], x, h => h
  | .f cs n :: r, x, ⟨a, C, dx, fs, z, h1, h2, h3, h4, h5, h6⟩ => ⟨a, C, dx, fs, z, h1, sm _ _ h2, h3, h4, h5, Nav.same sm h6⟩
  | .k s :: r, x, ⟨a, kvs, z, h1, h2, h3, h4⟩ => ⟨a, kvs, z, h1, sm _ _ h2, h3, Nav.same sm h4⟩
theorem Nav.det {K : PySem.W.Frag} {H : Hp} {y y' : V} : ∀ {r : List Stp} {x : V}, Nav K H r x y → Nav K H r x y' → y = y'
  | [], x, h, h' => by cases h; cases h'; rfl
  | .f cs n :: r, x, ⟨a, C, dx, fs, z, h1, h2, h3, h4, h5, h6⟩, ⟨a', C', dx', fs', z', g1, g2, g3, g4, g5, g6⟩ => by
    rw [h1] at g1; cases g1
    rw [h2] at g2; cases g2
    rw [h5] at g5; cases g5
    exact Nav.det h6 g6
  | .k s :: r, x, ⟨a, kvs, z, h1, h2, h3, h4⟩, ⟨a', kvs', z', g1, g2, g3, g4⟩ => by
    rw [h1] at g1; cases g1
    rw [h2] at g2; cases g2
    rw [h3] at g3; cases g3
    exact Nav.det h4 g4
/-- what a method of lists does, on trees -/
def LopOk (G : Gam) (rr : V → List V → Hp → VK → Prop) (f : List Val → Val → Option (List Val)) : Prop :=
  ∀ (W : Addr → Prop) H b xs ys O u y Ou zs, H b = some (.lst xs) → Reps G W H xs ys O → Rep G W H y u Ou → (b :: O).Nodup → Ou.Nodup → (∀ a ∈ b :: O, a ∉ Ou) → f ys u = some zs →
    ∃ xs' P, (∀ Q, Q .non (upd H b (.lst xs')) → rr (.ref b) [y] H Q) ∧ P.Nodup ∧ (∀ c ∈ P, c ∈ O ∨ c ∈ Ou) ∧ ∀ W' H', (∀ z u Oz, (∀ c ∈ Oz, c ∈ O ∨ c ∈ Ou) → Rep G W H z u Oz → Rep G W' H' z u Oz) → Reps G W' H' xs' zs P
theorem sameO {P : Prop} (h : P) : P := h
/-- a list at the end of the steps is changed by a method with one argument that changes nothing by itself -/
theorem lop_pre {f : List Val → Val → Option (List Val)} {rr : V → List V → Hp → VK → Prop} {σ : L2.St} {H : Hp} {Q : VK} (hF : StpF G X.K r) (ok : LopOk G rr f)
    (h : rd G E false true (mLop i r f m) σ H Q) : tNav X.K i r σ H fun x H1 => tyV X.K "list" x H1 ∧ rd G E true true m σ H1 fun y H2 => rr x [y] H2 Q := by
  obtain ⟨R, ρ, Os, rel, post⟩ := h
  unfold mLop at post
  split at post
  rotate_left
  · exact post.elim
  rename_i v hv
  split at post
  rotate_left
  · exact post.elim
  rename_i ys hg
  have e0 : (fun a => R a ∨ a ∈ ([] : List Addr)) = R := setEq fun a => ⟨fun z => z.elim id (fun z => nomatch z), Or.inl⟩
  obtain ⟨x, y, Ow, hx, nav, rw', _, _, _⟩ := Rel.at_path (O := []) (e0.symm ▸ rel) (fun _ z => nomatch z) List.nodup_nil hF hv hg
  obtain ⟨b, xs, ey, eb⟩ : ∃ b xs, y = .ref b ∧ H b = some (.lst xs) := by
    cases rw' with
    | lstO h q => exact ⟨_, _, rfl, h⟩
  refine ⟨x, y, hx, nav, ?_, R, ρ, Os, rel, ?_⟩
  · subst ey
    exact .inl ⟨rfl, xs, .inl (.inl eb)⟩
  cases hm : m ρ with
  | bad => rw [hm] at post; exact post
  | exc e ρ1 => rw [hm] at post; exact post
  | ok u ρ1 =>
    rw [hm] at post
    dsimp only at post
    cases hf : f ys u with
    | none => rw [hf] at post; exact post.elim
    | some zs =>
    rw [hf] at post
    dsimp only at post
    intro y2 H2 Os2 Ou rel2 rep2 nd2 keep2 pure2
    obtain ⟨rfl, rfl, same⟩ := pure2 rfl
    have e1 : Rp R true Ou = fun a => R a ∨ a ∈ Ou := setEq fun a => ⟨fun z => z.imp id fun z => z.2, fun z => z.imp id fun z => ⟨rfl, z⟩⟩
    rw [e1] at rel2 rep2
    have nO : ∀ a ∈ Ou, ¬ R a := fun a ha z => by
      obtain ⟨o, ea, nw⟩ := rel.hr a z
      exact (keep2 a o ea nw).2.2 ⟨rfl, ha⟩
    obtain ⟨x', y', Ow2, hx', nav', rw2, ndw, sub, chg⟩ := Rel.at_path rel2 nO (nd2 rfl) hF hv hg
    rw [hx] at hx'
    cases hx'
    have ey' := Nav.det (nav.same same) nav'
    subst ey'
    subst ey
    cases rw2 with
    | @lstO _ xs2 _ P0 eb2 q =>
    have dj : ∀ a ∈ b :: P0, a ∉ Ou := fun a ha z => rel2.dr i a (sub a ha) (.inr z)
    obtain ⟨xs', P, run, ndP, hP, mk⟩ := ok _ H2 b xs2 ys P0 u y2 Ou zs eb2 q rep2 ndw (nd2 rfl) dj hf
    refine run Q ?_
    have ndb := List.nodup_cons.mp ndw
    obtain ⟨Os', r3, k3⟩ := chg b (.lst xs') (.lst true zs) P rfl List.mem_cons_self (List.nodup_cons.mpr ⟨fun z => (hP b z).elim ndb.1 fun z => dj b List.mem_cons_self z, ndP⟩) (fun c hc => (hP c hc).imp (List.mem_cons_of_mem _) id) fun W' tr =>
      .lstO upd_same (mk W' _ fun z u Oz hz => tr z u Oz fun c hc => ⟨(hz c hc).imp (List.mem_cons_of_mem _) id, fun w => (hz c hc).elim (fun z => ndb.1 (w ▸ z)) fun z => dj b List.mem_cons_self (w ▸ z)⟩)
    refine post .non _ Os' [] (r3.weak fun a z => z.elim id fun z => nomatch z.2) .non (fun _ => List.nodup_nil) (fun a o ea nw => ?_) fun z => by cases z
    obtain ⟨e2, n1, n2⟩ := keep2 a o ea nw
    obtain ⟨e3, n3⟩ := k3 a o e2 n1 fun z => n2 ⟨rfl, z⟩
    exact ⟨e3, n3, fun z => nomatch z.2⟩
theorem ok_app : LopOk G rAppend fApp := by
  intro W H b xs ys O u y Ou zs eb q ry nd ndu dj hf
  unfold fApp at hf
  split at hf
  · rename_i hl
    cases hf
    have ndO := (List.nodup_cons.mp nd).2
    refine ⟨xs ++ [y], O ++ Ou, fun Q h => ⟨b, xs, y, rfl, rfl, eb, by rw [q.length, sizeLine_eq]; exact hl, h⟩, List.nodup_append.mpr ⟨ndO, ndu, fun a ha c hc e => dj a (List.mem_cons_of_mem _ ha) (e ▸ hc)⟩, fun c hc => List.mem_append.mp hc, fun W' H' tr => ?_⟩
    have e : ∀ {xs : List V} {ys : List Val} {P : List Addr}, Reps G W H xs ys P → (∀ c ∈ P, c ∈ O) → Reps G W' H' xs ys P := by
      intro xs ys P r
      induction ys generalizing xs P with
      | nil => intro _; cases r; exact .nil
      | cons v vs ih =>
        intro hP
        cases r with
        | cons r t => exact .cons (tr _ _ _ (fun c hc => .inl (hP c (List.mem_append_left _ hc))) r) (ih t fun c hc => hP c (List.mem_append_right _ hc))
    have := (e q fun c hc => hc).append (.cons (tr _ _ _ (fun c hc => .inr hc) ry) .nil)
    simpa using this
  · cases hf
theorem ok_ext : LopOk G rExtend fExt := by
  intro W H b xs ys O u y Ou zs eb q ry nd ndu dj hf
  unfold fExt at hf
  split at hf
  · rename_i o us
    split at hf
    · rename_i hl
      cases hf
      obtain ⟨a, zs, O1, rfl, e1, q1⟩ := rep_lstL ry
      have q2 := q1.fz hl.1
      have ndO := (List.nodup_cons.mp nd).2
      refine ⟨xs ++ zs, O, fun Q h => ⟨b, a, xs, zs, rfl, rfl, eb, e1, by rw [q.length, q2.length, sizeLine_eq]; exact hl.2, h⟩, ndO, fun c hc => .inl hc, fun W' H' tr => ?_⟩
      have e : ∀ {xs : List V} {ys : List Val} {P : List Addr}, Reps G W H xs ys P → (∀ c ∈ P, c ∈ O) → Reps G W' H' xs ys P := by
        intro xs ys P r
        induction ys generalizing xs P with
        | nil => intro _; cases r; exact .nil
        | cons v vs ih =>
          intro hP
          cases r with
          | cons r t => exact .cons (tr _ _ _ (fun c hc => .inl (hP c (List.mem_append_left _ hc))) r) (ih t fun c hc => hP c (List.mem_append_right _ hc))
      simpa using (e q fun c hc => hc).append (e q2 fun c hc => nomatch hc)
    · cases hf
  · cases hf
theorem ve_app {o : Expr} (hF : StpF G X.K r) (ho : PE X o (tNav X.K i r)) (he : VE G X E true true e m) (hbase : attributeBase o "append" X.env (eval o X.env) = eval o X.env := by rfl)
    (hfew : ((backTo pos (starEach [e] X.env)).all (fun x => !x.1) && (backToKw pos (keywordEach [] X.env)).all (fun x => x.1.isSome) && decide (([e] : List Expr).length + ([] : List Keyword).length + (if ([] : List Keyword).isEmpty then 0 else 1) < 30)) = true := by rfl)
    (hline : (apos.endLine == pos.line) = true := by rfl) (hs : starEach [e] X.env = (false, eval e X.env) :: starEach [] X.env := by rfl) (hp : (backTo pos (starEach [] X.env)).any (·.1) = false := by rfl) : VE G X E false true (.Call (.Attribute o "append" apos) [e] [] pos) (mLop i r fApp m) :=
  PE.pre (pe_bm PySem.F.plainAttrs_list PySem.F.slot_list_append PySem.F.type_list_append mt_append ho (pa_cons he pa_nil hs) hbase hfew hline hs hp) fun σ H Q h => lop_pre hF ok_app h
theorem ve_ext {o : Expr} (hF : StpF G X.K r) (ho : PE X o (tNav X.K i r)) (he : VE G X E true true e m) (hbase : attributeBase o "extend" X.env (eval o X.env) = eval o X.env := by rfl)
    (hfew : ((backTo pos (starEach [e] X.env)).all (fun x => !x.1) && (backToKw pos (keywordEach [] X.env)).all (fun x => x.1.isSome) && decide (([e] : List Expr).length + ([] : List Keyword).length + (if ([] : List Keyword).isEmpty then 0 else 1) < 30)) = true := by rfl)
    (hline : (apos.endLine == pos.line) = true := by rfl) (hs : starEach [e] X.env = (false, eval e X.env) :: starEach [] X.env := by rfl) (hp : (backTo pos (starEach [] X.env)).any (·.1) = false := by rfl) : VE G X E false true (.Call (.Attribute o "extend" apos) [e] [] pos) (mLop i r fExt m) :=
  PE.pre (pe_bm PySem.F.plainAttrs_list PySem.F.slot_list_extend PySem.F.type_list_extend mt_extend ho (pa_cons he pa_nil hs) hbase hfew hline hs hp) fun σ H Q h => lop_pre hF ok_ext h
end
end VL
/-! VL, part WG: dict comprehensions (values that nobody changes). -/
namespace VL
open PySem L2
def dcL (g : MG) (tt km vm : ME) (own : List Nat) : List Val → DL → VEnv → RE
  | [], acc, ρ => .ok (dctOf acc) ρ
  | u :: us, acc, ρ => match g u ρ with
    | none => .bad
    | some ρ1 => match tt ρ1 with
      | .ok (.bl b) ρ2 => if b = true then (match km ρ2 with
        | .ok k ρ3 => (match vm ρ3 with
          | .ok v ρ4 => if isKey .k k = true ∧ v.fz = true ∧ acc.length < 1000000 then dcL g tt km vm own us (putD acc k v) (wipeV ρ4 own) else .bad
          | _ => .bad)
        | _ => .bad) else dcL g tt km vm own us acc (wipeV ρ2 own)
      | _ => .bad
def mDc (mi : MI) (g : MG) (tt km vm : ME) (own : List Nat) : ME := fun ρ => match mi ρ with
  | .ok us ρ1 => dcL g tt km vm own us [] (wipeV ρ1 own)
  | .exc e ρ' => .exc e ρ'
  | .bad => .bad
section
variable {G : Gam} {X : Cx} {E : WX} {p pk sk pv : Bool} {pos : Pos}
theorem KRel.len {W : Addr → Prop} {H : Hp} {kvs : List (Key × V)} {d : DL} (r : KRel G W H kvs d) : kvs.length = d.length := by
  have := congrArg List.length r.ks
  simpa using this.symm
theorem dc_reading {tg iter : Expr} {ow : List Nat} {n : Nat} {wi : TI} {mi : MI} {g : MG} {tt km vm : ME} {σ : L2.St} {H : Hp} {Q : VK} (hwi : wi = tI G E mi) (hlen : σ.length = n) (h : rd G E false true (mDc mi g tt km vm ow) σ H Q) :
    tDc wi (fun x σ H Q => ∃ σ0, tG G (pinsBut n ow) σ0 g x σ H Q) (tT G WF p tt) (rd G WF pk sk km) (rd G WF pv true vm) ow σ H Q := by
  subst hwi
  obtain ⟨R, ρ, Os, rel, post⟩ := h
  refine ⟨R, ρ, Os, rel, ?_⟩
  unfold mDc at post
  cases hm : mi ρ with
  | bad => rw [hm] at post; exact post
  | exc e ρ' => rw [hm] at post; exact post
  | ok us ρ1 =>
    rw [hm] at post
    dsimp only at post
    intro J H1 Os1 rel1 walk keep1 D hD
    obtain ⟨Osw, relw, wew⟩ := rel1.wipe ow
    let St := fun (i : Nat) (H' : Hp) => i ≤ us.length ∧ ∃ ρ2 Os2 acc kvs, Rel G (fun a => R a ∨ a = D) H' (L2.wipe σ ow) ρ2 Os2 ∧ H' D = some (.dK kvs) ∧ KRel G (WW (fun a => R a ∨ a = D) Os2) H' kvs acc ∧ KeepE H1 Os1 H' Os2 (fun a => a = D) ∧
      Post G R E σ H Os false true ρ Q (dcL g tt km vm ow (us.drop i) acc ρ2)
    refine ⟨fun i n H' => n = us.length - i ∧ St i H', ⟨us.length, by simp, Nat.zero_le _, wipeV ρ1 ow, Osw, [], [], relw.root0 hD, upd_same, ⟨rfl, .nil⟩, fun a o e nw => ⟨same_upd hD a o e, fun z => nw (wew a z), ne_of_none e hD⟩, by simpa using post⟩, ?_⟩
    rintro i n H' ⟨rfl, hile, ρ2, Os2, acc, kvs, rel2, hDx, kr, keep2, post2⟩
    have kw : Keep (WW R Os1) H1 (WW (fun a => R a ∨ a = D) Os2) H' := fun a o e nw => by
      obtain ⟨e1, n1, n2⟩ := keep2 a o e fun z => nw (.inr z)
      exact ⟨e1, fun z => z.elim (fun z => z.elim (fun z => nw (.inl z)) n2) n1⟩
    obtain ⟨hstop, hgo⟩ := walk _ _ kw i
    by_cases hlt : i < us.length
    rotate_left
    · refine .inl ⟨hstop (by omega), ?_⟩
      rw [List.drop_eq_nil_of_le (by omega)] at post2
      unfold dcL at post2
      have e0 : (fun a => R a ∨ a = D) = Rp R true [D] := setEq fun a => ⟨fun z => z.imp id fun z => ⟨rfl, List.mem_singleton.mpr z⟩, fun z => z.imp id fun z => List.mem_singleton.mp z.2⟩
      rw [e0] at rel2 kr
      refine post2 (.ref D) H' Os2 [D] rel2.unwipe (.dkO hDx kr.ks kr.vs) (fun _ => by simp) (fun a o e nw => ?_) fun z => by cases z
      obtain ⟨e1, n1, _⟩ := keep1 a o e nw
      obtain ⟨e2, n2, n3⟩ := keep2 a o e1 n1
      exact ⟨e2, n2, fun z => n3 (List.mem_singleton.mp z.2)⟩
    refine .inr ?_
    obtain ⟨go, yld⟩ := hgo us[i] (List.getElem?_eq_getElem hlt)
    refine ⟨go, St (i + 1), fun H3 h1 => ⟨us.length - (i + 1), by omega, rfl, h1⟩, fun x H'' y => ?_⟩
    obtain ⟨same, repw⟩ := yld x H'' y
    have rep := repw fun p hp => rel2.ww hp
    have rel3 : Rel G (fun a => R a ∨ a = D) H'' (L2.wipe σ ow) ρ2 Os2 := rel2.grow same (fun a z => .inl z) fun a z => let ⟨o, e⟩ := rel2.rt a z; ⟨o, same a o e⟩
    have keep3 : KeepE H1 Os1 H'' Os2 fun a => a = D := keep2.grow same fun a z => .inl z
    have hD3 := same D _ hDx
    have kr3 : KRel G (WW (fun a => R a ∨ a = D) Os2) H'' kvs acc := kr.mono fun a o e nw => ⟨same a o e, nw⟩
    rw [List.drop_eq_getElem_cons hlt] at post2
    unfold dcL at post2
    have e0 : (fun a => R a ∨ a = D) = fun a => (R a ∨ a = D) ∨ a ∈ ([] : List Addr) := setEq fun a => ⟨.inl, fun z => z.elim id fun z => nomatch z⟩
    refine ⟨L2.wipe σ ow, fun a => R a ∨ a = D, ρ2, Os2, us[i], [], e0 ▸ rel3, e0 ▸ rep, List.nodup_nil, fun a z => (nomatch z), fun _ _ => rfl, ?_⟩
    cases hgu : g us[i] ρ2 with
    | none => rw [hgu] at post2; exact post2
    | some ρ3 =>
    rw [hgu] at post2
    dsimp only at post2
    intro σ3 Os3 pin3 hl3 rel4 we4
    have hw : L2.wipe σ3 ow = L2.wipe σ ow := wipe_eq hlen (by rw [hl3, wipe_length]) pin3
    have keep4 : KeepE H1 Os1 H'' Os3 fun a => a = D := fun a o e nw => let ⟨e1, n1, n2⟩ := keep3 a o e nw; ⟨e1, fun z => (we4 a z).elim n1 (fun z => nomatch z), n2⟩
    have kr4 : KRel G (WW (fun a => R a ∨ a = D) Os3) H'' kvs acc := kr3.mono fun a o e nw => ⟨e, fun z => nw (z.imp id fun z => (we4 a z).elim id fun z => nomatch z)⟩
    refine ⟨hw, fun a => R a ∨ a = D, ρ3, Os3, rel4, ?_⟩
    /- what stays from one part to the next -/
    have go1 : ∀ {Ha Hb : Hp} {Osa Osb : Nat → List Addr} {ρa ρb : VEnv} {P : Addr → Prop}, Rel G (fun a => R a ∨ a = D) Ha σ3 ρa Osa → Ha D = some (.dK kvs) → KRel G (WW (fun a => R a ∨ a = D) Osa) Ha kvs acc → KeepE H1 Os1 Ha Osa (fun a => a = D) → Rel G (fun a => R a ∨ a = D) Hb σ3 ρb Osb → KeepE Ha Osa Hb Osb P →
        Hb D = some (.dK kvs) ∧ KRel G (WW (fun a => R a ∨ a = D) Osb) Hb kvs acc ∧ KeepE H1 Os1 Hb Osb (fun a => a = D) := fun ra hd kr ka rb kb => by
      refine ⟨(kb D _ hd (ra.nr (.inr rfl))).1, kr.mono fun a o e nw => ?_, fun a o e nw => ?_⟩
      · obtain ⟨e1, n1, _⟩ := kb a o e fun z => nw (.inr z)
        exact ⟨e1, fun z => z.elim (fun z => nw (.inl z)) n1⟩
      · obtain ⟨e1, n1, n2⟩ := ka a o e nw
        obtain ⟨e2, n3, _⟩ := kb a o e1 n1
        exact ⟨e2, n3, n2⟩
    cases htt : tt ρ3 with
    | bad => rw [htt] at post2; exact post2.elim
    | exc e ρ4 => rw [htt] at post2; exact post2.elim
    | ok tv ρ4 =>
    rw [htt] at post2
    cases tv with
    | bl b =>
      intro H5 Os5 rel5 k5 _
      obtain ⟨hD5, kr5, keep5⟩ := go1 rel4 hD3 kr4 keep4 rel5 k5
      cases b with
      | false =>
        simp only [Bool.false_eq_true, if_false] at post2 ⊢
        obtain ⟨Os6, rel6, we6⟩ := rel5.wipe ow
        rw [hw] at rel6
        exact ⟨hlt, wipeV ρ4 ow, Os6, acc, kvs, rel6, hD5, kr5.mono fun a o e nw => ⟨e, fun z => nw (z.imp id (we6 a))⟩, fun a o e nw => let ⟨e1, n1, n2⟩ := keep5 a o e nw; ⟨e1, fun z => n1 (we6 a z), n2⟩, post2⟩
      | true =>
        simp only [if_true] at post2 ⊢
        refine ⟨fun a => R a ∨ a = D, ρ4, Os5, rel5, ?_⟩
        cases hkm : km ρ4 with
        | bad => rw [hkm] at post2; exact post2.elim
        | exc e ρ6 => rw [hkm] at post2; exact post2.elim
        | ok k ρ5 =>
        rw [hkm] at post2
        dsimp only at post2
        intro ky H6 Os6 Ok rel6 rep6 _ k6 _
        have rel6' : Rel G (fun a => R a ∨ a = D) H6 σ3 ρ5 Os6 := rel6.weak fun a z => .inl z
        obtain ⟨hD6, kr6, keep6⟩ := go1 rel5 hD5 kr5 keep5 rel6' k6
        refine ⟨fun a => R a ∨ a = D, ρ5, Os6, rel6', ?_⟩
        cases hvm : vm ρ5 with
        | bad => rw [hvm] at post2; exact post2.elim
        | exc e ρ6 => rw [hvm] at post2; exact post2.elim
        | ok v ρ6 =>
        rw [hvm] at post2
        dsimp only at post2
        intro vy H7 Os7 Ov rel7 rep7 _ k7 _
        by_cases hc : isKey .k k = true ∧ v.fz = true ∧ acc.length < 1000000
        rotate_left
        · rw [if_neg hc] at post2; exact post2.elim
        rw [if_pos hc] at post2
        have hOv := rep7.none_of_fz hc.2.1
        subst hOv
        have rel7' : Rel G (fun a => R a ∨ a = D) H7 σ3 ρ6 Os7 := rel7.weak fun a z => .inl z
        have rep7' : Rep G (WW (fun a => R a ∨ a = D) Os7) H7 vy v [] := rep7.mono (fun a o e nw => ⟨e, fun z => nw (z.imp (fun z => .inl z) id)⟩) fun _ z => nomatch z
        obtain ⟨hD7, kr7, keep7⟩ := go1 rel6' hD6 kr6 keep6 rel7' k7
        obtain ⟨kk, ek, exk⟩ := isKey_k hc.1 rep6
        subst ek exk
        refine ⟨kvs, kk, rfl, hD7, by rw [kr7.len, sizeLine_eq]; omega, hlt, ?_⟩
        have rel8 := Rel.chg (D := D) (o := .dK (putK kvs kk vy)) rel7' (.inr rfl)
        obtain ⟨Os9, rel9, we9⟩ := rel8.wipe ow
        rw [hw] at rel9
        refine ⟨wipeV ρ6 ow, Os9, putD acc (ofKey kk) v, putK kvs kk vy, rel9, upd_same, (kr7.put kk rep7').mono fun a o e nw => ⟨by rw [upd_ne (show a ≠ D from fun z => nw (.inl (.inr z)))]; exact e, fun z => nw (z.imp id (we9 a))⟩, fun a o e nw => ?_, post2⟩
        obtain ⟨e1, n1, n2⟩ := keep7 a o e nw
        exact ⟨by rw [upd_ne n2]; exact e1, fun z => n1 (we9 a z), n2⟩
    | _ => exact post2.elim
/-- {k: v for target in iter if ..} -/
theorem ve_dc {kx vx tg iter : Expr} {ifs : List Expr} {scope : Scope} {own : List (Str × Nat)} {mi : MI} {g : MG} {tt km vm : ME} (hc : X.calm = true) (hN : X.N.Nodup) (hi : VI G X E tg iter mi) (ok : BlkOk X.N X.env.scope scope own)
    (hg : ∀ (s : Shared) (H : Hp) (C : Addr) (cl : List (Str × Addr)) (fp : List Addr) (σ0 : L2.St), VG G (X.blk s H scope (compEnvC scope cl C X.env) fp) (pinsBut X.N.length (own.map (·.2))) σ0 tg g)
    (ht : ∀ (s : Shared) (H : Hp) (C : Addr) (cl : List (Str × Addr)) (fp : List Addr), PTs (X.blk s H scope (compEnvC scope cl C X.env) fp) ifs (tT G WF p tt))
    (hk : ∀ (s : Shared) (H : Hp) (C : Addr) (cl : List (Str × Addr)) (fp : List Addr), VE G (X.blk s H scope (compEnvC scope cl C X.env) fp) WF pk sk kx km)
    (he : ∀ (s : Shared) (H : Hp) (C : Addr) (cl : List (Str × Addr)) (fp : List Addr), VE G (X.blk s H scope (compEnvC scope cl C X.env) fp) WF pv true vx vm) (hs : ∀ x, foldedSetIterable iter X.env x = pure x := by intro _; rfl) :
    VE G X E false true (.DictComp kx vx [⟨tg, iter, ifs, 0⟩] scope pos) (mDc mi g tt km vm (own.map (·.2))) := by
  have hg2 : ∀ (s : Shared) (H : Hp) (C : Addr) (cl : List (Str × Addr)) (fp : List Addr), PG (X.blk s H scope (compEnvC scope cl C X.env) fp) tg (fun x σ H Q => ∃ σ0, tG G (pinsBut X.N.length (own.map (·.2))) σ0 g x σ H Q) := fun s H C cl fp =>
    ⟨fun pins st σ H' v u Q I r ⟨σ0, q⟩ => (hg s H C cl fp σ0).run pins st σ H' v u Q I r q⟩
  exact ⟨fun pins s1 σ H Q I h => (pe_dc hc hN hi ok hg2 ht hk he hs).run pins s1 σ H Q I (dc_reading (tg := tg) (iter := iter) rfl I.len h)⟩
end
end VL
/-! VL, part WH: own operators with a built-in value on the right, in place, in. -/
namespace VL
open PySem L2 PyProof.Rows
section
variable {prog : Program} {w : World} {A : Around} {E : Value → Shared → Prop} {s : Shared} {K : PySem.W.Frag} {x C f : Addr} {ox : Obj} {od : Option Obj} {T : String}
open PySem.W in
theorem binop_KT {op : Operator} {b : Value} {fo ro : Option Value} {Q : Value → Shared → Prop} (X : K.In s.heap) (I : InstAt s.heap x ox C od) (hb : Looks (model prog w) s.heap (typeOf b) (.type T)) (hc : selfFirst K C = true)
    (hs : findIn K (.ref C) (PySem.dunder op.info.2) = some (some (.ref f))) (hf : isFn K (.ref f) = true) (hr : findIn K (.ref C) (dunderR op.info.2) = some none) (h1 : findIn K (.type T) (PySem.dunder op.info.2) = some fo) (h2 : findIn K (.type T) (dunderR op.info.2) = some ro)
    (hsub : subIn K (.type T) (.ref C) = some false) (h : wpAny (model prog w) A (call (.ref f) [.ref x, b]) (PySem.W.CmpBack Q) E s) : wpAny (model prog w) A (binaryOp op (.ref x) b) Q E s := by
  obtain ⟨cd, rest, hcd, hm⟩ := ksp_first hc
  rcases hi : op.info with ⟨sym, nm'⟩
  rw [hi] at hs hr h1 h2
  dsimp only at hs hr h1 h2
  have one := ksp_try X I hs hf h
  obtain ⟨hh, g, d, tt, os⟩ := s
  have L1 : Looks (model prog w) hh (typeOf (.ref x)) (.ref C) := I.type
  have L2 : Looks (model prog w) hh (typeOf b) (.type T) := hb
  have L3 : Looks (model prog w) hh (fillsNumberSlot (.ref C) nm') true := fills_K X hcd hm hs
  have L4 := ksp_fillsT (M := model prog w) X h1 h2
  have L5 : Looks (model prog w) hh (isSubtype (.type T) (.ref C)) false := looks_subIn X hsub
  have L6 : Looks (model prog w) hh (numberSlotInPython (.ref C) nm') true := ksp_inPy X hs hr (.inl rfl)
  have L7 : Looks (model prog w) hh (numberSlotInPython (.type T) nm') false := Looks.of_pure rfl
  have L8 : Looks (model prog w) hh (typeLookup (.type T) (dunderR nm')) ro := looks_findIn X h2
  generalize ((fo.isSome && !isSeqSlot fo) || (ro.isSome && !isSeqSlot ro)) = right at L4
  have ne : (Value.ref C == Value.type T) = false := by first | rfl | simp
  simp only [binaryOp, hi]
  refine wpAny_holding (wpAny_bind ?_)
  unfold binaryOp1
  refine wpAny_bind (L1.at (wpAny_bind (L2.at (wpAny_bind (L3.at ?_)))))
  simp only [ne, Bool.false_eq_true, if_false]
  cases right <;> (ksp_lk; refine wpAny_mono one (fun r s' z => ?_) (fun _ _ e => e); obtain ⟨v, rfl, hq⟩ := z; ksp_lk; exact hq)
end

/-- what the class must have for an operator whose reflected form it lacks -/
structure OwnL (K : PySem.W.Frag) (C : Addr) (nm : String) (f : Addr) : Prop where
  sf : PySem.W.selfFirst K C = true
  l : PySem.W.findIn K (.ref C) (PySem.dunder nm) = some (some (.ref f))
  lf : PySem.W.isFn K (.ref f) = true
  r : PySem.W.findIn K (.ref C) (dunderR nm) = some none
  ts : ∀ t ∈ tyAll, (PySem.W.findIn K (.type t) (PySem.dunder nm)).isSome = true ∧ (PySem.W.findIn K (.type t) (dunderR nm)).isSome = true ∧ PySem.W.subIn K (.type t) (.ref C) = some false
def tOwnL (x : Str) (nm : String) : Ftest := fun K => PySem.W.selfFirst K (He.ga K x) && (He.eqO (PySem.W.findIn K (.ref (He.ga K x)) (PySem.dunder nm)) (some (some (.ref (He.ma K (He.ga K x) (PySem.dunder nm))))) && (PySem.W.isFn K (.ref (He.ma K (He.ga K x) (PySem.dunder nm))) &&
  (He.eqO (PySem.W.findIn K (.ref (He.ga K x)) (dunderR nm)) (some none) && tyAll.all fun t => (PySem.W.findIn K (.type t) (PySem.dunder nm)).isSome && ((PySem.W.findIn K (.type t) (dunderR nm)).isSome && decide (PySem.W.subIn K (.type t) (.ref (He.ga K x)) = some false)))))
theorem ownL_ok {K : PySem.W.Frag} {x : Str} {nm : String} (c : tOwnL x nm K = true) : OwnL K (He.ga K x) nm (He.ma K (He.ga K x) (PySem.dunder nm)) := by
  unfold tOwnL at c
  simp only [Bool.and_eq_true] at c
  obtain ⟨c1, c2, c3, c4, c5⟩ := c
  refine ⟨c1, He.eqO_ok c2, c3, He.eqO_ok c4, fun t ht => ?_⟩
  have := List.all_eq_true.mp c5 t ht
  simp only [Bool.and_eq_true] at this
  exact ⟨this.1, this.2.1, of_decide_eq_true this.2.2⟩
/-- a op b, the left's own def; b an object of the same class or of a built-in kind -/
def mfLeft (c : Nat) (ml : MF) : MF := fun vs => match vs with
  | [.obj o n fs xs, .obj p k gs ys] => if n = c ∧ k = c then voidR (ml [.obj o n fs xs, .obj p k gs ys]) else .bad
  | [.obj o n fs xs, v] => if n = c ∧ (tyName v).isSome = true then voidR (ml [.obj o n fs xs, v]) else .bad
  | _ => .bad
section
variable {G : Gam} {H : Hp}
theorem left_own {c : Nat} {C : Addr} {ml : MF} {x y : V} {Q : VK} {E : XK} (hc : G.cn c = some C) (h : spV G 2 (mfLeft c ml) [x, y] H Q E) :
    ∃ a dx fs, x = .ref a ∧ H a = some (.ins C dx fs) ∧ ((∃ b dy gs, y = .ref b ∧ H b = some (.ins C dy gs)) ∨ ∃ t, t ∈ tyAll ∧ TyX G.K H y (.type t)) ∧ spV G 2 ml [x, y] H Q E := by
  obtain ⟨_, R, v, u, Oa, rel, r1, r2, post⟩ := sp_two h
  unfold mfLeft at post
  split at post
  · rename_i o n fs xs p k gs ys hvu
    cases hvu
    by_cases hn : n = c ∧ k = c
    · rw [if_pos hn] at post
      obtain ⟨rfl, rfl⟩ := hn
      obtain ⟨a, C', dx, fs', rfl, ea, hC, _⟩ := rep_obj r1
      rw [hc] at hC; cases hC
      obtain ⟨b, C', dy, gs', rfl, eb, hC, _⟩ := rep_obj r2
      rw [hc] at hC; cases hC
      exact ⟨a, dx, fs', rfl, ea, .inl ⟨b, dy, gs', rfl, eb⟩, rfl, R, [_, _], Oa, rel, post.unvoid fun _ _ _ z => z⟩
    · rw [if_neg hn] at post; exact post.elim
  · rename_i o n fs xs w _ hvu
    cases hvu
    by_cases hn : n = c ∧ (tyName u).isSome = true
    · rw [if_pos hn] at post
      obtain ⟨rfl, ht⟩ := hn
      obtain ⟨a, C', dx, fs', rfl, ea, hC, _⟩ := rep_obj r1
      rw [hc] at hC; cases hC
      obtain ⟨t, ht⟩ := Option.isSome_iff_exists.mp ht
      exact ⟨a, dx, fs', rfl, ea, .inr ⟨t, tyName_mem ht, rep_tyX r2 ht⟩, rfl, R, [_, _], Oa, rel, post.unvoid fun _ _ _ z => z⟩
    · rw [if_neg hn] at post; exact post.elim
  · exact post.elim
section
variable {X : Cx} {E : WX} {a b e : Expr} {p1 p2 p : Bool} {m1 m2 m : ME} {pos : Pos} {C f : Addr} {c i : Nat} {ml : MF}
theorem left_run {op : Operator} (T : OwnL X.K C op.info.2 f) (hK : X.K = G.K) (hc : G.cn c = some C) (hl : CalV G X E (.ref f) 2 ml []) (pins : List (Addr × Obj)) (s : Shared) (σ : L2.St) (H : Hp) (x y : V) (v u : Value) (Q : VK)
    (I : Inv X pins σ H s) (rx : RelV x v) (ry : RelV y u) (h : spV G 2 (mfLeft c ml) [x, y] H Q (WE E σ)) : wpAny (model X.prog X.w) X.A (binaryOp op v u) (EP X pins σ Q) X.xe s := by
  obtain ⟨m, hF⟩ := I.fr
  obtain ⟨x0, dx, fs, rfl, ea, hy, q⟩ := left_own hc h
  cases rx
  obtain ⟨hx, od, J⟩ := ins_here I ea
  have one := thn (hl pins s σ H [.ref x0, y] [.ref x0, u] Q I (.cons rfl (.cons ry .nil)) (by simpa using q)) fun w s' (⟨z, H', I', rz, q⟩ : EP X pins σ Q w s') => SlX.cmpback (P := EP X pins σ Q) rz ⟨z, H', I', rz, q⟩
  rcases hy with ⟨b0, dy, gs, rfl, eb⟩ | ⟨t, ht, ty⟩
  · cases ry
    obtain ⟨hy, od', J'⟩ := ins_here I eb
    exact PySem.W.binop_K hF I.ok.mod.kin J J'.type T.sf T.l T.lf one
  · obtain ⟨P, Z, pp, _⟩ := kit_of I ry (hK ▸ ty)
    obtain ⟨t1, t2, t3⟩ := T.ts t ht
    obtain ⟨fo, hfo⟩ := Option.isSome_iff_exists.mp t1
    obtain ⟨ro, hro⟩ := Option.isSome_iff_exists.mp t2
    exact binop_KT I.kIn J (Z.ty _ _ I.kIn pp) T.sf T.l T.lf T.r hfo hro t3 one
theorem ve_left {op : Operator} (T : OwnL X.K C op.info.2 f) (hK : X.K = G.K) (hc : G.cn c = some C) (hl : CalV G X E (.ref f) 2 ml []) (h1 : VE G X E p1 true a m1) (h2 : VE G X E p2 true b m2) :
    VE G X E (p1 && p2) true (.BinOp a op b pos) (mCall (mfLeft c ml) [.v ⟨p1, true, m1⟩, .v ⟨p2, true, m2⟩]) := by
  refine ⟨fun pins s σ H Q I h => ?_⟩
  have q := call_of (E := E) (as := [.v ⟨p1, true, m1⟩, .v ⟨p2, true, m2⟩]) (n := 2) trivial rfl rfl (σ := σ) (H := H) (Q := Q) (mf := mfLeft c ml) (by simpa [argsP] using h)
  refine wpAny_BinOp (thn (h1.run pins s σ H _ I q) fun v s1 ⟨x, H1, I1, rx, q1⟩ => ?_)
  exact thn (h2.run pins s1 σ H1 _ I1 q1) fun u s2 ⟨y, H2, I2, ry, q2⟩ => left_run T hK hc hl pins s2 σ H2 x y v u Q I2 rx ry q2

/-! ### name op= e, by an own def: the name's value goes in, the result comes back -/
structure OwnI (K : PySem.W.Frag) (C : Addr) (nm : String) (f : Addr) : Prop where
  sf : PySem.W.selfFirst K C = true
  l : PySem.W.findIn K (.ref C) (dunderI nm) = some (some (.ref f))
  lf : PySem.W.isFn K (.ref f) = true
def tOwnI (x : Str) (nm : String) : Ftest := fun K => PySem.W.selfFirst K (He.ga K x) && (He.eqO (PySem.W.findIn K (.ref (He.ga K x)) (dunderI nm)) (some (some (.ref (He.ma K (He.ga K x) (dunderI nm))))) && PySem.W.isFn K (.ref (He.ma K (He.ga K x) (dunderI nm))))
theorem ownI_ok {K : PySem.W.Frag} {x : Str} {nm : String} (c : tOwnI x nm K = true) : OwnI K (He.ga K x) nm (He.ma K (He.ga K x) (dunderI nm)) := by
  unfold tOwnI at c
  simp only [Bool.and_eq_true] at c
  exact ⟨c.1, He.eqO_ok c.2.1, c.2.2⟩
def mfInp (c : Nat) (ml : MF) : MF := fun vs => match vs with
  | [.obj o n fs xs, v] => if n = c then voidR (ml [.obj o n fs xs, v]) else .bad
  | _ => .bad
theorem vs_augO {bs : List Bool} {σ0 : L2.St} {op : Operator} {x : Str} {pos' : Pos} (T : OwnI X.K C op.info.2 f) (hc : G.cn c = some C) (hl : CalV G X E (.ref f) 2 ml []) (hN : X.N.Nodup) (hi : X.N[i]? = some x) (hx : Loc X.env.scope x) (he : VE G X E p true e m) (hb : bs[i]? ≠ some true := by decide)
    (hf : X.fn x = true ∨ X.env.scope.names.lookup x = some .local := by first | exact .inl rfl | exact .inr rfl | assumption) : VS G X E bs σ0 (.AugAssign (.Name x pos') op e pos) (mSet i (mCall (mfInp c ml) [.v ⟨false, true, mMov i⟩, .v ⟨p, true, m⟩])) := by
  refine ⟨fun pins s σ H D I h => ?_⟩
  obtain ⟨R, ρ, Os, rel, pin, post⟩ := h
  have post2 : Post G R E σ H Os false true ρ (fun z H2 => D.nx (σ.set i (some z)) H2) (mCall (mfInp c ml) [.v ⟨false, true, mMov i⟩, .v ⟨p, true, m⟩] ρ) := by
    unfold mSet at post
    refine PostS.post (s := true) (f := fun v ρ' => if i < ρ'.length then .nx (ρ'.set i (some v)) else .bad) pin post fun v ρ' x H' Os' O _ post rel' rep nd k => ?_
    by_cases hi' : i < ρ'.length
    · rw [if_pos hi'] at post
      obtain ⟨Os2, r2, k2⟩ := set_of (D := D) (.inr trivial) rel.hr rel' rep (nd rfl) k hi'
      exact post _ _ Os2 (pin.set hb) r2 k2
    · rw [if_neg hi'] at post
      exact post.elim
  have q := call_of (E := E) (as := [.v ⟨false, true, mMov i⟩, .v ⟨p, true, m⟩]) (n := 2) trivial rfl rfl (σ := σ) (H := H) (Q := fun z H2 => D.nx (σ.set i (some z)) H2) (mf := mfInp c ml) ⟨R, ρ, Os, rel, by simpa [argsP] using post2⟩
  have mv : ∀ {K : V → Hp → Prop}, rd G E false true (mMov i) σ H K → ∃ v, σ[i]? = some (some v) ∧ K v H := fun {K} ⟨R, ρ, Os, rel, post⟩ => by
    unfold mMov at post
    cases hv : ρ[i]? with
    | none => rw [hv] at post; exact post.elim
    | some o =>
      cases o with
      | none => rw [hv] at post; exact post.elim
      | some v =>
        rw [hv] at post
        obtain ⟨x, hx, rel', rep⟩ := rel.take hv
        have ef : (fun a => R a ∨ a ∈ Os i) = Rp R true (Os i) := funext fun a => propext ⟨fun z => z.imp id fun z => ⟨rfl, z⟩, fun z => z.imp id fun z => z.2⟩
        rw [ef] at rel' rep
        refine ⟨x, hx, post x H _ (Os i) rel' rep (fun _ => rel.nd i) (fun a o e nw => ⟨e, fun z => nw ?_, fun z => nw ⟨i, z.2⟩⟩) fun z => by cases z⟩
        obtain ⟨j, z⟩ := z
        by_cases h : j = i
        · simp [h] at z
        · simp only [h, if_false] at z; exact ⟨j, z⟩
  obtain ⟨v, e1, q1⟩ := mv q
  obtain ⟨mm, hn, hll⟩ := I.loc
  have vis : Vis X.env.scope x := by rcases hx with k | k; exact .inl k; exact .inr (.inl k)
  obtain ⟨u, r, l⟩ := hll i x v hi e1 vis
  refine wpAny_AugAssign_Name ?_
  have go : wpAny (model X.prog X.w) X.A (eval e X.env) (fun w s₂ => wpAny (model X.prog X.w) X.A (inplaceOp op u w) (fun r s₃ => wpAny (model X.prog X.w) X.A (storeName X.env x r) (fun _ => SP X pins D .next) X.xe s₃) X.xe s₂) X.xe s := by
    refine thn (he.run pins s σ H _ I q1) fun w s1 ⟨y, H1, I1, ry, q2⟩ => ?_
    obtain ⟨m0, hF⟩ := I1.fr
    obtain ⟨_, R2, v2, u2, Oa, rel2, r1, r2, post3⟩ := sp_two q2
    unfold mfInp at post3
    split at post3
    rotate_left
    · exact post3.elim
    rename_i o n fs xs w2 hvu
    cases hvu
    by_cases hnc : n = c
    rotate_left
    · rw [if_neg hnc] at post3; exact post3.elim
    rw [if_pos hnc] at post3
    subst hnc
    obtain ⟨a, C', dx, fs', rfl, ea, hC, _⟩ := rep_obj r1
    rw [hc] at hC; cases hC
    cases r
    obtain ⟨hxx, od, J⟩ := ins_here I1 ea
    have q4 : spV G 2 ml [.ref a, y] H1 (fun z H2 => D.nx (σ.set i (some z)) H2) (WE E σ) := ⟨rfl, R2, [_, _], Oa, rel2, post3.unvoid fun _ _ _ z => z⟩
    have one := thn (hl pins s1 σ H1 [.ref a, y] [.ref a, w] _ I1 (.cons rfl (.cons ry .nil)) (by simpa using q4)) fun w s' (⟨z, H', I', rz, q⟩ : EP X pins σ (fun z H2 => D.nx (σ.set i (some z)) H2) w s') => SlX.cmpback (P := EP X pins σ fun z H2 => D.nx (σ.set i (some z)) H2) rz ⟨z, H', I', rz, q⟩
    refine thn (PySem.W.ksp_inplace hF I.ok.mod.kin J T.sf T.l T.lf one) fun z s2 ⟨zv, H2, I2, r2, q2⟩ => ?_
    exact store_ok I2 hN hi hx r2 (fun s3 I3 => ⟨_, H2, I3, q2⟩) hf
  rcases l with ⟨hk, hm⟩ | ⟨hk, cc, hcc, hcell⟩
  · exact wpAny_loadName_local I.ok.kind hk hn hm go
  · rcases hk with hk | hk
    · exact wpAny_loadName_cell I.ok.kind hk hcc hcell go
    · rcases hx with k | k
      · have z : X.env.scope.names.lookup x = some .free := hk
        rw [k] at z; cases z
      · have z : X.env.scope.names.lookup x = some .free := hk
        rw [k] at z; cases z
end
end
end VL
/-! VL, part WI: is None, in, all, name += int, zip, keywords, defs held by names. -/
namespace VL
open PySem L2
section
variable {G : Gam} {X : Cx}
/-! ### is None -/
def semIsN (neg : Bool) : List Val → Option Val
  | [v, .non] => some (.bl (match v with | .non => !neg | _ => neg))
  | _ => none
theorem ok_isN : OkF G (r2 fun x y H Q => y = .non ∧ Q (.bl (decide (x = .non))) H) (semIsN false) := by
  intro W H xs vs Ol v Q w r hs m
  unfold semIsN at hs
  split at hs
  · obtain ⟨x, y, O, O', rfl, r1, r2⟩ := r.inv2
    cases r2
    cases hs
    refine ⟨rfl, ?_⟩
    cases r1 <;> exact m.same (.bl _)
  · cases hs
theorem ok_notN : OkF G (r2 fun x y H Q => y = .non ∧ Q (.bl (!decide (x = .non))) H) (semIsN true) := by
  intro W H xs vs Ol v Q w r hs m
  unfold semIsN at hs
  split at hs
  · obtain ⟨x, y, O, O', rfl, r1, r2⟩ := r.inv2
    cases r2
    cases hs
    refine ⟨rfl, ?_⟩
    cases r1 <;> exact m.same (.bl _)
  · cases hs
/-! ### in -/
def strB : Val → Bool
  | .str _ => true
  | _ => false
def intB : Val → Bool
  | .int _ => true
  | _ => false
def hasV (x : Val) (l : List Val) : Bool := l.any fun y => decide (y = x)
/-- a text, a number in a list or tuple of such -/
def semIn (neg : Bool) : List Val → Option Val
  | [x, .tup l] => if (strB x && l.all strB || intB x && l.all intB) = true then some (.bl (xor neg (hasV x l))) else none
  | [x, .wtp l] => if (strB x && l.all strB || intB x && l.all intB) = true then some (.bl (xor neg (hasV x l))) else none
  | [x, .lst _ l] => if (strB x && l.all strB || intB x && l.all intB) = true then some (.bl (xor neg (hasV x l))) else none
  | _ => none
theorem flat_in {W : Addr → Prop} {H : Hp} {x : V} {v : Val} {O : List Addr} (rx : Rep G W H x v O) : {l : List Val} → {xs : List V} → {O' : List Addr} → Reps G W H xs l O' → (strB v && l.all strB || intB v && l.all intB) = true → flatV x = true ∧ xs.all flatV = true ∧ inV x xs = hasV v l
  | l, xs, O', r, h => by
    simp only [Bool.or_eq_true, Bool.and_eq_true] at h
    rcases h with ⟨hv, hl⟩ | ⟨hv, hl⟩
    · cases v with
      | str z =>
        cases rx
        refine ⟨rfl, ?_⟩
        clear hv
        revert hl
        revert xs O'
        induction l with
        | nil => intro xs O' r hl; cases r; exact ⟨rfl, rfl⟩
        | cons u l ih =>
          intro xs O' r hl
          simp only [List.all_cons, Bool.and_eq_true] at hl
          cases r with
          | cons r t =>
            obtain ⟨i1, i2⟩ := ih _ _ t hl.2
            cases u with
            | str y =>
              cases r
              refine ⟨by simp [flatV, i1], ?_⟩
              unfold inV hasV at i2 ⊢
              rw [List.any_cons, List.any_cons, i2]
              congr 1
              simp [eqV, Bool.beq_eq_decide_eq]
            | _ => simp [strB] at hl
      | _ => simp [strB] at hv
    · cases v with
      | int z =>
        cases rx
        refine ⟨rfl, ?_⟩
        clear hv
        revert hl
        revert xs O'
        induction l with
        | nil => intro xs O' r hl; cases r; exact ⟨rfl, rfl⟩
        | cons u l ih =>
          intro xs O' r hl
          simp only [List.all_cons, Bool.and_eq_true] at hl
          cases r with
          | cons r t =>
            obtain ⟨i1, i2⟩ := ih _ _ t hl.2
            cases u with
            | int y =>
              cases r
              refine ⟨by simp [flatV, i1], ?_⟩
              unfold inV hasV at i2 ⊢
              rw [List.any_cons, List.any_cons, i2]
              congr 1
              simp [eqV, Bool.beq_eq_decide_eq]
            | _ => simp [intB] at hl
      | _ => simp [intB] at hv
theorem ok_in (hK : X.K = G.K) {neg : Bool} : OkF G (r2 (rIn X.K neg)) (semIn neg) := by
  rw [hK]
  intro W H xs vs Ol v Q w r hs m
  unfold semIn at hs
  have fin : ∀ {x : V} {a : Addr} {ys : List V} {u : Val} {l : List Val} {O O' : List Addr}, Rep G W H x u O → (SqL G.K H a ys ∨ SqT G.K H a ys) → Reps G W H ys l O' → (if (strB u && l.all strB || intB u && l.all intB) = true then some (Val.bl (xor neg (hasV u l))) else none) = some v → rIn G.K neg x (.ref a) H Q := by
    intro x a ys u l O O' rx hq ry hs
    split at hs
    · rename_i h
      cases hs
      obtain ⟨f1, f2, f3⟩ := flat_in rx ry h
      refine ⟨a, ys, rfl, hq, f1, f2, ?_⟩
      have e : (if neg = true then !inV x ys else inV x ys) = xor neg (hasV u l) := by rw [f3]; cases neg <;> simp
      rw [e]
      exact m.same (.bl _)
    · cases hs
  split at hs
  · obtain ⟨x, y, O, O', rfl, r1, r2⟩ := r.inv2
    obtain ⟨a, ys, rfl, e1, q1⟩ := rep_tupT r2
    exact fin r1 (.inr e1) q1 hs
  · obtain ⟨x, y, O, O', rfl, r1, r2⟩ := r.inv2
    obtain ⟨a, ys, rfl, e1, q1⟩ := rep_wtp r2
    exact fin r1 (.inr e1) q1 hs
  · obtain ⟨x, y, O, O', rfl, r1, r2⟩ := r.inv2
    obtain ⟨a, ys, O1, rfl, e1, q1⟩ := rep_lstL r2
    exact fin r1 (.inl (.inl (.inl e1))) q1 hs
  · cases hs
/-- a key in a dict -/
def semInD (neg : Bool) : List Val → Option Val
  | [.str z, .wdk ks _] => some (.bl (xor neg (hasV (.str z) ks)))
  | [k, .dct _ .k ks _] => if isKey .k k = true then some (.bl (xor neg (hasV k ks))) else none
  | _ => none
def rInDk (K : PySem.W.Frag) (w : World) (neg : Bool) : R2 := fun x y H Q => (∃ (z : Str) (r : Option Value) (d : Addr), x = .str z ∧ y = .ref d ∧ (∃ es n, KDict K w d es n) ∧ PySem.W.nsIn K d z = some r ∧ Q (.bl (xor neg r.isSome)) H) ∨ (∃ a o, y = .ref a ∧ DGet H a x o ∧ Q (.bl (xor neg o.isSome)) H)
theorem op_inDk (hu : X.A.units + 1 < cLine) : OpR X (compareOp .In) (rInDk X.K X.w false) := by
  intro pins s σ H x y v u Q I rx ry h
  rcases h with ⟨z, r, d, rfl, rfl, ⟨es, n, D⟩, e, q⟩ | ⟨a, o, rfl, g, q⟩
  · exact op_in_kd D pins s σ H _ _ v u Q I rx ry ⟨z, r, rfl, rfl, e, by simpa using q⟩
  · cases ry
    exact d_in hu I g rx fun s3 I3 => ⟨.bl o.isSome, H, I3, rfl, by simpa using q⟩
theorem op_notInDk (hu : X.A.units + 1 < cLine) : OpR X (compareOp .NotIn) (rInDk X.K X.w true) := by
  intro pins s σ H x y v u Q I rx ry h
  rcases h with ⟨z, r, d, rfl, rfl, ⟨es, n, D⟩, e, q⟩ | ⟨a, o, rfl, g, q⟩
  · exact op_notIn_kd D pins s σ H _ _ v u Q I rx ry ⟨z, r, rfl, rfl, e, by simpa using q⟩
  · cases ry
    exact d_notIn hu I g rx fun s3 I3 => ⟨.bl (!o.isSome), H, I3, rfl, by simpa using q⟩
theorem has_of (k : Key) : ∀ kvs : List (Key × V), hasV (ofKey k) (kvs.map fun p => ofKey p.1) = (valV kvs k).isSome
  | [] => rfl
  | p :: kvs => by
    have ih := has_of k kvs
    unfold hasV at ih ⊢
    rw [List.map_cons, List.any_cons, ih]
    by_cases h : p.1 = k
    · rw [valV_pos h]; simp [h]
    · rw [valV_neg h]
      have h' : ¬ ofKey p.1 = ofKey k := fun z => h (ofKey_inj z)
      simp [h']
theorem ok_inDk (hK : X.K = G.K) (hw : X.w = G.w) {neg : Bool} : OkF G (r2 (rInDk X.K X.w neg)) (semInD neg) := by
  rw [hK, hw]
  intro W H xs vs Ol v Q w r hs m
  unfold semInD at hs
  split at hs
  · rename_i z ks us
    obtain ⟨x, y, O, O', rfl, r1, r2⟩ := r.inv2
    cases hs
    cases r1
    cases r2 with
    | @wdk a kvs _ _ h hk q =>
      subst hk
      have e := has_of (.inr z) kvs
      simp only [ofKey] at e
      cases hv : valV kvs (.inr z) with
      | none =>
        rw [hv] at e
        refine .inl ⟨z, none, a, rfl, rfl, h.1, h.2.2 z hv, ?_⟩
        rw [show (Option.isSome (none : Option Value)) = hasV (.str z) (kvs.map fun p => ofKey p.1) from e.symm]
        exact m.same (.bl _)
      | some x =>
        rw [hv] at e
        obtain ⟨es, n, u, _, _, h3, _⟩ := h.2.1 z x hv
        refine .inl ⟨z, some u, a, rfl, rfl, h.1, h3, ?_⟩
        rw [show (Option.isSome (some u)) = hasV (.str z) (kvs.map fun p => ofKey p.1) from e.symm]
        exact m.same (.bl _)
  · rename_i k o ks us
    split at hs
    · rename_i hk0
      cases hs
      obtain ⟨x, y, O, O', rfl, r1, r2⟩ := r.inv2
      obtain ⟨kk, rfl, rfl⟩ := isKey_k hk0 r1
      have go : ∀ {a : Addr} {kvs : List (Key × V)}, Rd H a (.dK kvs) → ks = kvs.map (fun p => ofKey p.1) → rInDk G.K G.w neg (kV kk) (.ref a) H Q := fun {a kvs} ea hk => by
        subst hk
        refine .inr ⟨a, valV kvs kk, rfl, .inl ⟨_, _, ea, rfl, rfl⟩, ?_⟩
        rw [← has_of kk kvs]
        exact m.same (.bl _)
      cases r2 with
      | dkO h hk q => exact go (.inl h) hk
      | dkF h hk q => exact go h.1 hk
    · cases hs
  · cases hs
/-! ### all -/
def bools : List Val → Option (List Bool)
  | [] => some []
  | .bl b :: r => (bools r).map (b :: ·)
  | _ => none
def semAll : List Val → Option Val
  | [.lst _ l] => match bools l with
    | some bs => some (.bl (bs.all id))
    | none => none
  | _ => none
theorem bools_of {W : Addr → Prop} {H : Hp} : ∀ {l : List Val} {xs : List V} {O : List Addr} {bs : List Bool}, Reps G W H xs l O → bools l = some bs → xs = bs.map V.bl
  | [], _, _, _, r, h => by cases r; cases h; rfl
  | u :: l, _, _, bs, r, h => by
    cases r with
    | cons r t =>
      cases u with
      | bl b =>
        simp only [bools] at h
        cases hb : bools l with
        | none => rw [hb] at h; cases h
        | some cs =>
          rw [hb] at h
          cases h
          cases r
          rw [bools_of t hb]; rfl
      | _ => cases h
theorem ok_all (hK : X.K = G.K) : OkF G (rAll X.K) semAll := by
  rw [hK]
  intro W H xs vs Ol v Q w r hs m
  unfold semAll at hs
  split at hs
  · obtain ⟨x, O, rfl, r1⟩ := r.inv1
    split at hs
    · rename_i bs hb
      cases hs
      obtain ⟨a, ys, O1, rfl, e1, q1⟩ := rep_lstL r1
      have e := bools_of q1 hb
      subst e
      exact ⟨a, bs, rfl, .inl (.inl e1), m.same (.bl _)⟩
    · cases hs
  · cases hs
end
/-! ### name += a number -/
def mAugI (i : Nat) (f : Int → Int → Int) (m : ME) : MS := fun ρ => match ρ[i]? with
  | some (some (.int a)) => (match m ρ with
    | .ok (.int b) ρ1 => if i < ρ1.length then .nx (ρ1.set i (some (.int (f a b)))) else .bad
    | .ok _ _ => .bad
    | .exc e ρ1 => .exc e ρ1
    | .bad => .bad)
  | _ => .bad
section
variable {G : Gam} {X : Cx} {E : WX} {bs : List Bool} {σ0 : L2.St} {e e2 : Expr} {p s p2 s2 : Bool} {m m2 : ME} {pos : Pos} {i : Nat}
theorem vs_augI {op : Operator} {f : Int → Int → Int} {x : Str} {pos' : Pos} (ho : PIp X op (ipI f)) (hN : X.N.Nodup) (hi : X.N[i]? = some x) (hx : Loc X.env.scope x) (he : VE G X E p s e m) (hb : bs[i]? ≠ some true := by decide)
    (hf : X.fn x = true ∨ X.env.scope.names.lookup x = some .local := by first | exact .inl rfl | exact .inr rfl | assumption) : VS G X E bs σ0 (.AugAssign (.Name x pos') op e pos) (mAugI i f m) := by
  refine PS.pre (ps_aug hN hi hx he ho hf) fun D σ H ⟨R, ρ, Os, rel, pin, post⟩ => ?_
  unfold mAugI at post
  split at post
  rotate_left
  · exact post.elim
  rename_i a hv
  obtain ⟨x, hx, rep⟩ := rel.rep i _ hv
  obtain rfl : x = .int a := by generalize Os i = O at rep; cases rep; rfl
  refine ⟨.int a, hx, R, ρ, Os, rel, ?_⟩
  cases hm : m ρ with
  | bad => rw [hm] at post; exact post
  | exc e ρ' => rw [hm] at post; exact fun c d H' Os' rel' rx k => post c d σ H' Os' pin rel' rx k
  | ok v ρ1 =>
    rw [hm] at post
    cases v with
    | int b =>
      dsimp only at post
      intro y H' Os' O rel' rep' nd k _
      cases rep'
      refine ⟨a, b, rfl, rfl, ?_⟩
      by_cases hi' : i < ρ1.length
      · rw [if_pos hi'] at post
        have e0 : (fun a => R a ∨ a ∈ ([] : List Addr)) = R := setEq fun a => ⟨fun z => z.elim id (fun z => nomatch z), Or.inl⟩
        have rel2 : Rel G R H' σ ρ1 Os' := rel'.weak fun a z => .inl z
        have r3 := Rel.put (O := []) (i := i) (x := .int (f a b)) (v := .int (f a b)) (by rw [e0]; exact rel2) (.int _) List.nodup_nil hi' (fun _ z => nomatch z)
        refine post _ H' _ (pin.set hb) r3 fun c o ec nw => ?_
        obtain ⟨e1, n1, _⟩ := k c o ec nw
        refine ⟨e1, fun ⟨j, z⟩ => ?_, id⟩
        by_cases hj : j = i
        · simp only [hj, if_true] at z; cases z
        · simp only [hj, if_false] at z; exact n1 ⟨j, z⟩
      · rw [if_neg hi'] at post; exact post.elim
    | _ => exact post.elim
/-! ### zip -/
def zipV : List Val → List Val → List Val
  | x :: xs, y :: ys => .tup [x, y] :: zipV xs ys
  | _, _ => []
theorem zipV_len : ∀ (xs ys : List Val), (zipV xs ys).length = min xs.length ys.length
  | [], _ => by simp [zipV]
  | _ :: _, [] => by simp [zipV]
  | x :: xs, y :: ys => by simp [zipV, zipV_len xs ys]
theorem zipV_get : ∀ {xs ys : List Val} {i : Nat} {u : Val}, (zipV xs ys)[i]? = some u → ∃ a b, xs[i]? = some a ∧ ys[i]? = some b ∧ u = .tup [a, b]
  | [], _, i, u, h => by simp [zipV] at h
  | _ :: _, [], i, u, h => by simp [zipV] at h
  | x :: xs, y :: ys, 0, u, h => by simp [zipV] at h; exact ⟨x, y, rfl, rfl, h.symm⟩
  | x :: xs, y :: ys, i + 1, u, h => by simpa using zipV_get (xs := xs) (ys := ys) (i := i) (by simpa [zipV] using h)
def mZip (m1 m2 : ME) : MI := fun ρ => match evalM [m1, m2] ρ with
  | .ok [.lst false xs, .lst false ys] ρ' => .ok (zipV xs ys) ρ'
  | .ok _ _ => .bad
  | .exc e ρ' => .exc e ρ'
  | .bad => .bad
theorem walk_zip {W : Addr → Prop} {H : Hp} {a b : Addr} {xs ys : List V} {us ws : List Val} (h1 : Fz W H a (.lst xs)) (h2 : Fz W H b (.lst ys)) (r1 : Reps G W H xs us []) (r2 : Reps G W H ys ws []) : Walk G W H (Itz G.K a b) (zipV us ws) := by
  intro W' H' kp i
  have q1 : SqL G.K H' a xs := .inl (.inl (kp _ _ h1.1 h1.2).1)
  have q2 : SqL G.K H' b ys := .inl (.inl (kp _ _ h2.1 h2.2).1)
  refine ⟨fun h => ⟨xs, ys, q1, q2, ?_⟩, fun u hu => ?_⟩
  · rw [zipV_len] at h
    rw [r1.length, r2.length]
    omega
  obtain ⟨x, y, e1, e2, rfl⟩ := zipV_get hu
  obtain ⟨x', f1, g1⟩ := r1.one e1
  obtain ⟨y', f2, g2⟩ := r2.one e2
  refine ⟨⟨xs, ys, x', y', q1, q2, f1, f2⟩, fun z H'' ⟨T, x2, y2, e3, hT, e4, e5, e6⟩ => ?_⟩
  subst e3 e4
  have t1 := e5 xs q1
  have t2 := e6 ys q2
  rw [f1] at t1; cases t1
  rw [f2] at t2; cases t2
  refine ⟨same_upd hT, fun ww => .tup (O := [] ++ ([] ++ [])) ⟨upd_same, fresh_nw ww T hT⟩ (.cons ((g1.mono kp fun _ z => nomatch z).upd hT fun z hz => .inl hz) (.cons ((g2.mono kp fun _ z => nomatch z).upd hT fun z hz => .inl hz) .nil))⟩
theorem vi_zip {elts : List Expr} {kk : Nat} {tpos zp : Pos} (hK : X.K = G.K) (hg : Gl X "zip") (hm : X.mg "zip" = none) (h1 : VE G X E p s e m) (h2 : VE G X E p2 s2 e2 m2) (wf : (s || p2) = true := by rfl) (hs : starEach [e, e2] X.env = (false, eval e X.env) :: starEach [e2] X.env := by rfl) (hs2 : starEach [e2] X.env = (false, eval e2 X.env) :: starEach [] X.env := by rfl) (hpl : (backTo pos (starEach [e2] X.env)).any (·.1) = false := by rfl) :
    VI G X E (.Tuple elts kk tpos) (.Call (.Name "zip" zp) [e, e2] [] pos) (mZip m m2) := by
  refine PI.pre (pi_zip hg hm (pa_cons h1 (pa_cons h2 pa_nil hs2) hs) hs hpl) fun σ H K ⟨R, ρ, Os, rel, post⟩ => ?_
  have key := nest_of (G := G) (E := E) (σ := σ) (os := [⟨p, s, m⟩, ⟨p2, s2, m2⟩]) (wf2 wf) rel (K := fun vs H1 => ∃ a b xs ys, vs = [.ref a, .ref b] ∧ SqL X.K H1 a xs ∧ SqL X.K H1 b ys ∧ K (Itz X.K a b) H1) ?_
  · exact key
  · rw [evalA_eq]
    unfold mZip at post
    simp only [List.map_cons, List.map_nil]
    cases he : evalM [m, m2] ρ with
    | bad => rw [he] at post; exact post
    | exc e ρ' => rw [he] at post; exact post
    | ok vs ρ' =>
      rw [he] at post
      intro xs H' Os' Ol rel' reps nd keep pure
      match vs, reps, post with
      | [.lst false us, .lst false ws], reps, post =>
        obtain ⟨x, y, O, O', rfl, r1, r2⟩ := reps.inv2
        cases r1 with
        | @lstF a xs _ f1 g1 =>
        cases r2 with
        | @lstF b ys _ f2 g2 =>
        rw [hK]
        refine ⟨a, b, xs, ys, rfl, .inl (.inl f1.1), .inl (.inl f2.1), post _ H' Os' (rel'.weak fun a z => .inl z) ?_ (keep.imp fun _ z => z.elim)⟩
        have up : ∀ c, WW R Os' c → WW (fun a => R a ∨ a ∈ stab [⟨p, s, m⟩, ⟨p2, s2, m2⟩] Ol) Os' c := fun c z => z.imp .inl id
        exact walk_zip ⟨f1.1, fun z => f1.2 (up _ z)⟩ ⟨f2.1, fun z => f2.2 (up _ z)⟩ (g1.weakW up) (g2.weakW up)
/-! ### a def held by a name -/
def mCallT (i : Nat) (tab : List (Nat × MF)) (as : List Arg) : ME := fun ρ => match ρ[i]? with
  | some (some (.fn k)) => (match tab.lookup k with
    | some mf => mCall mf as ρ
    | none => .bad)
  | _ => .bad
theorem ve_callT {x : Str} {n : Nat} {px : Pos} {es : List Expr} {as : List Arg} {tab : List (Nat × MF)} (hN : X.N[i]? = some x) (hv : Vis X.env.scope x) (ht : ∀ k mf, tab.lookup k = some mf → ∃ a, G.fa k = some a ∧ CalV G X E (.ref a) n mf [] ∧ PySem.W.keepIn X.K (.ref a) = true) (ha : VAg G X E (e :: es) as)
    (hs : (vals as).all (·.s) = true := by rfl) (hnk : noK as = true := by rfl) (hn : as.length = n := by rfl) (hdb : (x == ("__debug__" : Str)) = false := by decide) (hcd : (x == ("__classdict__" : Str)) = false := by decide)
    (he : starEach (e :: es) X.env = (false, eval e X.env) :: starEach es X.env := by rfl) (hpl : (backTo pos (starEach es X.env)).any (·.1) = false := by rfl) : VE G X E false true (.Call (.Name x px) (e :: es) [] pos) (mCallT i tab as) := by
  refine ⟨fun pins s1 σ H Q I ⟨R, ρ, Os, rel, post⟩ => ?_⟩
  unfold mCallT at post
  split at post
  rotate_left
  · exact post.elim
  rename_i k hk
  cases hl : tab.lookup k with
  | none => rw [hl] at post; exact post.elim
  | some mf =>
  rw [hl] at post
  dsimp only at post
  obtain ⟨a, hc, cal, kp⟩ := ht k mf hl
  obtain ⟨y, hy, rep⟩ := rel.rep i _ hk
  obtain rfl : y = .ref a := by
    generalize Os i = O at rep
    cases rep with
    | fn h => rw [hc] at h; cases h; rfl
  have pv : argsP (as ++ dArgs []) = true → False ∨ True := fun _ => .inr trivial
  have h2 : rd G E (argsP (as ++ dArgs [])) true (mCall mf (as ++ dArgs [])) σ H Q := by
    refine ⟨R, ρ, Os, rel, ?_⟩
    have e : as ++ dArgs [] = as := by simp [dArgs]
    rw [e]
    exact Post.later (p := false) (p1 := true) (p2 := argsP as) (s2 := true) (by simp) id post KeepE.refl fun _ => ⟨rfl, rfl, fun _ _ e => e⟩
  have q := call_dk (dks := []) (n := n) (fun q hq => nomatch hq) hnk hs (by simpa using hn) h2
  refine wpAny_Call_Name_kw (thn ((pe_var (pos := px) hN hv hdb hcd).run pins s1 σ H (fun v H1 => v = .ref a ∧ H1 = H) I ⟨.ref a, hy, rfl, rfl⟩) fun u s2 ⟨v, H1, I1, r1, q1⟩ => ?_)
  obtain ⟨rfl, rfl⟩ := q1
  cases r1
  refine PySem.W.callWith_K (h₀ := X.base) I.ok.mod.kin kp (thn (ha.run pos pins s2 σ _ _ I1 q) fun us s3 ⟨xs, H2, I2, r, q⟩ => ⟨I2.kIn, ?_⟩) he hpl
  exact cal pins s3 σ H2 xs us Q I2 r q
end
end VL
/-! VL, part WJ: C(k = v, ..). -/
namespace VL
open PySem L2
section
variable {G : Gam} {X : Cx} {E : WX} {σ : L2.St}
theorem nest_len : ∀ {os : List Op} {H : Hp} {K : List V → Hp → Prop}, nest G E os σ H K → nest G E os σ H fun xs H' => xs.length = os.length ∧ K xs H'
  | [], H, K, h => ⟨rfl, h⟩
  | o :: os, H, K, h => rd_mono h fun x H1 h1 => nest_imp (nest_len h1) fun xs H2 ⟨l, k⟩ => ⟨by simp [l], k⟩
where
  nest_imp : ∀ {os : List Op} {H : Hp} {K K' : List V → Hp → Prop}, nest G E os σ H K → (∀ xs H', K xs H' → K' xs H') → nest G E os σ H K'
    | [], H, K, K', h, k => k _ _ h
    | o :: os, H, K, K', h, k => rd_mono h fun x H1 h1 => nest_imp h1 fun xs H2 q => k _ _ q
/-- the values in the parameters' order -/
def mergeD0 : List Arg → List V → List V
  | [], _ => []
  | .v _ :: as, x :: xs => x :: mergeD0 as xs
  | .v _ :: as, [] => .non :: mergeD0 as []
  | .r _ :: as, xs => mergeD0 as xs
  | .k x _ :: as, xs => x :: mergeD0 as xs
theorem nest_of_G : ∀ {as : List Arg} {H : Hp} {K : List V → Hp → Prop}, noRefs as = true → nestG G E as σ H K → nest G E (vals as) σ H fun xs H' => K (mergeD0 as xs) H'
  | [], H, K, _, h => h
  | .v o :: as, H, K, hn, h => rd_mono h fun x H1 h1 => nest_of_G (as := as) hn h1
  | .r i :: as, H, K, hn, h => by cases hn
  | .k x u :: as, H, K, hn, h => nest_of_G (as := as) hn h
theorem ve_makeK0 {x : Str} {px pos : Pos} {k n c : Nat} {f C : Addr} {fd : FuncData} {ps ks : List Str} {mf : MF} {as : List Arg} {kws : List Keyword} {g : List Value → List Value → List Value} {gV : List V → List V → List V} (hC : G.cn c = some C) (M : Mk X.K C f)
    (F : FnOkG X.prog X.w X.K X.mg X.base (L2.CX X.prog X.w) k f fd ps (spV G (n + 1) mf)) (hr : RoomG (k + 1) X.A) (hb : KBn X.K fd ps 1 ks g gV) (tk : Takes X E) (hg : Gl X x) (hm : X.mg x = some (.ref C)) (hkw : PK X kws fun σ H K => nest G E (vals as) σ H K) (df : Dfl G as)
    (hgv : ∀ y zs, zs.length = (vals as).length → gV [y] zs = y :: mergeD0 as zs) (hn : as.length = n := by rfl) (hs : (vals as).all (·.s) = true := by rfl) (nr : noRefs as = true := by rfl) (hks0 : (vals as).length = ks.length := by rfl)
    (hall : (backToKw pos (keywordEach kws X.env)).all (·.1.isSome) = true := by rfl) (hks : (backToKw pos (keywordEach kws X.env)).filterMap (·.1) = ks := by rfl) (hdb : (x == ("__debug__" : Str)) = false := by decide)
    (hpl : ((backTo pos (starEach [] X.env)).any (·.1) || (backToKw pos (keywordEach kws X.env)).any (·.1.isNone)) = false := by rfl) :
    VE G X E (argsP as) true (.Call (.Name x px) [] kws pos) (mCall (mMake c mf) as) := by
  refine ⟨fun pins s σ H Q I h => ?_⟩
  have q0 := nest_len (nest_of_G nr (call_of df hs hn h))
  refine wpAny_Call_Name_kw (ld_glob I hg hm ?_ hdb)
  refine PySem.W.callWith_KW0 (h₀ := X.base) I.ok.mod.kin M.kp hall ?_ hpl
  refine thn (hkw.run pos pins s σ H _ I q0) fun ws s2 ⟨zs, H2, I2, rz, hlen, q2⟩ => ⟨I2.kIn, ?_⟩
  rw [hks]
  have hx := I2.hok.fresh (Nat.le_succ s2.heap.objs.size)
  have hdx := I2.hok.fresh (Nat.le_refl s2.heap.objs.size)
  have hq := sp_make (x := s2.heap.objs.size + 1) (dx := s2.heap.objs.size) hC q2 hx hdx (Nat.ne_of_lt (Nat.lt_succ_self _))
  rw [← hgv _ zs hlen] at hq
  have I3 := Inv.made (C := C) I2
  have r1 : Vals [V.ref (s2.heap.objs.size + 1)] [Value.ref (s2.heap.objs.size + 1)] := .cons rfl .nil
  refine wpAny_call (make_map (f := f) I2.kIn M.makes M.init (beq_iff_eq.mp M.fn) ?_)
  have run := F.run (X.A.under (.builtin "type.__call__" ⟨.ref C :: [], ks.zip ws⟩)) X.stack _ _ ⟨[Value.ref (s2.heap.objs.size + 1)], ks.zip ws⟩ (g [Value.ref (s2.heap.objs.size + 1)] ws) _ _ (WE E σ) (hr.make C [] (ks.zip ws)) (I3.env0.make C [] (ks.zip ws))
    (hb.to _ [Value.ref (s2.heap.objs.size + 1)] ws I3.kIn rfl (by rw [← rz.length, hlen, hks0])) (hb.rel r1 rz) hq
  refine codeAny_mono run fun res s4 hq2 => ?_
  cases res with
  | error er => exact passAt tk σ pins _ _ er s4 I3 hq2
  | ok fl =>
    cases fl with
    | ret u =>
      obtain ⟨v, H', I4, rv3, ev, q3⟩ := I3.after hq2
      subst ev
      exact ⟨rv3, ⟨V.ref (s2.heap.objs.size + 1), H', I4, rfl, q3⟩⟩
    | next => exact hq2.elim
    | brk => exact hq2.elim
    | cont => exact hq2.elim
/-- the keywords' values -/
theorem vk_nil : PK X [] fun σ H K => nest G E [] σ H K := pk_nil
theorem vk_cons {e : Expr} {nm : Option Str} {kpos : Pos} {kws : List Keyword} {os : List Op} {p s : Bool} {m : ME} (h : VE G X E p s e m) (t : PK X kws fun σ H K => nest G E os σ H K) : PK X (⟨nm, e, kpos⟩ :: kws) fun σ H K => nest G E (⟨p, s, m⟩ :: os) σ H K := pk_cons h t
end
end VL
/-! VL, part WK: constants of the module; the head's facts with tables. -/
namespace VL
open PySem L2
mutual
/-- the value u, of the written part, is the tree v -/
def chkV (K : PySem.W.Frag) : Val → Value → Bool
  | .non, .none => true
  | .bl b, .bool c => b == c
  | .int i, .int j _ => decide (i = j)
  | .str x, .str y _ => decide (x = y)
  | .wtp vs, .ref a => (match K.lookup a with
    | some ⟨.type c, _, .seq its _, _⟩ => decide (c = "tuple") && (decide (its.size ≤ 1000) && chkVs K vs its.toList)
    | _ => false)
  | _, _ => false
def chkVs (K : PySem.W.Frag) : List Val → List Value → Bool
  | [], [] => true
  | v :: vs, u :: us => chkV K v u && chkVs K vs us
  | _, _ => false
end
mutual
theorem chkV_ok {K : PySem.W.Frag} : ∀ {v : Val} {u : Value}, chkV K v u = true → ∃ x, RelV x u ∧ ∀ (G : Gam) W H, G.K = K → Rep G W H x v []
  | .non, u, h => by cases u <;> simp [chkV] at h; exact ⟨.non, rfl, fun _ _ _ _ => .non⟩
  | .bl b, u, h => by
    cases u <;> simp [chkV] at h
    subst h
    exact ⟨.bl b, rfl, fun _ _ _ _ => .bl b⟩
  | .int i, u, h => by
    cases u <;> simp [chkV] at h
    subst h
    exact ⟨.int i, ⟨_, rfl⟩, fun _ _ _ _ => .int i⟩
  | .str x, u, h => by
    cases u <;> simp [chkV] at h
    subst h
    exact ⟨.str x, ⟨_, rfl⟩, fun _ _ _ _ => .str x⟩
  | .wtp vs, u, h => by
    cases u with
    | ref a =>
      simp only [chkV] at h
      cases q : K.lookup a with
      | none => rw [q] at h; cases h
      | some o =>
        obtain ⟨oc, od, dt, osl⟩ := o
        rw [q] at h
        cases oc with
        | type c =>
          cases dt with
          | seq its n =>
            simp only [Bool.and_eq_true, decide_eq_true_eq] at h
            obtain ⟨rfl, hz, hv⟩ := h
            obtain ⟨xs, rv, rr⟩ := chkVs_ok hv
            exact ⟨.ref a, rfl, fun G W H hG => .wtp (.inr ⟨_, its, n, hG ▸ q, rfl, rfl, sz_le (by omega), rv⟩) (rr G W H hG)⟩
          | _ => cases h
        | _ => cases dt <;> cases h
    | _ => simp [chkV] at h
  | .ty n, u, h => by simp [chkV] at h
  | .cn n, u, h => by simp [chkV] at h
  | .fn n, u, h => by simp [chkV] at h
  | .tup xs, u, h => by simp [chkV] at h
  | .lst o xs, u, h => by simp [chkV] at h
  | .dct o d ks xs, u, h => by simp [chkV] at h
  | .obj o c fs xs, u, h => by simp [chkV] at h
  | .exn c fs xs, u, h => by simp [chkV] at h
  | .scr ns, u, h => by simp [chkV] at h
  | .wdk ks xs, u, h => by simp [chkV] at h
theorem chkVs_ok {K : PySem.W.Frag} : ∀ {vs : List Val} {us : List Value}, chkVs K vs us = true → ∃ xs, Vals xs us ∧ ∀ (G : Gam) W H, G.K = K → Reps G W H xs vs []
  | [], us, h => by
    cases us with
    | nil => exact ⟨[], .nil, fun _ _ _ _ => .nil⟩
    | cons _ _ => simp [chkVs] at h
  | v :: vs, us, h => by
    cases us with
    | nil => simp [chkVs] at h
    | cons u us =>
      simp only [chkVs, Bool.and_eq_true] at h
      obtain ⟨x, r, q⟩ := chkV_ok h.1
      obtain ⟨xs, rs, qs⟩ := chkVs_ok h.2
      exact ⟨x :: xs, .cons r rs, fun G W H hG => .cons (O := []) (O' := []) (q G W H hG) (qs G W H hG)⟩
end
/-- the global x is the tree v -/
def tConst (x : Str) (v : Val) : Ftest := fun K => chkV K v (.ref (He.ga K x))
theorem const_ok {K : PySem.W.Frag} {x : Str} {v : Val} (h : tConst x v K = true) : ∀ (G : Gam) W H, G.K = K → Rep G W H (.ref (He.ga K x)) v [] := by
  obtain ⟨y, r, q⟩ := chkV_ok h
  cases y with
  | ref a =>
    cases r
    exact q
  | non => cases r
  | bl b => cases r
  | int i => obtain ⟨_, z⟩ := r; cases z
  | str s => obtain ⟨_, z⟩ := r; cases z
  | flt s => obtain ⟨_, z⟩ := r; cases z
  | byt s => obtain ⟨_, z⟩ := r; cases z
  | ty s => cases r
/-- the global x is a dict with these keys and values -/
def tTab (x : Str) (l : List (Str × Val)) : Ftest := fun K => l.all fun q => match PySem.W.nsIn K (He.ga K x) q.1 with
  | some (some u) => chkV K q.2 u
  | _ => false
theorem absent {es : List DictEntry} {P : Params} {ks : List Str} {z : Str} (h : es.map He.keyOf = He.keysIn P ks) (hz : z ∉ ks) : (es.find? (·.key.isStr z)) = none ∧ es.any (·.refKey) = false := by
  induction es generalizing ks with
  | nil => exact ⟨rfl, rfl⟩
  | cons e es ih =>
    cases ks with
    | nil => cases h
    | cons k ks =>
      have h1 : He.keyOf e :: es.map He.keyOf = some (k, PyData.keyHash P k) :: He.keysIn P ks := h
      injection h1 with h2 h3
      obtain ⟨i1, i2⟩ := ih h3 fun q => hz (List.mem_cons_of_mem _ q)
      unfold He.keyOf at h2
      split at h2
      · rename_i x t q
        have h4 := Option.some.inj h2
        obtain ⟨h5, h6⟩ := Prod.mk.inj h4
        subst h5
        have n : (e.key.isStr z) = false := by
          have nz : ¬ x = z := fun w => hz (w ▸ List.mem_cons_self)
          rw [q]
          first | exact decide_eq_false nz | exact beq_false_of_ne nz | simpa [Value.isStr] using nz
        exact ⟨by rw [List.find?_cons, n]; exact i1, by rw [List.any_cons, i2, Bool.or_false]; unfold DictEntry.refKey; rw [q]⟩
      · cases h2
def valT (K : PySem.W.Frag) (P : Params) (t : He.Tab) : Prop := He.dicW K (t.1 K) = some (He.keysIn P t.2)
theorem valV_mem {kvs : List (Key × V)} {k : Key} {v : V} (h : valV kvs k = some v) : (k, v) ∈ kvs := by
  unfold valV at h
  cases e : kvs.find? (fun kv => decide (kv.1 = k)) with
  | none => rw [e] at h; cases h
  | some p =>
    rw [e] at h
    obtain ⟨a, b⟩ := p
    cases h
    have h1 := List.find?_some e
    have h2 := List.mem_of_find?_eq_some e
    have h3 : a = k := of_decide_eq_true h1
    subst h3
    exact h2
theorem tab_ok {K : PySem.W.Frag} {w : World} {xn : Str} {l : List (Str × Val)} (h : tTab xn l K = true) (ht : He.dicW K (He.ga K xn) = some (He.keysIn w.params (l.map (·.1)))) : ∀ (G : Gam) W H, G.K = K → G.w = w → Rep G W H (.ref (He.ga K xn)) (.wdk (l.map fun q => Val.str q.1) (l.map (·.2))) [] := by
  intro G W H hG hw
  subst hG hw
  obtain ⟨es, n, D⟩ := He.dicW_ok ht
  have hk : es.toList.map He.keyOf = He.keysIn G.w.params (l.map (·.1)) := by
    have e := D.at_
    unfold He.dicW at ht
    rw [e] at ht
    dsimp only at ht
    split at ht
    · exact Option.some.inj ht
    · cases ht
  have each : ∀ q ∈ l, ∃ u x, PySem.W.nsIn G.K (He.ga G.K xn) q.1 = some (some u) ∧ RelV x u ∧ Rep G W H x q.2 [] := fun q hq => by
    have h2 := List.all_eq_true.mp h q hq
    split at h2
    · rename_i u e
      obtain ⟨x, r, rr⟩ := chkV_ok h2
      exact ⟨u, x, e, r, rr G W H rfl⟩
    · cases h2
  obtain ⟨kvs, e1, e2, e3⟩ : ∃ kvs : List (Key × V), (kvs.map (·.1)) = l.map (fun q => (Sum.inr q.1 : Key)) ∧ Reps G W H (kvs.map (·.2)) (l.map (·.2)) [] ∧ ∀ p ∈ kvs, ∃ z u, p.1 = .inr z ∧ PySem.W.nsIn G.K (He.ga G.K xn) z = some (some u) ∧ RelV p.2 u := by
    clear hk ht h
    induction l with
    | nil => exact ⟨[], rfl, .nil, fun _ z => nomatch z⟩
    | cons q l ih =>
      obtain ⟨u, x, g1, g2, g3⟩ := each q List.mem_cons_self
      obtain ⟨kvs, i1, i2, i3⟩ := ih fun q hq => each q (List.mem_cons_of_mem _ hq)
      refine ⟨(.inr q.1, x) :: kvs, by simp [i1], .cons (O := []) (O' := []) g3 i2, fun p hp => ?_⟩
      rcases List.mem_cons.mp hp with z | z
      · subst z; exact ⟨q.1, u, rfl, g1, g2⟩
      · exact i3 p z
  refine .wdk (kvs := kvs) ⟨⟨es, n, D⟩, fun z v hv => ?_, fun z hz => ?_⟩ ?_ e2
  · obtain ⟨z', u, q1, q2, q3⟩ := e3 _ (valV_mem hv)
    cases q1
    exact ⟨es, n, u, D.at_, D.lit, q2, q3⟩
  · have nin : z ∉ l.map (·.1) := fun w => by
      have : (Sum.inr z : Key) ∈ kvs.map (·.1) := by
        rw [e1]
        obtain ⟨q, hq, e⟩ := List.mem_map.mp w
        exact List.mem_map.mpr ⟨q, hq, by rw [e]⟩
      obtain ⟨p, hp, e⟩ := List.mem_map.mp this
      have a := valV_any (Sum.inr z) kvs
      rw [hz] at a
      have b : (kvs.any fun kv => decide (kv.1 = Sum.inr z)) = true := List.any_eq_true.mpr ⟨p, hp, by simp [e]⟩
      rw [b] at a
      cases a
    obtain ⟨f1, f2⟩ := absent hk nin
    unfold PySem.W.nsIn
    rw [D.at_]
    dsimp only
    rw [f1, f2]
    rfl
  · have := congrArg (List.map ofKey) e1
    simpa [List.map_map, Function.comp_def, ofKey] using this.symm

/-! ### facts by any test, defs, tables: read by the head -/
abbrev AlW : Type := He.AlD × List (Option (List (Option (Str × Int))))
def obsW (fa : List (PySem.W.Frag → Bool)) (fn : List VDef) (ts : List He.Tab) (K : PySem.W.Frag) : AlW := (obsV fa fn K, ts.map fun t => He.dicW K (t.1 K))
def valW (fn : List VDef) (ts : List He.Tab) (w : World) : AlW := ((true, fn.map VDef.shape), ts.map fun t => some (He.keysIn w.params t.2))
def SaysW (fa : List (PySem.W.Frag → Bool)) (fn : List VDef) (ts : List He.Tab) (w : World) (K : PySem.W.Frag) : Prop := obsW fa fn ts K = valW fn ts w
/-! ### the part of the heap that is looked at: what the module's names reach in n steps, each object once -/
def visitK {α : Type} : List Addr → Nat → List Addr → (Nat → List Addr → α) → α
  | [], seen, new, k => k seen new
  | a :: r, seen, new, k => match Nat.testBit seen a with
    | true => visitK r seen new k
    | false => HandSHeadRun.frNat (seen ||| (1 <<< a)) fun seen' => HandSHeadRun.frNat a fun a' => visitK r seen' (a' :: new) k
theorem visitK_ok : ∀ (l : List Addr) (seen : Nat) (new : List Addr), ∃ seen' new', ∀ (α : Type) (k : Nat → List Addr → α), visitK l seen new k = k seen' new'
  | [], seen, new => ⟨seen, new, fun _ _ => rfl⟩
  | a :: r, seen, new => by
    cases h : Nat.testBit seen a with
    | true =>
      obtain ⟨s', n', e⟩ := visitK_ok r seen new
      exact ⟨s', n', fun α k => by unfold visitK; rw [h]; exact e α k⟩
    | false =>
      obtain ⟨s', n', e⟩ := visitK_ok r (seen ||| (1 <<< a)) (a :: new)
      exact ⟨s', n', fun α k => by unfold visitK; rw [h]; dsimp only; rw [HandSHeadRun.frNat_eq, HandSHeadRun.frNat_eq]; exact e α k⟩
def growK {α : Type} (g : Addr → Option Obj) : List Addr → Nat → List Addr → PySem.W.Frag → (Nat → List Addr → PySem.W.Frag → α) → α
  | [], seen, new, K, k => k seen new K
  | a :: r, seen, new, K, k => match g a with
    | some o => visitK (He.refsD o) seen new fun seen new => growK g r seen new ((a, o) :: K) k
    | none => growK g r seen new K k
def GoodK (g : Addr → Option Obj) (K : PySem.W.Frag) : Prop := ∀ p ∈ K, g p.1 = some p.2
theorem growK_ok (g : Addr → Option Obj) : ∀ (l : List Addr) (seen : Nat) (new : List Addr) (K : PySem.W.Frag), GoodK g K → ∃ seen' new' K', GoodK g K' ∧ ∀ (α : Type) (k : Nat → List Addr → PySem.W.Frag → α), growK g l seen new K k = k seen' new' K'
  | [], seen, new, K, h => ⟨seen, new, K, h, fun _ _ => rfl⟩
  | a :: r, seen, new, K, h => by
    cases e : g a with
    | none =>
      obtain ⟨s', n', K', h', e'⟩ := growK_ok g r seen new K h
      exact ⟨s', n', K', h', fun α k => by unfold growK; rw [e]; exact e' α k⟩
    | some o =>
      obtain ⟨s1, n1, e1⟩ := visitK_ok (He.refsD o) seen new
      obtain ⟨s', n', K', h', e'⟩ := growK_ok g r s1 n1 ((a, o) :: K) (fun p hp => (List.mem_cons.mp hp).elim (fun z => by rw [z]; exact e) (h p))
      exact ⟨s', n', K', h', fun α k => by unfold growK; rw [e]; dsimp only; rw [e1]; exact e' α k⟩
def revK {α : Type} : PySem.W.Frag → PySem.W.Frag → (PySem.W.Frag → α) → α
  | [], acc, k => k acc
  | p :: r, acc, k => revK r (p :: acc) k
theorem revK_ok {g : Addr → Option Obj} : ∀ (K acc : PySem.W.Frag), GoodK g K → GoodK g acc → ∃ K', GoodK g K' ∧ ∀ (α : Type) (k : PySem.W.Frag → α), revK K acc k = k K'
  | [], acc, _, h => ⟨acc, h, fun _ _ => rfl⟩
  | p :: r, acc, h1, h2 => revK_ok r (p :: acc) (fun q hq => h1 q (List.mem_cons_of_mem _ hq)) fun q hq => (List.mem_cons.mp hq).elim (fun z => by rw [z]; exact h1 p List.mem_cons_self) (h2 q)
def bfsK {α : Type} (g : Addr → Option Obj) : Nat → List Addr → Nat → PySem.W.Frag → (PySem.W.Frag → α) → α
  | 0, _, _, K, k => revK K [] k
  | n + 1, l, seen, K, k => growK g l seen [] K fun seen new K => bfsK g n new seen K k
theorem bfsK_ok (g : Addr → Option Obj) : ∀ (n : Nat) (l : List Addr) (seen : Nat) (K : PySem.W.Frag), GoodK g K → ∃ K', GoodK g K' ∧ ∀ (α : Type) (k : PySem.W.Frag → α), bfsK g n l seen K k = k K'
  | 0, _, _, K, h => revK_ok K [] h fun _ z => nomatch z
  | n + 1, l, seen, K, h => by
    obtain ⟨s1, n1, K1, h1, e1⟩ := growK_ok g l seen [] K h
    obtain ⟨K2, h2, e2⟩ := bfsK_ok g n n1 s1 K1 h1
    exact ⟨K2, h2, fun α k => by unfold bfsK; rw [e1]; exact e2 α k⟩
/-- .. and the table of the interpreter's statics, which readsIn asks -/
def withK {α : Type} (g : Addr → Option Obj) (n : Nat) (k : PySem.W.Frag → α) : α := HandSHeadRun.frNat (1 <<< mainGlobals) fun s => match g cStatics with
  | some o => bfsK g n [mainGlobals] s [(cStatics, o)] k
  | none => bfsK g n [mainGlobals] s [] k
theorem goodK_in {g : Addr → Option Obj} : ∀ {K : PySem.W.Frag}, GoodK g K → ∀ a o, K.lookup a = some o → g a = some o
  | [], _, _, _, e => nomatch (show (none : Option Obj) = some _ from e)
  | (b, x) :: r, h, a, o, e => by
    have e2 : (match a == b with | true => some x | false => r.lookup a) = some o := e
    cases q : a == b with
    | true =>
      rw [q] at e2
      cases e2
      have : a = b := by simpa using q
      rw [this]
      exact h (b, x) List.mem_cons_self
    | false =>
      rw [q] at e2
      exact goodK_in (fun p hp => h p (List.mem_cons_of_mem _ hp)) a o e2
theorem withK_ok (g : Addr → Option Obj) (n : Nat) : ∃ K : PySem.W.Frag, (∀ a o, K.lookup a = some o → g a = some o) ∧ ∀ (α : Type) (k : PySem.W.Frag → α), withK g n k = k K := by
  cases hc : g cStatics with
  | some o =>
    obtain ⟨K, h, e⟩ := bfsK_ok g n [mainGlobals] (1 <<< mainGlobals) [(cStatics, o)] (fun p hp => by rw [List.mem_singleton.mp hp]; exact hc)
    exact ⟨K, goodK_in h, fun α k => by unfold withK; rw [HandSHeadRun.frNat_eq, hc]; exact e α k⟩
  | none =>
    obtain ⟨K, h, e⟩ := bfsK_ok g n [mainGlobals] (1 <<< mainGlobals) [] (fun _ z => nomatch z)
    exact ⟨K, goodK_in h, fun α k => by unfold withK; rw [HandSHeadRun.frNat_eq, hc]; exact e α k⟩
def obsWG (n : Nat) (fa : List (PySem.W.Frag → Bool)) (fn : List VDef) (ts : List He.Tab) (g : Addr → Option Obj) : AlW := withK g n (obsW fa fn ts)
def hookW (n : Nat) (fa : List (PySem.W.Frag → Bool)) (fn : List VDef) (ts : List He.Tab) : PySem.W.Hook where
  α := AlW
  obs := fun s => obsWG n fa fn ts s.heap.get?
  val := fun w => valW fn ts w
  says := fun w h => ∃ K : PySem.W.Frag, K.In h ∧ SaysW fa fn ts w K
  of := fun _ s e => by
    obtain ⟨K, hK, eK⟩ := withK_ok s.heap.get? n
    exact ⟨K, hK, (eK _ _).symm.trans e⟩
  keeps := fun _ _ _ ⟨K, hK, c⟩ k => ⟨K, PySem.W.Frag.In.keeps hK k, c⟩
theorem obsWG_eq {n : Nat} {fa : List (PySem.W.Frag → Bool)} {fn : List VDef} {ts : List He.Tab} {g : Addr → Option Obj} {s : Shared} (h : ∀ a, g a = s.heap.get? a) : obsWG n fa fn ts g = (hookW n fa fn ts).obs s := by
  have e : g = s.heap.get? := funext h
  rw [e]; rfl
section
variable {fa : List (PySem.W.Frag → Bool)} {fn : List VDef} {ts : List He.Tab} {w : World} {K : PySem.W.Frag}
theorem SaysW.v (c : SaysW fa fn ts w K) : SaysV fa fn K := congrArg (fun z : AlW => z.1) c
theorem SaysW.tab (c : SaysW fa fn ts w K) (i : Nat) {t : He.Tab} (h : ts[i]? = some t := by rfl) : He.dicW K (t.1 K) = some (He.keysIn w.params t.2) := by
  have e : ts.map (fun t => He.dicW K (t.1 K)) = ts.map fun t => some (He.keysIn w.params t.2) := congrArg (fun z : AlW => z.2) c
  have e2 : (ts.map fun t => He.dicW K (t.1 K))[i]? = (ts.map fun t => some (He.keysIn w.params t.2))[i]? := by rw [e]
  rw [List.getElem?_map, List.getElem?_map, h] at e2
  exact Option.some.inj e2
end
end VL
/-! VL, part WL: defs that call each other, some levels deep. -/
namespace VL
open PySem L2
def mfNone : MF := fun _ => .bad
theorem ok_none {P : Program} {w : World} {K : PySem.W.Frag} {mg : Str → Option Value} {base : Heap} {G : Gam} {d : VDef} {k : Nat} {ps : List Str} (F : ∃ fd, FunV K d fd) : Ok P w K mg base G d k ps mfNone := by
  obtain ⟨fd, F⟩ := F
  refine ⟨fd, F, fun vs H Q E h => h.1, fun A outer s H args us vs Q E hr he hb hv h => ?_⟩
  obtain ⟨_, R, ws, Oa, rel, post⟩ := h
  exact post.elim
end VL
/-! VL, part WM: walks over a dict's keys (the dict stands locked meanwhile). -/
namespace VL
open PySem L2

/-- H and H' differ at most in whether the dict at d is locked -/
structure Xc (d : Addr) (kvs : List (Key × V)) (H H' : Hp) : Prop where
  off : ∀ a, a ≠ d → H' a = H a
  old : Rd H d (.dK kvs)
  new : Rd H' d (.dK kvs)
section
variable {G : Gam} {W : Addr → Prop} {H H' : Hp} {d : Addr} {kvs : List (Key × V)}
theorem Xc.at (X : Xc d kvs H H') {a : Addr} {o : HO} (h : H a = some o) (h1 : o ≠ .dK kvs) (h2 : ∀ od, o ≠ .frz od (.dK kvs)) : H' a = some o := by
  rw [X.off a fun z => ?_]; exact h
  subst z
  rcases X.old with e | ⟨od, e⟩
  · rw [h] at e; cases e; exact h1 rfl
  · rw [h] at e; cases e; exact h2 _ rfl
theorem Xc.fz (X : Xc d kvs H H') {a : Addr} {o : HO} (h : Fz W H a o) (h1 : o ≠ .dK kvs) (h2 : ∀ od, o ≠ .frz od (.dK kvs)) : Fz W H' a o := ⟨X.at h.1 h1 h2, h.2⟩
theorem Xc.fd (X : Xc d kvs H H') {a : Addr} {ks : List (Key × V)} (h : Fd W H a (.dK ks)) : Fd W H' a (.dK ks) := by
  refine ⟨?_, h.2⟩
  by_cases e : a = d
  · subst e
    have : ks = kvs := by
      rcases h.1 with q | ⟨o, q⟩ <;> rcases X.old with r | ⟨o', r⟩ <;> rw [q] at r <;> cases r <;> rfl
    subst this
    exact X.new
  · rcases h.1 with q | ⟨o, q⟩
    · exact .inl ((X.off a e).trans q)
    · exact .inr ⟨o, (X.off a e).trans q⟩
mutual
theorem Rep.xc {x : V} {v : Val} {O : List Addr} (r : Rep G W H x v O) (X : Xc d kvs H H') (nd : d ∉ O) : Rep G W H' x v O := by
  cases r with
  | non => exact .non
  | bl b => exact .bl b
  | int i => exact .int i
  | str x => exact .str x
  | ty n => exact .ty n
  | cn h => exact .cn h
  | fn h => exact .fn h
  | tup h r => exact .tup (X.fz h (fun z => nomatch z) fun _ z => nomatch z) (r.xc X nd)
  | wtp h r => exact .wtp h (r.xc X fun z => nomatch z)
  | lstO h r => exact .lstO (X.at h (fun z => nomatch z) fun _ z => nomatch z) (r.xc X fun z => nd (List.mem_cons_of_mem _ z))
  | lstF h r => exact .lstF (X.fz h (fun z => nomatch z) fun _ z => nomatch z) (r.xc X fun z => nomatch z)
  | scr h => exact .scr (h.imp (fun ⟨o, e, nw⟩ => ⟨o, X.at e (fun z => nomatch z) (fun _ z => nomatch z), nw⟩) id)
  | wdk h hk r => exact .wdk h hk (r.xc X fun z => nomatch z)
  | dkO h hk r => exact .dkO ((X.off _ fun z => nd (z ▸ List.mem_cons_self)).trans h) hk (r.xc X fun z => nd (List.mem_cons_of_mem _ z))
  | dkF h hk r => exact .dkF (X.fd h) hk (r.xc X fun z => nomatch z)
  | dtO h hk r => exact .dtO (X.at h (fun z => nomatch z) fun _ z => nomatch z) hk (r.xc X fun z => nd (List.mem_cons_of_mem _ z))
  | dtF h hk r => exact .dtF (X.fz h (fun z => nomatch z) fun _ z => nomatch z) hk (r.xc X fun z => nomatch z)
  | dnO h hk hn r => exact .dnO (X.at h (fun z => nomatch z) fun _ z => nomatch z) (hk.xc X fun z => nomatch z) hn (r.xc X fun z => nomatch z)
  | dnF h hk hn r => exact .dnF ⟨h.1.imp (fun e => X.at e (fun z => nomatch z) fun _ z => nomatch z) fun ⟨o, e⟩ => ⟨o, X.at e (fun z => nomatch z) fun _ z => nomatch z⟩, h.2⟩ (hk.xc X fun z => nomatch z) hn (r.xc X fun z => nomatch z)
  | objO h hc hn r => exact .objO (X.at h (fun z => nomatch z) fun _ z => nomatch z) hc hn (r.xc X fun z => nd (List.mem_cons_of_mem _ z))
  | objF h hc hn r => exact .objF (X.fz h (fun z => nomatch z) fun _ z => nomatch z) hc hn (r.xc X fun z => nomatch z)
  | exn hh hc h hn r => exact .exn hh hc ⟨X.at h.1 (fun z => nomatch z) (fun _ z => nomatch z), h.2⟩ hn (r.xc X fun z => nomatch z)
theorem Reps.xc {xs : List V} {vs : List Val} {O : List Addr} (r : Reps G W H xs vs O) (X : Xc d kvs H H') (nd : d ∉ O) : Reps G W H' xs vs O := by
  cases r with
  | nil => exact .nil
  | cons r t => exact .cons (r.xc X fun z => nd (List.mem_append_left _ z)) (t.xc X fun z => nd (List.mem_append_right _ z))
end
theorem Rel.xc {R : Addr → Prop} {σ : L2.St} {ρ : VEnv} {Os : Nat → List Addr} (r : Rel G R H σ ρ Os) (X : Xc d kvs H H') (nd : ¬ We Os d) : Rel G R H' σ ρ Os := by
  refine ⟨r.len, fun i v hv => ?_, r.nil, r.nd, r.dj, r.dr, fun a ha => ?_⟩
  · obtain ⟨x, hx, q⟩ := r.rep i v hv
    exact ⟨x, hx, q.xc X fun z => nd ⟨i, z⟩⟩
  · by_cases e : a = d
    · subst e
      rcases X.new with q | ⟨o, q⟩ <;> exact ⟨_, q⟩
    · rw [X.off a e]; exact r.rt a ha
end
theorem rep_dkF {G : Gam} {W : Addr → Prop} {H : Hp} {x : V} {ks vs : List Val} {O : List Addr} (r : Rep G W H x (.dct false .k ks vs) O) : ∃ d kvs, x = .ref d ∧ Fd W H d (.dK kvs) ∧ ks = kvs.map fun p => ofKey p.1 := by
  cases r with
  | dkF h hk q => exact ⟨_, _, rfl, h, hk⟩
/-- slot i holds a dict that stands locked -/
def Lk (i : Nat) (σ : L2.St) (H : Hp) : Prop := ∃ d o kvs, σ[i]? = some (some (.ref d)) ∧ H d = some (.frz o (.dK kvs))
def noX : RE → RE
  | .ok v ρ => .ok v ρ
  | _ => .bad
def mHold (i : Nat) (m : ME) : ME := fun ρ => match ρ[i]? with
  | some (some (.dct false .k _ _)) => noX (m ρ)
  | _ => .bad
def noXS : RS → RS
  | .exc _ _ => .bad
  | r => r
def sHold (i : Nat) (m : MS) : MS := fun ρ => match ρ[i]? with
  | some (some (.dct false .k _ _)) => noXS (m ρ)
  | _ => .bad
/-- the keys of the dict in slot i -/
def mKeysD (i : Nat) : MI := fun ρ => match ρ[i]? with
  | some (some (.dct false .k ks _)) => .ok ks ρ
  | _ => .bad
section
variable {G : Gam} {X : Cx} {E : WX} {e tg : Expr} {m : ME} {i : Nat} {p : Bool}
theorem keep_xc {R : Addr → Prop} {σ : L2.St} {H H' : Hp} {Os Os' : Nat → List Addr} {Z : Addr → Prop} {d : Addr} {od : Obj} {u : HO} (hd : H d = some u) (k : KeepE (upd H d (.frz od u)) Os H' Os' Z) (nd : ¬ We Os d) : H' d = some (.frz od u) ∧ ¬ We Os' d ∧ ¬ Z d ∧ KeepE H Os (upd H' d u) Os' Z := by
  obtain ⟨e, n1, n2⟩ := k d _ upd_same nd
  refine ⟨e, n1, n2, fun a o ha nw => ?_⟩
  by_cases z : a = d
  · subst z
    rw [hd] at ha; cases ha
    exact ⟨upd_same, n1, n2⟩
  · obtain ⟨e1, m1, m2⟩ := k a o (by rw [upd_ne z]; exact ha) nw
    exact ⟨by rw [upd_ne z]; exact e1, m1, m2⟩
theorem xc_up {H : Hp} {d : Addr} {kvs : List (Key × V)} {od : Obj} (hd : H d = some (.dK kvs)) : Xc d kvs H (upd H d (.frz od (.dK kvs))) := ⟨fun a z => upd_ne z, .inl hd, .inr ⟨od, upd_same⟩⟩
theorem xc_down {H : Hp} {d : Addr} {kvs : List (Key × V)} {od : Obj} (hd : H d = some (.frz od (.dK kvs))) : Xc d kvs H (upd H d (.dK kvs)) := ⟨fun a z => upd_ne z, .inr ⟨od, hd⟩, .inl upd_same⟩
theorem ve_hold (h : PE X e (fun σ H Q => Lk i σ H ∧ rd G E p true m σ H Q)) : VE G X E false true e (mHold i m) := by
  refine ⟨fun pins s σ H Q I q => ?_⟩
  obtain ⟨R, ρ, Os, rel, post⟩ := q
  unfold mHold at post
  split at post
  rotate_left
  · exact post.elim
  rename_i ks vs hv
  obtain ⟨x, hx, rep⟩ := rel.rep i _ hv
  obtain ⟨d, kvs, rfl, hd, hk⟩ := rep_dkF rep
  · have nW : ¬ We Os d := fun z => hd.2 (.inr z)
    have nR : ¬ R d := fun z => hd.2 (.inl z)
    rcases hd.1 with hd1 | ⟨o, hd1⟩
    · refine (pe_lock h).run pins s σ H Q I ⟨d, .dK kvs, hd1, trivial, fun od => ⟨⟨d, od, kvs, hx, upd_same⟩, R, ρ, Os, rel.xc (xc_up hd1) nW, ?_⟩⟩
      unfold noX at post
      cases hm : m ρ with
      | bad => rw [hm] at post; exact post
      | exc e ρ' => rw [hm] at post; exact post.elim
      | ok v ρ' =>
        rw [hm] at post
        intro x H' Os' O rel' rep' nd k _
        obtain ⟨e1, n1, n2, k2⟩ := keep_xc (R := R) (σ := σ) hd1 k nW
        have nO : d ∉ O := fun z => n2 ⟨rfl, z⟩
        exact ⟨e1, post x _ Os' O (rel'.xc (xc_down e1) n1) (rep'.xc (xc_down e1) nO) nd k2 fun z => by cases z⟩
    · refine h.run pins s σ H Q I ⟨⟨d, o, kvs, hx, hd1⟩, R, ρ, Os, rel, ?_⟩
      unfold noX at post
      cases hm : m ρ with
      | bad => rw [hm] at post; exact post
      | exc e ρ' => rw [hm] at post; exact post.elim
      | ok v ρ' => rw [hm] at post; exact fun x H' Os' O rel' rep' nd k _ => post x H' Os' O rel' rep' nd k fun z => by cases z
theorem vs_hold {bs : List Bool} {σ0 : L2.St} {st : Stmt} {m : MS} (h : PS X st (fun D σ H => Lk i σ H ∧ tS G E bs σ0 m D σ H)) : VS G X E bs σ0 st (sHold i m) := by
  refine ⟨fun pins s σ H D I q => ?_⟩
  obtain ⟨R, ρ, Os, rel, pin, post⟩ := q
  unfold sHold at post
  split at post
  rotate_left
  · exact post.elim
  rename_i ks vs hv
  obtain ⟨x, hx, rep⟩ := rel.rep i _ hv
  obtain ⟨d, kvs, rfl, hd, hk⟩ := rep_dkF rep
  · have nW : ¬ We Os d := fun z => hd.2 (.inr z)
    have nR : ¬ R d := fun z => hd.2 (.inl z)
    rcases hd.1 with hd1 | ⟨o, hd1⟩
    · refine (ps_lock h).run pins s σ H D I ⟨d, .dK kvs, hd1, trivial, fun od => ⟨⟨d, od, kvs, hx, upd_same⟩, R, ρ, Os, rel.xc (xc_up hd1) nW, pin, ?_⟩⟩
      unfold noXS at post
      cases hm : m ρ with
      | bad => rw [hm] at post; exact post
      | exc e ρ' => rw [hm] at post; exact post.elim
      | nx ρ' =>
        rw [hm] at post
        intro σ' H' Os' pin' rel' k
        obtain ⟨e1, n1, n2, k2⟩ := keep_xc (R := R) (σ := σ) hd1 k nW
        exact ⟨e1, post σ' _ Os' pin' (rel'.xc (xc_down e1) n1) k2⟩
      | bk ρ' =>
        rw [hm] at post
        intro σ' H' Os' pin' rel' k
        obtain ⟨e1, n1, n2, k2⟩ := keep_xc (R := R) (σ := σ) hd1 k nW
        exact ⟨e1, post σ' _ Os' pin' (rel'.xc (xc_down e1) n1) k2⟩
      | ct ρ' =>
        rw [hm] at post
        intro σ' H' Os' pin' rel' k
        obtain ⟨e1, n1, n2, k2⟩ := keep_xc (R := R) (σ := σ) hd1 k nW
        exact ⟨e1, post σ' _ Os' pin' (rel'.xc (xc_down e1) n1) k2⟩
      | rt v ρ' =>
        rw [hm] at post
        intro x σ' H' Os' O pin' rel' rep' nd k
        obtain ⟨e1, n1, n2, k2⟩ := keep_xc (R := R) (σ := σ) hd1 k nW
        have nO : d ∉ O := fun z => n2 ⟨rfl, z⟩
        exact ⟨e1, post x σ' _ Os' O pin' (rel'.xc (xc_down e1) n1) (rep'.xc (xc_down e1) nO) nd k2⟩
    · refine h.run pins s σ H D I ⟨⟨d, o, kvs, hx, hd1⟩, R, ρ, Os, rel, pin, ?_⟩
      unfold noXS at post
      cases hm : m ρ with
      | exc e ρ' => rw [hm] at post; exact post.elim
      | _ => rw [hm] at post; exact post
theorem walk_keys {W : Addr → Prop} {H : Hp} {d : Addr} {o : Obj} {kvs : List (Key × V)} (h : H d = some (.frz o (.dK kvs))) (nw : ¬ W d) : Walk G W H (Itk d o kvs) (kvs.map fun p => ofKey p.1) := by
  intro W' H' kp i
  have h' := (kp _ _ h nw).1
  refine ⟨fun z => ⟨h', by simpa using z⟩, fun u hu => ?_⟩
  rw [List.getElem?_map] at hu
  cases hq : kvs[i]? with
  | none => rw [hq] at hu; cases hu
  | some q =>
    rw [hq] at hu
    cases hu
    refine ⟨⟨h', (List.getElem?_eq_some_iff.mp hq).1⟩, fun x H'' ⟨e1, k, v, e2, e3⟩ => ?_⟩
    rw [hq] at e2
    cases e2
    subst e1 e3
    refine ⟨fun _ _ e => e, fun _ => ?_⟩
    cases k with
    | inl i => exact .int i
    | inr z => exact .str z
theorem mKeysD_cases (i : Nat) (ρ : VEnv) : mKeysD i ρ = .bad ∨ ∃ ks vs, ρ[i]? = some (some (.dct false .k ks vs)) ∧ mKeysD i ρ = .ok ks ρ := by
  unfold mKeysD
  split
  · rename_i ks vs h; exact .inr ⟨ks, vs, h, rfl⟩
  · exact .inl rfl
/-- for k in d, the dict locked -/
theorem pi_keysL (h : PE X e (tVar i)) : PI X tg e (fun σ H K => Lk i σ H ∧ tI G E (mKeysD i) σ H K) := by
  refine PI.pre (pi_keys h) fun σ H K ⟨⟨d, o, kvs, hx, hd⟩, R, ρ, Os, rel, post⟩ => ?_
  rcases mKeysD_cases i ρ with em | ⟨ks, vs, hv, em⟩
  · rw [em] at post; exact post.elim
  rw [em] at post
  obtain ⟨x, hx', rep⟩ := rel.rep i _ hv
  obtain ⟨d', kvs', rfl, hd', hk⟩ := rep_dkF rep
  · rw [hx] at hx'; cases hx'
    have e : kvs' = kvs := by
      rcases hd'.1 with q | ⟨o', q⟩ <;> rw [q] at hd <;> cases hd; rfl
    subst e
    refine ⟨_, hx, d, o, rfl, .inl ⟨kvs', hd, post (Itk d o kvs') H Os rel ?_ KeepE.refl⟩⟩
    rw [hk]
    exact walk_keys hd hd'.2
/-- [elt for k in d if ..] -/
theorem ve_lcK {sb : Bool} {pos : Pos} {elt : Expr} {ifs : List Expr} {scope : Scope} {own : List (Str × Nat)} {g : MG} {tt me : ME} (hc : X.calm = true) (hN : X.N.Nodup) (hv : PE X e (tVar i)) (ok : BlkOk X.N X.env.scope scope own)
    (hg : ∀ (s : Shared) (H : Hp) (C : Addr) (cl : List (Str × Addr)) (fp : List Addr) (σ0 : L2.St), VG G (X.blk s H scope (compEnvC scope cl C X.env) fp) (pinsBut X.N.length (own.map (·.2))) σ0 tg g)
    (ht : ∀ (s : Shared) (H : Hp) (C : Addr) (cl : List (Str × Addr)) (fp : List Addr), PTs (X.blk s H scope (compEnvC scope cl C X.env) fp) ifs (tT G WF p tt))
    (he : ∀ (s : Shared) (H : Hp) (C : Addr) (cl : List (Str × Addr)) (fp : List Addr), VE G (X.blk s H scope (compEnvC scope cl C X.env) fp) WF sb true elt me) (hs : ∀ x, foldedSetIterable e X.env x = pure x := by intro _; rfl) :
    VE G X E false true (.ListComp elt [⟨tg, e, ifs, 0⟩] scope pos) (mHold i (mLc (mKeysD i) g tt me (own.map (·.2)))) := by
  have hg2 : ∀ (s : Shared) (H : Hp) (C : Addr) (cl : List (Str × Addr)) (fp : List Addr), PG (X.blk s H scope (compEnvC scope cl C X.env) fp) tg (fun x σ H Q => ∃ σ0, tG G (pinsBut X.N.length (own.map (·.2))) σ0 g x σ H Q) := fun s H C cl fp =>
    ⟨fun pins st σ H' v u Q I r ⟨σ0, q⟩ => (hg s H C cl fp σ0).run pins st σ H' v u Q I r q⟩
  refine ve_hold (p := false) ⟨fun pins s1 σ H Q I h => (pe_lc hc hN (pi_keysL (G := G) (E := E) (tg := tg) hv) ok hg2 ht he hs).run pins s1 σ H Q I ?_⟩
  have q := lc_reading (p := p) (sb := sb) (tg := tg) (iter := e) (elt := elt) rfl I.len h.2
  exact ⟨h.1, q⟩
/-- for k in d: -/
theorem vs_forK {bs : List Bool} {σ0 : L2.St} {pos : Pos} {body : List Stmt} {g : MG} {mb : MS} (hp : PassesOwn (model X.prog X.w) X.A X.env X.xe) (hc : X.calm = true) (hv : PE X e (tVar i)) (hg : VG G X bs σ0 tg g) (hb : VSs G X E bs σ0 body mb) (hs : ∀ x, foldedSetIterable e X.env x = pure x := by intro _; rfl) :
    VS G X E bs σ0 (.For tg e body [] pos) (sHold i (mFor (mKeysD i) g mb)) := by
  refine vs_hold ⟨fun pins s1 σ H D I h => (ps_for hp hc (pi_keysL (G := G) (E := E) (tg := tg) hv) hg hb hs).run pins s1 σ H D I ?_⟩
  exact ⟨h.1, for_reading rfl h.2⟩
end
end VL
/-! VL, part WN: targets that change what stands (d[k] = v, x.f = v), for values that nobody changes. -/
namespace VL
open PySem L2

/-- the target takes a value that nobody changes -/
def tGd (G : Gam) (bs : List Bool) (σ0 : L2.St) (g : MG) : TG := fun x σ H Q => ∃ R ρ Os v, (∀ a, R a → ∃ o, H a = some o ∧ ¬ We Os a) ∧ Rel G R H σ ρ Os ∧ Rep G (WW R Os) H x v [] ∧ PinB bs σ0 σ ∧
  (match g v ρ with
    | some ρ' => ∀ σ' H' Os', PinB bs σ0 σ' → σ'.length = σ.length → Rel G R H' σ' ρ' Os' → KeepE H Os H' Os' (fun _ => False) → Q σ' H'
    | none => False)
def tGds (G : Gam) (bs : List Bool) (σ0 : L2.St) (g : MGs) : TGs := fun xs σ H Q => ∃ R ρ Os vs, (∀ a, R a → ∃ o, H a = some o ∧ ¬ We Os a) ∧ Rel G R H σ ρ Os ∧ Reps G (WW R Os) H xs vs [] ∧ PinB bs σ0 σ ∧
  (match g vs ρ with
    | some ρ' => ∀ σ' H' Os', PinB bs σ0 σ' → σ'.length = σ.length → Rel G R H' σ' ρ' Os' → KeepE H Os H' Os' (fun _ => False) → Q σ' H'
    | none => False)
def VGd (G : Gam) (X : Cx) (bs : List Bool) (σ0 : L2.St) (tg : Expr) (g : MG) : Prop := PG X tg (tGd G bs σ0 g)
def VGds (G : Gam) (X : Cx) (bs : List Bool) (σ0 : L2.St) (tg : List Expr) (g : MGs) : Prop := PGs X tg (tGds G bs σ0 g)
/-- d[k] = v, the dict in slot i -/
def gPutD (i : Nat) (mk : ME) : MG := fun v ρ => match mk ρ with
  | .ok kv ρ2 => if ρ2 = ρ ∧ isKey .k kv = true then (match ρ[i]? with
    | some (some (.dct true .k ks vs)) => if fzs vs = true ∧ ks.length = vs.length ∧ ks.length < 16777216 then some (ρ.set i (some (dctOf (putD (ks.zip vs) kv v)))) else none
    | _ => none) else none
  | _ => none
/-- the value is frozen, then stored -/
def mAsgD (m : ME) (g : MG) : MS := fun ρ => match m ρ with
  | .ok v ρ' => if v.fz = true then (match g v ρ' with
    | some ρ2 => .nx ρ2
    | none => .bad) else .bad
  | .exc e ρ' => .exc e ρ'
  | .bad => .bad
section
variable {G : Gam} {X : Cx} {E : WX} {bs : List Bool} {σ0 : L2.St} {pos pos' : Pos} {p : Bool} {m : ME}
theorem vgd_of {tg : Expr} {g : MG} (h : VG G X bs σ0 tg g) : VGd G X bs σ0 tg g := by
  refine PG.pre h fun x σ H Q ⟨R, ρ, Os, v, hr, rel, rep, pin, post⟩ => ?_
  have e0 : R = fun a => R a ∨ a ∈ ([] : List Addr) := setEq fun a => ⟨.inl, fun z => z.elim id fun z => nomatch z⟩
  refine ⟨R, ρ, Os, v, [], e0 ▸ rel, e0 ▸ rep, List.nodup_nil, fun a z => (nomatch z), pin, ?_⟩
  cases hg : g v ρ with
  | none => rw [hg] at post; exact post
  | some ρ' =>
    rw [hg] at post
    exact fun σ' Os' p1 l1 r1 w1 => post σ' H Os' p1 l1 r1 fun a o e nw => ⟨e, (fun z => (w1 a z).elim nw (fun z => nomatch z)), id⟩
theorem vgds_nil : VGds G X bs σ0 [] gNilV := by
  refine PGs.pre pgs_nil fun xs σ H Q ⟨R, ρ, Os, vs, hr, rel, reps, pin, post⟩ => ?_
  unfold gNilV at post
  cases vs with
  | cons v vs => exact post.elim
  | nil =>
    cases reps
    exact ⟨rfl, post σ H Os pin rfl rel KeepE.refl⟩
theorem vgds_cons {e : Expr} {es : List Expr} {g : MG} {gs : MGs} (h1 : VGd G X bs σ0 e g) (h2 : VGds G X bs σ0 es gs) (hs : (assignEach (e :: es) X.env).map (·.2) = assign e X.env :: (assignEach es X.env).map (·.2) := by rfl) : VGds G X bs σ0 (e :: es) (gConsV g gs) := by
  refine PGs.pre (pgs_cons h1 h2 hs) fun xs σ H Q ⟨R, ρ, Os, vs, hr, rel, reps, pin, post⟩ => ?_
  unfold gConsV at post
  cases vs with
  | nil => exact post.elim
  | cons v vs =>
    dsimp only at post
    obtain ⟨x, xs', rfl, r, t⟩ := reps.inv0
    refine ⟨x, xs', rfl, R, ρ, Os, v, hr, rel, r, pin, ?_⟩
    cases hg : g v ρ with
    | none => rw [hg] at post; exact post
    | some ρ' =>
      rw [hg] at post
      dsimp only at post
      intro σ1 H1 Os1 pin1 l1 rel1 k1
      have hr1 : ∀ a, R a → ∃ o, H1 a = some o ∧ ¬ We Os1 a := fun a z => let ⟨o, e, nw⟩ := hr a z; let ⟨e1, n1, _⟩ := k1 a o e nw; ⟨o, e1, n1⟩
      refine ⟨R, ρ', Os1, vs, hr1, rel1, t.mono (keep_of rel k1) fun a z => (nomatch z), pin1, ?_⟩
      cases hg2 : gs vs ρ' with
      | none => rw [hg2] at post; exact post
      | some ρ2 =>
        rw [hg2] at post
        exact fun σ2 H2 Os2 pin2 l2 rel2 k2 => post σ2 H2 Os2 pin2 (l2.trans l1) rel2 (k1.trans k2)
theorem vgd_tup {es : List Expr} {k : Nat} {gs : MGs} {n : Nat} (hK : X.K = G.K) (hc : X.calm = true) (h : VGds G X bs σ0 es gs) (hn : (assignEach es X.env).length = n := by rfl) (hst : (assignEach es X.env).findIdx? (·.1) = none := by rfl) :
    VGd G X bs σ0 (.Tuple es k pos) (gTupV gs n) := by
  refine PG.pre (pg_tup hc h hn hst) fun x σ H Q ⟨R, ρ, Os, v, hr, rel, rep, pin, post⟩ => ?_
  unfold gTupV at post
  rw [hK]
  cases v with
  | tup vs =>
    dsimp only at post
    by_cases hl : vs.length = n
    · rw [if_pos hl] at post
      obtain ⟨a, xs, rfl, hq, reps⟩ := rep_tupT rep
      exact ⟨a, xs, rfl, hq, by rw [reps.length]; exact hl, R, ρ, Os, vs, hr, rel, reps, pin, post⟩
    · rw [if_neg hl] at post
      exact post.elim
  | wtp vs =>
    dsimp only at post
    by_cases hl : vs.length = n
    · rw [if_pos hl] at post
      obtain ⟨a, xs, rfl, hq, reps⟩ := rep_wtp rep
      exact ⟨a, xs, rfl, hK ▸ (by simpa [hK] using hq), by rw [reps.length]; exact hl, R, ρ, Os, vs, hr, rel, reps, pin, post⟩
    · rw [if_neg hl] at post
      exact post.elim
  | _ => exact post.elim
theorem gPutD_cases (i : Nat) (mk : ME) (v : Val) (ρ : VEnv) : gPutD i mk v ρ = none ∨ ∃ kv ks vs, mk ρ = .ok kv ρ ∧ isKey .k kv = true ∧ ρ[i]? = some (some (.dct true .k ks vs)) ∧ (fzs vs = true ∧ ks.length = vs.length ∧ ks.length < 16777216) ∧ gPutD i mk v ρ = some (ρ.set i (some (dctOf (putD (ks.zip vs) kv v)))) := by
  unfold gPutD
  cases hmk : mk ρ with
  | bad => exact .inl rfl
  | exc e ρ2 => exact .inl rfl
  | ok kv ρ2 =>
    dsimp only
    by_cases hp : ρ2 = ρ ∧ isKey .k kv = true
    rotate_left
    · rw [if_neg hp]; exact .inl rfl
    rw [if_pos hp]
    obtain ⟨rfl, hkey⟩ := hp
    split
    · rename_i ks vs hv
      by_cases hc : fzs vs = true ∧ ks.length = vs.length ∧ ks.length < 16777216
      · rw [if_pos hc]; exact .inr ⟨kv, ks, vs, rfl, hkey, hv, hc, rfl⟩
      · rw [if_neg hc]; exact .inl rfl
    · exact .inl rfl
theorem Rep.toFz {W : Addr → Prop} {H : Hp} {x : V} {v : Val} {O : List Addr} (r : Rep G W H x v O) (h : v.fz = true) : Rep G W H x v [] := by
  have e := r.none_of_fz h
  subst e
  exact r
theorem vgd_put {i : Nat} {o ix : Expr} {mk : ME} {sp2 : Bool} (hu : X.A.units + 1 < cLine) (ho : PE X o (tVar i)) (hi : VE G X (fun _ _ _ _ => False) true sp2 ix mk)
    (ha : ∀ v, assign (.Subscript o ix pos') X.env v = (do
      let ov ← holding [v] (eval o X.env)
      let iv ← holding [v, ov] (eval ix X.env)
      standAt pos'
      holding [v, ov, iv] (setItem ov iv v)
      release [v, ov, iv] []) := by intro _; rfl) : VGd G X bs σ0 (.Subscript o ix pos') (gPutD i mk) := by
  refine PG.pre (pg_sub ho hi (set_dict hu) ha) fun y σ H Q ⟨R, ρ, Os, v, hr, rel, rep, pin, post⟩ => ?_
  rcases gPutD_cases i mk v ρ with e | ⟨kv, ks, vs, hmk, hkey, hv, hc, e⟩
  · rw [e] at post; exact post.elim
  · rw [e] at post
    dsimp only at post
    obtain ⟨hf, hl, hlen⟩ := hc
    obtain ⟨x, hx, rv⟩ := rel.rep i _ hv
    refine ⟨x, hx, R, ρ, Os, rel, ?_⟩
    rw [hmk]
    intro kx H2 Os2 Ok rel2 rk ndk k2 pure
    obtain ⟨_, rfl, same⟩ := pure rfl
    have rel3 : Rel G R H2 σ ρ Os2 := rel2.weak fun a z => .inl z
    have wk : ∀ a, WW R Os2 a → WW (Rp R sp2 Ok) Os2 a := fun a z => z.imp .inl id
    obtain ⟨kk, rfl, rfl⟩ := isKey_k hkey rk
    obtain ⟨x', hx', rv3⟩ := rel3.rep i _ hv
    rw [hx] at hx'
    cases hx'
    have rep3 : Rep G (WW R Os2) H2 y v [] := rep.mono (fun a o e nw => ⟨same a o e, nw⟩) fun a z => (nomatch z)
    generalize hOi : Os2 i = Oi at rv3
    cases rv3 with
    | @dkO a kvs _ _ P ea hk q =>
      have hP : P = [] := by
        have := q.none_of_fz hf
        exact this
      subst hP
      refine ⟨a, _, rfl, DPut.k ea ?_, ?_⟩
      · have : kvs.length = ks.length := by rw [hk, List.length_map]
        rw [this, sizeLine_eq]; omega
      have e0 : R = fun a => R a ∨ a ∈ ([] : List Addr) := setEq fun a => ⟨.inl, fun z => z.elim id fun z => nomatch z⟩
      obtain ⟨z1, z2⟩ := zip_maps hl
      have kr : KRel G (WW R Os2) H2 kvs (ks.zip vs) := ⟨by rw [z1, hk], by rw [z2]; exact q⟩
      have kr2 := kr.put kk rep3
      obtain ⟨r2, k3⟩ := Rel.root (O := []) (P := []) (P' := []) (ob' := .dK (putK kvs kk y)) (w := dctOf (putD (ks.zip vs) (ofKey kk) v)) (e0 ▸ rel3) (fun a z => nomatch z) hv hx hOi ea (fun b z => nomatch z) List.nodup_nil fun tr same2 => by
        refine .dkO same2 kr2.ks ?_
        have tr2 : ∀ {xs : List V} {us : List Val}, Reps G (WW R Os2) H2 xs us [] → Reps G (WW R (fun j => if j = i then [a] else Os2 j)) (upd H2 a (.dK (putK kvs kk y))) xs us [] := by
          intro xs
          induction xs with
          | nil => intro us r; cases r; exact .nil
          | cons z xs ih =>
            intro us r
            cases us with
            | nil => cases r
            | cons u us =>
              obtain ⟨z', xs', e, r1, r2⟩ := r.inv0
              cases e
              exact .cons (O := []) (O' := []) (tr _ _ _ (fun b z => nomatch z) (e0 ▸ r1)) (ih r2)
        exact tr2 kr2.vs
      refine post σ _ _ pin rfl r2 fun b o e nw => ?_
      obtain ⟨e4, n3⟩ := k3 b o (same b o e) nw fun z => nomatch z
      exact ⟨e4, n3, id⟩
/-- target = e, e's value frozen -/
theorem vs_asgD {tg e : Expr} {g : MG} (he : VE G X E p true e m) (hg : VGd G X bs σ0 tg g) (hs : swapsWithSole [tg] e pos.line X.env = pure false := by rfl) (hw : swappedStores [tg] e X.env = pure none := by rfl) (h1 : (assignEach [tg] X.env).map (·.2) = [assign tg X.env] := by rfl) :
    VS G X E bs σ0 (.Assign [tg] e pos) (mAsgD m g) := by
  refine PS.pre (ps_asg he hg hs hw h1) fun D σ H ⟨R, ρ, Os, rel, pin, post⟩ => ⟨R, ρ, Os, rel, ?_⟩
  refine PostS.post (s := true) (f := fun v ρ' => if v.fz = true then (match g v ρ' with
    | some ρ2 => .nx ρ2
    | none => .bad) else .bad) pin post fun v ρ' x H' Os' O _ post rel' rep nd k => ?_
  by_cases hf : v.fz = true
  rotate_left
  · rw [if_neg hf] at post; exact post.elim
  rw [if_pos hf] at post
  have hr1 : ∀ a, R a → ∃ o, H' a = some o ∧ ¬ We Os' a := fun a z => let ⟨o, e, nw⟩ := rel.hr a z; let ⟨e1, n1, _⟩ := k a o e nw; ⟨o, e1, n1⟩
  refine ⟨R, ρ', Os', v, hr1, rel'.weak fun a z => .inl z, (rep.toFz hf).weakW fun a z => z.imp .inl id, pin, ?_⟩
  cases hg : g v ρ' with
  | none => rw [hg] at post; exact post
  | some ρ2 =>
    rw [hg] at post
    exact fun σ' H2 Os2 p r1 r2 k2 => post σ' H2 Os2 p r2 (KeepE.trans (k.imp (O' := fun _ => False) fun _ z => z.elim) k2)
end
end VL
/-! VL, part WO: list(d.items()), dict(pairs), a or b as values. -/
namespace VL
open PySem PySem.Spec PyProof.Rows L2
/-- the pairs of a dict that may stand locked, as new tuples in a new list -/
def rLiR : V → Hp → VK → Prop := fun x H Q => ∃ (d : Addr) (kvs : List (Key × V)), x = .ref d ∧ Rd H d (.dK kvs) ∧
  ∀ (H2 : Hp) (l : Addr) (ts : List Addr), Same H H2 → H l = none → (∀ t ∈ ts, H t = none) → l ∉ ts → ts.Nodup → H2 l = some (.lst (ts.map V.ref)) → Paired (fun (t : Addr) (q : Key × V) => H2 t = some (.tup [kV q.1, q.2])) ts kvs → Q (.ref l) H2
section
variable {X : Cx} {e : Expr} {te : TE} {p apos cpos pos : Pos}
theorem pe_liR (hc : X.calm = true) (he : PE X e te) (hg : Gl X "list") (hm : X.mg "list" = none) (hv : bootBuiltins "list" = some (.type "list"))
    (hb : attributeBase e "items" X.env (eval e X.env) = eval e X.env := by rfl) (hl : (apos.endLine == cpos.line) = true := by rfl)
    (hs : starEach [.Call (.Attribute e "items" apos) [] [] cpos] X.env = (false, eval (.Call (.Attribute e "items" apos) [] [] cpos) X.env) :: starEach [] X.env := by rfl) :
    PE X (.Call (.Name "list" p) [.Call (.Attribute e "items" apos) [] [] cpos] [] pos) (fun σ H Q => te σ H fun x H1 => rLiR x H1 Q) := by
  refine ⟨fun pins s σ H Q I hq => wpAny_Call_Name_kw (ld_blt I hg hm hv (PyProof.Rows.callWith_type1 ?_ hs rfl))⟩
  rw [hs]
  refine Calls.spliced_cons (x := eval (.Call (.Attribute e "items" apos) [] [] cpos) X.env) (rest := backTo pos (starEach [] X.env)) ?_
  refine (wpAny_Call_method (T := "dict") (id := "dict.items") hb rfl hl F.plainAttrs_dict F.slot_dict_items F.type_dict_items (thn (he.run pins s σ H _ I hq) fun u s1 ⟨x, H1, J1, rx, d, kvs, ex, hd, q⟩ => ?_))
  subst ex
  obtain rfl : u = Value.ref d := rx
  obtain ⟨sz, low, vs, kv, dd⟩ := dk_rd J1.hok hd
  obtain ⟨ep, at_⟩ := dd.dictAt
  have J2 : Inv X pins σ H1 { s1 with heap := s1.heap.push { cls := .type "dict_items", data := .fields #[.ref d] } } := J1.kept (t' := s1.toks) fun b ob q => Heap.get?_push_of_some _ q
  have len := Paired.length kv
  refine ⟨dd.typeIs, dd.mapOf.noDict, method_meetsIn F.slot_dict_items F.entry_dict_items rfl (PySem.evalArgs_none ⟨rfl, dd.typeIs, F.args_dict_items_1 _, _, meets_dict_items (mixKind X.prog X.w) d low, ⟨vs, dd⟩, ?_⟩)⟩
  refine Calls.spliced_nil (PySem.W.kdx_call (knd := mixKind X.prog X.w) (kvs := vs) (ep := ep) (J1.ok.hd hc) ⟨_, Heap.get?_push_size _ rfl, rfl, rfl⟩ (at_.push _) (by omega) fun h2 tk acc c ts k1 k2 k3 k4 k5 => ?_)
  obtain ⟨H2, r1, r2, r3, r4, r5, r6, J⟩ := LiI.items_laid (tk := tk) J2 sz kv k1 k2 k3 k4 k5
  have nd : ts.Nodup := List.Pairwise.imp (fun {a b} (h : a < b) => Nat.ne_of_lt h) k4.rise
  exact ⟨.ref _, H2, J, rfl, q H2 _ ts r1 r2 r3 r4 nd r5 r6⟩
end
def pairV (p : Val × Val) : Val := .tup [p.1, p.2]
/-- list(d.items()) -/
def mLi (m : ME) : ME := fun ρ => match m ρ with
  | .ok (.dct o .k ks vs) ρ' => if fzs vs = true then .ok (.lst true ((ks.zip vs).map pairV)) ρ' else .bad
  | .ok _ _ => .bad
  | .exc e ρ' => .exc e ρ'
  | .bad => .bad
section
variable {G : Gam} {X : Cx} {E : WX} {e : Expr} {pu s : Bool} {m : ME} {p apos cpos pos : Pos}
theorem pairs_rep {W W2 : Addr → Prop} {H H2 : Hp} (kp : Keep W H W2 H2) : ∀ {ts : List Addr} {kvs : List (Key × V)} {d : DL}, (∀ t ∈ ts, ¬ W2 t) → KRel G W H kvs d → Paired (fun (t : Addr) (q : Key × V) => H2 t = some (.tup [kV q.1, q.2])) ts kvs → Reps G W2 H2 (ts.map V.ref) (d.map pairV) []
  | [], [], [], _, _, _ => .nil
  | [], [], _ :: _, _, r, _ => by have := r.ks; simp at this
  | _ :: _, _ :: _, [], _, r, _ => by have := r.ks; simp at this
  | t :: ts, q :: kvs, (k, v) :: d, hn, r, .cons h tl => by
    have e1 := r.ks
    have e2 := r.vs
    simp only [List.map_cons, List.cons.injEq] at e1 e2
    obtain ⟨x, xs, e3, r1, r2⟩ := e2.inv0
    simp only [List.cons.injEq] at e3
    obtain ⟨rfl, rfl⟩ := e3
    obtain ⟨rfl, e4⟩ := e1
    have ih := pairs_rep kp (fun t ht => hn t (List.mem_cons_of_mem _ ht)) (⟨e4, r2⟩ : KRel G W H kvs d) tl
    refine .cons (O := []) (O' := []) (.tup (O := []) ⟨h, hn t List.mem_cons_self⟩ (.cons (O := []) (O' := []) ?_ (.cons (O := []) (O' := []) (r1.mono kp fun a z => nomatch z) .nil))) ih
    cases q.1 with
    | inl i => exact .int i
    | inr z => exact .str z
theorem ve_li (hc : X.calm = true) (he : VE G X E pu s e m) (hg : Gl X "list") (hm : X.mg "list" = none) (hv : bootBuiltins "list" = some (.type "list"))
    (hb : attributeBase e "items" X.env (eval e X.env) = eval e X.env := by rfl) (hl : (apos.endLine == cpos.line) = true := by rfl)
    (hs : starEach [.Call (.Attribute e "items" apos) [] [] cpos] X.env = (false, eval (.Call (.Attribute e "items" apos) [] [] cpos) X.env) :: starEach [] X.env := by rfl) :
    VE G X E pu true (.Call (.Name "list" p) [.Call (.Attribute e "items" apos) [] [] cpos] [] pos) (mLi m) := by
  refine PE.pre (pe_liR hc he hg hm hv hb hl hs) fun σ H Q ⟨R, ρ, Os, rel, post⟩ => ⟨R, ρ, Os, rel, ?_⟩
  unfold mLi at post
  cases hm : m ρ with
  | bad => rw [hm] at post; exact post
  | exc e ρ' => rw [hm] at post; exact post
  | ok v ρ' =>
    rw [hm] at post
    cases v with
    | dct o dk ks vs =>
      cases dk with
      | k =>
        dsimp only at post
        by_cases hf : fzs vs = true
        rotate_left
        · rw [if_neg hf] at post; exact post.elim
        rw [if_pos hf] at post
        intro x H1 Os1 O rel1 rep nd k pure
        obtain ⟨d, kvs, rfl, hd, kr, _, _⟩ := rep_dk rep hf
        refine ⟨d, kvs, rfl, hd, fun H2 l ts same hl hts lts ndt hL hP => ?_⟩
        have relR : Rel G R H1 σ ρ' Os1 := rel1.weak fun a z => .inl z
        have nR : ∀ a, H1 a = none → ¬ WW R Os1 a := fun a e z => by
          obtain ⟨o, eo⟩ := relR.ww z
          rw [e] at eo; cases eo
        have relL : Rel G (Rp R true [l]) H2 σ ρ' Os1 := by
          refine relR.grow same (fun a z => ?_) fun a z => ?_
          · rcases z with z | ⟨_, z⟩
            · exact .inl z
            · rw [List.mem_singleton.mp z]; exact .inr hl
          · rcases z with z | ⟨_, z⟩
            · obtain ⟨o, e⟩ := relR.rt a z
              exact ⟨o, same a o e⟩
            · rw [List.mem_singleton.mp z]; exact ⟨_, hL⟩
        have nt : ∀ t ∈ ts, ¬ WW (Rp R true [l]) Os1 t := fun t ht z => by
          rcases z with (z | ⟨_, z⟩) | z
          · exact nR t (hts t ht) (.inl z)
          · rw [List.mem_singleton.mp z] at ht; exact lts ht
          · exact nR t (hts t ht) (.inr z)
        have kp : Keep (WW (Rp R s O) Os1) H1 (WW (Rp R true [l]) Os1) H2 := fun a o e nw => ⟨same a o e, fun z => by
          rcases z with (z | ⟨_, z⟩) | z
          · exact nw (.inl (.inl z))
          · rw [List.mem_singleton.mp z, hl] at e; cases e
          · exact nw (.inr z)⟩
        refine post (.ref l) H2 Os1 [l] relL (.lstO (O := []) hL (pairs_rep kp nt kr hP)) (fun _ => by simp) (fun a o e nw => ?_) fun z => ?_
        · obtain ⟨e1, n1, _⟩ := k a o e nw
          refine ⟨same a o e1, n1, fun z => ?_⟩
          rw [List.mem_singleton.mp z.2, hl] at e1; cases e1
        · obtain ⟨a1, a2, a3⟩ := pure z
          exact ⟨a1, a2, a3.trans same⟩
      | _ => exact post.elim
    | _ => exact post.elim

/-! ### dict(pairs) -/
def keyPair : Val → Option (Val × Val)
  | .tup [k, v] => if isKey .k k = true ∧ v.fz = true then some (k, v) else none
  | _ => none
def keyPairs : List Val → Option DL
  | [] => some []
  | x :: xs => match keyPair x, keyPairs xs with
    | some p, some r => some (p :: r)
    | _, _ => none
def semDict : List Val → Option Val
  | [.lst _ xs] => match keyPairs xs with
    | some d => if d.length ≤ 1000 then some (dctOf (mergeD [] d)) else none
    | none => none
  | [.dct _ .k ks vs] => if fzs vs = true then some (.dct true .k ks vs) else none
  | _ => none
theorem keyPair_some {v : Val} {p : Val × Val} (h : keyPair v = some p) : v = .tup [p.1, p.2] ∧ isKey .k p.1 = true ∧ p.2.fz = true := by
  unfold keyPair at h
  split at h
  · split at h
    · rename_i hh
      cases h
      exact ⟨rfl, hh.1, hh.2⟩
    · cases h
  · cases h
theorem pairs_of_rep {W : Addr → Prop} {H : Hp} : ∀ {xs : List Val} {ys : List V} {O : List Addr} {d : DL}, Reps G W H ys xs O → keyPairs xs = some d → ∃ (ps : List Addr) (kvs : List (Key × V)), ys = ps.map V.ref ∧ Paired (fun p kv => SqT G.K H p [kV kv.1, kv.2]) ps kvs ∧ KRel G W H kvs d
  | [], _, _, _, r, h => by
    cases r; cases h
    exact ⟨[], [], rfl, .nil, ⟨rfl, .nil⟩⟩
  | x :: xs, _, _, d, r, h => by
    unfold keyPairs at h
    split at h
    · rename_i p dr h1 h2
      cases h
      obtain ⟨rfl, hk, hf⟩ := keyPair_some h1
      cases r with
      | cons r t =>
        obtain ⟨ps, kvs, e1, e2, e3⟩ := pairs_of_rep t h2
        subst e1
        obtain ⟨a, zs, rfl, hq, q⟩ := rep_tupT r
        cases q with
        | cons q1 q2 =>
          cases q2 with
          | cons q2 q3 =>
            cases q3
            obtain ⟨kk, ek, rfl⟩ := isKey_k hk q1
            have q2' := q2.toFz hf
            obtain ⟨a1, a2⟩ := e3
            refine ⟨a :: ps, (kk, _) :: kvs, rfl, .cons hq e2, ⟨by simp [a1, ek], ?_⟩⟩
            simp only [List.map_cons]
            exact .cons (O := []) (O' := []) q2' a2
    · cases h
theorem call_dictW (hc : X.calm = true) (hK : X.K = G.K) : CallR X (.type "dict") (fun xs H Q => (∃ (a : Addr) (ps : List Addr) (kvs : List (Key × V)), xs = [.ref a] ∧ SqL G.K H a (ps.map V.ref) ∧ Paired (fun p kv => SqT G.K H p [kV kv.1, kv.2]) ps kvs ∧ ∀ p, H p = none → Q (.ref p) (upd H p (.dK (mergeK [] kvs)))) ∨
    (∃ (a : Addr) (kvs : List (Key × V)), xs = [.ref a] ∧ Rd H a (.dK kvs) ∧ ∀ p, H p = none → Q (.ref p) (upd H p (.dK kvs)))) := by
  rw [← hK]
  exact CallR.or (call_dictP hc) call_dictD
theorem ok_dict : OkF G (fun xs H Q => (∃ (a : Addr) (ps : List Addr) (kvs : List (Key × V)), xs = [.ref a] ∧ SqL G.K H a (ps.map V.ref) ∧ Paired (fun p kv => SqT G.K H p [kV kv.1, kv.2]) ps kvs ∧ ∀ p, H p = none → Q (.ref p) (upd H p (.dK (mergeK [] kvs)))) ∨
    (∃ (a : Addr) (kvs : List (Key × V)), xs = [.ref a] ∧ Rd H a (.dK kvs) ∧ ∀ p, H p = none → Q (.ref p) (upd H p (.dK kvs)))) semDict := by
  intro W H xs vs Ol v Q w r hs m
  have made : ∀ {kvs : List (Key × V)} {d : DL} {p : Addr}, KRel G W H kvs d → H p = none → (Made G W H (dctOf d) Q) → Q (.ref p) (upd H p (.dK kvs)) := fun {kvs d p} kr hp m =>
    m (.ref p) _ [p] (same_upd hp) (fun a z => by rw [List.mem_singleton.mp z]; exact hp) (.dkO (O := []) upd_same kr.ks (kr.vs.upd hp fun z q => q.imp id fun q => by rw [List.mem_singleton.mp q]; exact hp)) (by simp)
  unfold semDict at hs
  split at hs
  · obtain ⟨x, O, rfl, r1⟩ := r.inv1
    split at hs
    · rename_i d hd
      split at hs
      · cases hs
        obtain ⟨a, ys, O1, rfl, e1, q1⟩ := rep_lstL r1
        obtain ⟨ps, kvs, rfl, e2, kr⟩ := pairs_of_rep q1 hd
        exact .inl ⟨a, ps, kvs, rfl, .inl (.inl e1), e2, fun p hp => made (KRel.merge kr ⟨rfl, .nil⟩) hp m⟩
      · cases hs
    · cases hs
  · obtain ⟨x, O, rfl, r1⟩ := r.inv1
    split at hs
    · rename_i hf
      cases hs
      obtain ⟨a, kvs, rfl, hd, kr, e1, e2⟩ := rep_dk r1 hf
      refine .inr ⟨a, kvs, rfl, hd, fun p hp => made kr hp ?_⟩
      obtain ⟨z1, z2⟩ := zip_maps e1
      unfold dctOf
      rw [z1, z2]
      exact m
    · cases hs
  · cases hs
end
end VL
/-! VL, part WP: a or b, a and b as values; tests on values. -/
namespace VL
open PySem L2
def truB : Val → Option Bool
  | .non => some false
  | .bl b => some b
  | .int i => some (i != 0)
  | _ => none
def mOrV (m1 m2 : ME) : ME := fun ρ => match m1 ρ with
  | .ok v ρ1 => (match truB v with
    | some true => .ok v ρ1
    | some false => m2 ρ1
    | none => .bad)
  | .exc e ρ1 => .exc e ρ1
  | .bad => .bad
/-- a test on a value -/
def mTru (m : ME) : ME := fun ρ => match m ρ with
  | .ok v ρ1 => (match truB v with
    | some k => .ok (.bl k) ρ1
    | none => .bad)
  | .exc e ρ1 => .exc e ρ1
  | .bad => .bad
section
variable {G : Gam} {X : Cx} {E : WX} {a b : Expr} {rest : List Expr} {pos : Pos} {p1 s1 p2 s2 : Bool} {m m1 m2 : ME}
theorem tru_of {W : Addr → Prop} {H : Hp} {x : V} {v : Val} {O : List Addr} {k : Bool} (r : Rep G W H x v O) (h : truB v = some k) : TruV G.K x H k ∧ O = [] := by
  cases r <;> simp [truB] at h <;> subst h <;> simp [TruV]
theorem ve_orV (hK : X.K = G.K) (ha : VE G X E p1 s1 a m1) (hb : VE G X E p2 true (.BoolOp .Or (b :: rest) pos) m2) : VE G X E (p1 && p2) true (.BoolOp .Or (a :: b :: rest) pos) (mOrV m1 m2) := by
  refine PE.pre (pe_orT ha hb) fun σ H Q ⟨R, ρ, Os, rel, post⟩ => ⟨R, ρ, Os, rel, ?_⟩
  unfold mOrV at post
  cases hm : m1 ρ with
  | bad => rw [hm] at post; exact post
  | exc e ρ' => rw [hm] at post; exact post
  | ok v ρ1 =>
    rw [hm] at post
    dsimp only at post
    intro x H1 Os1 O rel1 rep nd k pure
    cases ht : truB v with
    | none => rw [ht] at post; exact post.elim
    | some t =>
      rw [ht] at post
      obtain ⟨tv, rfl⟩ := tru_of rep ht
      rw [hK]
      refine ⟨t, tv, ?_⟩
      have relR : Rel G R H1 σ ρ1 Os1 := rel1.weak fun a z => .inl z
      have kl : KeepE H Os H1 Os1 fun _ => False := k.imp fun _ z => z.elim
      cases t with
      | true =>
        rw [if_pos rfl]
        have hw : ∀ a, Rp R true [] a → Rp R s1 [] a := fun a z => z.elim .inl fun z => nomatch z.2
        refine post x H1 Os1 [] (rel1.weak hw) (rep.weakW fun a z => z.imp (hw a) id) (fun _ => List.nodup_nil) (k.imp fun a z => nomatch z.2) fun z => ?_
        rw [Bool.and_eq_true] at z
        exact pure z.1
      | false =>
        rw [if_neg (by decide)]
        refine ⟨R, ρ1, Os1, relR, Post.later (fun z => ?_) (fun z => z) post kl pure⟩
        rw [Bool.and_eq_true] at z
        exact z
/-- if v: v no bool -/
theorem vt_tru (hK : X.K = G.K) (h : VE G X E p1 s1 a m) (hv : PT X a (fun σ H Q => rd G E p1 s1 m σ H fun x H' => ∃ k, TruV X.K x H' k ∧ Q k H')) : VT G X E p1 a (mTru m) := by
  refine PT.pre hv fun σ H Q ⟨R, ρ, Os, rel, post⟩ => ⟨R, ρ, Os, rel, ?_⟩
  unfold mTru at post
  cases hm : m ρ with
  | bad => rw [hm] at post; exact post
  | exc e ρ' => rw [hm] at post; exact post
  | ok v ρ1 =>
    rw [hm] at post
    dsimp only at post
    intro x H1 Os1 O rel1 rep nd k pure
    cases ht : truB v with
    | none => rw [ht] at post; exact post.elim
    | some t =>
      rw [ht] at post
      obtain ⟨tv, rfl⟩ := tru_of rep ht
      rw [hK]
      exact ⟨t, tv, post H1 Os1 (rel1.weak fun a z => .inl z) (k.imp fun _ z => z.elim) pure⟩
end
end VL
/-! VL, part WQ: range(a, b). -/
namespace VL
open PySem L2
section
variable {G : Gam} {X : Cx} {E : WX} {tg a b : Expr} {pos x1 : Pos} {p1 s1 p2 s2 : Bool} {m1 m2 : ME}
theorem vi_rng2 (hg : Gl X "range") (hm : X.mg "range" = none) (h1 : VE G X E p1 s1 a m1) (h2 : VE G X E p2 s2 b m2) (wf : (s1 || p2) = true := by rfl) (hs : starEach [a, b] X.env = (false, eval a X.env) :: starEach [b] X.env := by rfl) (hs2 : starEach [b] X.env = (false, eval b X.env) :: starEach [] X.env := by rfl)
    (ht : starEach [a, b] X.env = [(false, eval a X.env), (false, eval b X.env)] := by rfl) (ht2 : starEach [b] X.env = [(false, eval b X.env)] := by rfl) : VI G X E tg (.Call (.Name "range" x1) [a, b] [] pos) (mRng2 m1 m2) := by
  refine PI.pre (pi_range2 hg hm (pa_cons h1 (pa_cons h2 pa_nil hs2) hs) ht ht2) fun σ H K ⟨R, ρ, Os, rel, post⟩ => ?_
  have key := nest_of (G := G) (E := E) (σ := σ) (os := [⟨p1, s1, m1⟩, ⟨p2, s2, m2⟩]) (wf2 wf) rel (K := fun vs H1 => ∃ i j : Int, vs = [.int i, .int j] ∧ (-(2 ^ 62) ≤ i ∧ i < 2 ^ 62 ∧ -(2 ^ 62) ≤ j ∧ j < 2 ^ 62) ∧ K (Itr i (j - i).toNat) H1) ?_
  · exact key
  · rw [evalA_eq]
    unfold mRng2 at post
    simp only [List.map_cons, List.map_nil]
    cases he : evalM [m1, m2] ρ with
    | bad => rw [he] at post; exact post
    | exc e ρ' => rw [he] at post; exact post
    | ok vs ρ' =>
      rw [he] at post
      intro xs H' Os' Ol rel' reps nd keep pure
      match vs, reps, post with
      | [.int i, .int j], reps, post =>
        obtain ⟨x, y, O, O', rfl, r1, r2⟩ := reps.inv2
        cases r1; cases r2
        dsimp only at post
        by_cases hb : -(2 ^ 62) ≤ i ∧ i < 2 ^ 62 ∧ -(2 ^ 62) ≤ j ∧ j < 2 ^ 62
        · rw [if_pos hb] at post
          exact ⟨i, j, rfl, hb, post _ H' Os' (rel'.weak fun a z => .inl z) (walk_rng i _) (keep.imp fun _ z => z.elim)⟩
        · rw [if_neg hb] at post; exact post.elim
end
/-! ### is True, is not False -/
def semIsB (neg : Bool) : List Val → Option Val
  | [.bl a, .bl b] => some (.bl (xor neg (decide (a = b))))
  | _ => none
section
variable {G : Gam} {X : Cx}
theorem beq_bl (a b : Bool) : decide (a = b) = (Value.bool a == Value.bool b) := by cases a <;> cases b <;> rfl
theorem op_isB : OpR X (compareOp .Is) (fun x y H Q => ∃ a b, x = .bl a ∧ y = .bl b ∧ Q (.bl (decide (a = b))) H) := by
  intro pins s σ H x y v u Q I rx ry ⟨a, b, ex, ey, q⟩
  subst ex ey
  cases (show v = Value.bool a from rx)
  cases (show u = Value.bool b from ry)
  exact wpAny_is_plain rfl (fin_bl I q (beq_bl a b))
theorem op_notB : OpR X (compareOp .IsNot) (fun x y H Q => ∃ a b, x = .bl a ∧ y = .bl b ∧ Q (.bl (!decide (a = b))) H) := by
  intro pins s σ H x y v u Q I rx ry ⟨a, b, ex, ey, q⟩
  subst ex ey
  cases (show v = Value.bool a from rx)
  cases (show u = Value.bool b from ry)
  exact wpAny_isNot_plain rfl (fin_bl I q (congrArg not (beq_bl a b)))
theorem ok_isB : OkF G (r2 fun x y H Q => ∃ a b, x = .bl a ∧ y = .bl b ∧ Q (.bl (decide (a = b))) H) (semIsB false) := by
  intro W H xs vs Ol v Q w r hs m
  unfold semIsB at hs
  split at hs
  · obtain ⟨x, y, O, O', rfl, r1, r2⟩ := r.inv2
    cases r1; cases r2; cases hs
    exact ⟨_, _, rfl, rfl, by simpa using m.same (.bl _)⟩
  · cases hs
theorem ok_notB : OkF G (r2 fun x y H Q => ∃ a b, x = .bl a ∧ y = .bl b ∧ Q (.bl (!decide (a = b))) H) (semIsB true) := by
  intro W H xs vs Ol v Q w r hs m
  unfold semIsB at hs
  split at hs
  · obtain ⟨x, y, O, O', rfl, r1, r2⟩ := r.inv2
    cases r1; cases r2; cases hs
    exact ⟨_, _, rfl, rfl, by simpa using m.same (.bl _)⟩
  · cases hs
end
end VL
/-! VL, part WR: a list unpacked into targets. -/
namespace VL
open PySem L2
def gUnV (g : MGs) (n : Nat) : MG := fun v ρ => match v with
  | .lst _ vs => if vs.length = n then g vs ρ else none
  | _ => none
section
variable {G : Gam} {X : Cx} {bs : List Bool} {σ0 : L2.St} {pos : Pos}
theorem vg_unl {es : List Expr} {k : Nat} {gs : MGs} {n : Nat} (hK : X.K = G.K) (hc : X.calm = true) (h : VGs G X bs σ0 es gs) (hn : (assignEach es X.env).length = n := by rfl) (hst : (assignEach es X.env).findIdx? (·.1) = none := by rfl) :
    VG G X bs σ0 (.Tuple es k pos) (gUnV gs n) := by
  refine PG.pre (pg_unl hc h hn hst) fun x σ H Q ⟨R, ρ, Os, v, O, rel, rep, nd, nr, pin, post⟩ => ?_
  unfold gUnV at post
  rw [hK]
  cases v with
  | lst o vs =>
    dsimp only at post
    by_cases hl : vs.length = n
    · rw [if_pos hl] at post
      obtain ⟨a, xs, P, hx, hq, reps, hP, ndP⟩ : ∃ a xs P, x = .ref a ∧ SqL G.K H a xs ∧ Reps G (WW (fun a => R a ∨ a ∈ O) Os) H xs vs P ∧ (∀ b ∈ P, b ∈ O) ∧ P.Nodup := by
        cases rep with
        | lstO h r => exact ⟨_, _, _, rfl, .inl (.inl h), r, fun b hb => List.mem_cons_of_mem _ hb, (List.nodup_cons.mp nd).2⟩
        | lstF h r => exact ⟨_, _, [], rfl, .inl (.inl h.1), r, (fun b hb => by cases hb), List.nodup_nil⟩
      have hw : ∀ b, R b ∨ b ∈ P → R b ∨ b ∈ O := fun b z => z.imp id (hP b)
      refine ⟨a, xs, hx, hq, by rw [reps.length]; exact hl, R, ρ, Os, vs, P, rel.weak hw, reps.weakW fun b z => z.imp (hw b) id, ndP, fun b hb => nr b (hP b hb), pin, ?_⟩
      cases hg : gs vs ρ with
      | none => rw [hg] at post; exact post
      | some ρ' => rw [hg] at post; exact fun σ' Os' p l r w => post σ' Os' p l r fun b z => (w b z).imp id (hP b)
    · rw [if_neg hl] at post
      exact post.elim
  | _ => exact post.elim
end
end VL
/-! VL, part WS: a, b, c = x, y, z. -/
namespace VL
open PySem L2
def mPar3 (i j l : Nat) (m1 m2 m3 : ME) : MS := fun ρ => match evalM [m1, m2, m3] ρ with
  | .ok [u, v, w] ρ' => if i < ρ'.length ∧ j < ρ'.length ∧ l < ρ'.length then .nx (((ρ'.set i (some u)).set j (some v)).set l (some w)) else .bad
  | .ok _ _ => .bad
  | .exc e ρ' => .exc e ρ'
  | .bad => .bad
def osPut (Os : Nat → List Addr) (i : Nat) (O : List Addr) : Nat → List Addr := fun j => if j = i then O else Os j
section
variable {G : Gam} {X : Cx} {E : WX} {bs : List Bool} {σ0 : L2.St} {a b c : Expr} {pos : Pos} {p1 p2 p3 : Bool} {m1 m2 m3 : ME}
theorem put_step {R : Addr → Prop} {H : Hp} {σ : L2.St} {ρ : VEnv} {Os : Nat → List Addr} {O P : List Addr} {x : V} {v : Val} {i : Nat} (rel : Rel G (fun a => R a ∨ a ∈ O ++ P) H σ ρ Os) (r : Rep G (WW (fun a => R a ∨ a ∈ O ++ P) Os) H x v O) (nd : (O ++ P).Nodup) (nr : ∀ a ∈ O, ¬ R a) (hi : i < ρ.length) :
    Rel G (fun a => R a ∨ a ∈ P) H (σ.set i (some x)) (ρ.set i (some v)) (osPut Os i O) ∧ (∀ y w Q, Rep G (WW (fun a => R a ∨ a ∈ O ++ P) Os) H y w Q → Rep G (WW (fun a => R a ∨ a ∈ P) (osPut Os i O)) H y w Q) ∧ ∀ a, We (osPut Os i O) a → We Os a ∨ a ∈ O := by
  obtain ⟨n1, n2, n3⟩ := List.nodup_append.mp nd
  have s1 : (fun a => R a ∨ a ∈ O ++ P) = fun a => (R a ∨ a ∈ P) ∨ a ∈ O := setEq fun a => by
    rw [List.mem_append]
    constructor
    · rintro (z | z | z)
      · exact .inl (.inl z)
      · exact .inr z
      · exact .inl (.inr z)
    · rintro ((z | z) | z)
      · exact .inl z
      · exact .inr (.inr z)
      · exact .inr (.inl z)
  rw [s1] at rel r
  have q1 := rel.put r n1 hi fun a ha z => z.elim (nr a ha) fun z => n3 a ha a z rfl
  refine ⟨q1, fun y w Q ry => ry.mono (fun a o e nw => ⟨e, fun z => nw ?_⟩) fun _ _ _ e => e, fun a z => ?_⟩
  · rcases z with (z | z) | ⟨j, z⟩
    · exact .inl (.inl z)
    · exact .inl (.inr (List.mem_append_right _ z))
    · unfold osPut at z
      by_cases hj : j = i
      · simp only [hj, if_true] at z; exact .inl (.inr (List.mem_append_left _ z))
      · simp only [hj, if_false] at z; exact .inr ⟨j, z⟩
  · obtain ⟨j, z⟩ := z
    unfold osPut at z
    by_cases hj : j = i
    · simp only [hj, if_true] at z; exact .inr z
    · simp only [hj, if_false] at z; exact .inl ⟨j, z⟩
theorem vs_par3 {i j l : Nat} {x y z : Str} {px py pz pt : Pos} {kt k2 : Nat} {pt2 : Pos} (hc : X.calm = true) (hN : X.N.Nodup) (hi : X.N[i]? = some x) (hj : X.N[j]? = some y) (hl : X.N[l]? = some z) (hij : i ≠ j) (hil : i ≠ l) (hjl : j ≠ l)
    (hx : X.env.scope.names.lookup x = some .local) (hy : X.env.scope.names.lookup y = some .local) (hz : X.env.scope.names.lookup z = some .local)
    (ha : VE G X E p1 true a m1) (hb : VE G X E p2 true b m2) (hcc : VE G X E p3 true c m3) (hw : swappedStores [.Tuple [.Name x px, .Name y py, .Name z pz] kt pt] (.Tuple [a, b, c] k2 pt2) X.env = pure (some [x, y, z]))
    (b1 : bs[i]? ≠ some true := by decide) (b2 : bs[j]? ≠ some true := by decide) (b3 : bs[l]? ≠ some true := by decide)
    (hs : swapsWithSole [.Tuple [.Name x px, .Name y py, .Name z pz] kt pt] (.Tuple [a, b, c] k2 pt2) pos.line X.env = pure false := by rfl) (hst : starEach [a, b, c] X.env = (false, eval a X.env) :: starEach [b, c] X.env := by rfl) (hst2 : starEach [b, c] X.env = (false, eval b X.env) :: starEach [c] X.env := by rfl) (hst3 : starEach [c] X.env = (false, eval c X.env) :: starEach [] X.env := by rfl) :
    VS G X E bs σ0 (.Assign [.Tuple [.Name x px, .Name y py, .Name z pz] kt pt] (.Tuple [a, b, c] k2 pt2) pos) (mPar3 i j l m1 m2 m3) := by
  refine PS.pre (ps_par3 hc hN hi hj hl hij hil hjl hx hy hz (pa_cons ha (pa_cons hb (pa_cons hcc pa_nil hst3) hst2) hst) hw hs) fun D σ H ⟨R, ρ, Os, rel, pin, post⟩ => ?_
  have key := nest_of (G := G) (E := E) (σ := σ) (os := [⟨p1, true, m1⟩, ⟨p2, true, m2⟩, ⟨p3, true, m3⟩]) rfl rel (K := fun vs H1 => ∃ u v w, vs = [u, v, w] ∧ D.nx (((σ.set i (some u)).set j (some v)).set l (some w)) H1) ?_
  · exact key
  rw [evalA_eq]
  unfold mPar3 at post
  simp only [List.map_cons, List.map_nil]
  cases he : evalM [m1, m2, m3] ρ with
  | bad => rw [he] at post; exact post
  | exc e ρ' => rw [he] at post; exact fun c d H' Os' rel rx k => post c d σ H' Os' pin rel rx k
  | ok vs ρ' =>
    rw [he] at post
    intro xs H1 Os1 Ol rel1 reps nd keep _
    match vs, reps, post with
    | [u, v, w], reps, post =>
      dsimp only at post
      by_cases hh : i < ρ'.length ∧ j < ρ'.length ∧ l < ρ'.length
      rotate_left
      · rw [if_neg hh] at post; exact post.elim
      rw [if_pos hh] at post
      cases reps with
      | @cons x1 _ O1 _ _ _ r1 t =>
        cases t with
        | @cons x2 _ O2 _ _ _ r2 t2 =>
          cases t2 with
          | @cons x3 _ O3 _ _ _ r3 t3 =>
          cases t3
          refine ⟨x1, x2, x3, rfl, ?_⟩
          have es : stab [⟨p1, true, m1⟩, ⟨p2, true, m2⟩, ⟨p3, true, m3⟩] [O1, O2, O3] = O1 ++ (O2 ++ (O3 ++ [])) := rfl
          rw [es] at rel1 r1 r2 r3 nd keep
          have nr : ∀ a ∈ O1 ++ (O2 ++ (O3 ++ [])), ¬ R a := fun a ha z => let ⟨o, e, nw⟩ := rel.hr a z; (keep a o e nw).2.2 ha
          obtain ⟨q1, c1, w1⟩ := put_step (i := i) rel1 r1 nd (fun a ha => nr a (List.mem_append_left _ ha)) hh.1
          have nd2 := (List.nodup_append.mp nd).2.1
          obtain ⟨q2, c2, w2⟩ := put_step (i := j) q1 (c1 _ _ _ r2) nd2 (fun a ha => nr a (List.mem_append_right _ (List.mem_append_left _ ha))) (by rw [List.length_set]; exact hh.2.1)
          have nd3 := (List.nodup_append.mp nd2).2.1
          obtain ⟨q3, c3, w3⟩ := put_step (i := l) q2 (c2 _ _ _ (c1 _ _ _ r3)) nd3 (fun a ha => nr a (List.mem_append_right _ (List.mem_append_right _ (List.mem_append_left _ ha)))) (by rw [List.length_set, List.length_set]; exact hh.2.2)
          refine post _ H1 _ (((pin.set b1).set b2).set b3) (q3.weak fun a z => .inl z) fun a o e nw => ?_
          obtain ⟨e1, m1, m2⟩ := keep a o e nw
          refine ⟨e1, fun z => ?_, id⟩
          rcases w3 a z with z | z
          · rcases w2 a z with z | z
            · exact (w1 a z).elim m1 fun z => m2 (List.mem_append_left _ z)
            · exact m2 (List.mem_append_right _ (List.mem_append_left _ z))
          · exact m2 (List.mem_append_right _ (List.mem_append_right _ (List.mem_append_left _ z)))
end
end VL
/-! VL, part WU: defaults that are objects; C(e, k = v); x.append(e) where e changes names. -/
namespace VL
open PySem L2
/-- the keyword default x of the def at ad, if it is an object -/
def kwAt (ad : PySem.W.Frag → Addr) (x : Str) (K : PySem.W.Frag) : Addr := match K.lookup (ad K) with
  | some ⟨_, _, .func fd, _⟩ => (match fd.kwdefaults with
    | .ref D => (match PySem.W.nsIn K D x with
      | some (some (.ref a)) => a
      | _ => 0)
    | _ => 0)
  | _ => 0
/-- the i-th positional default of the def at ad, if it is an object -/
def dfAt (ad : PySem.W.Frag → Addr) (i : Nat) (K : PySem.W.Frag) : Addr := match K.lookup (ad K) with
  | some ⟨_, _, .func fd, _⟩ => (match fd.defaults with
    | .ref T => (match K.lookup T with
      | some ⟨_, _, .seq its _, _⟩ => (match its[i]? with
        | some (.ref a) => a
        | _ => 0)
      | _ => 0)
    | _ => 0)
  | _ => 0
/-- what stands at p is the tree v -/
def tAt (p : PySem.W.Frag → Addr) (v : Val) : Ftest := fun K => chkV K v (.ref (p K))
theorem at_ok {K : PySem.W.Frag} {p : PySem.W.Frag → Addr} {v : Val} (h : tAt p v K = true) : ∀ (G : Gam) W H, G.K = K → Rep G W H (.ref (p K)) v [] := by
  obtain ⟨y, r, q⟩ := chkV_ok h
  cases y with
  | ref a =>
    cases r
    exact q
  | non => cases r
  | bl b => cases r
  | int i => obtain ⟨_, z⟩ := r; cases z
  | str s => obtain ⟨_, z⟩ := r; cases z
  | flt s => obtain ⟨_, z⟩ := r; cases z
  | byt s => obtain ⟨_, z⟩ := r; cases z
  | ty s => cases r
section
variable {G : Gam} {X : Cx} {E : WX} {σ : L2.St}
theorem nest_app : ∀ {os ps : List Op} {H : Hp} {K : List V → Hp → Prop}, nest G E (os ++ ps) σ H K → nest G E os σ H fun xs H1 => nest G E ps σ H1 fun ys H2 => K (xs ++ ys) H2
  | [], ps, H, K, h => h
  | o :: os, ps, H, K, h => rd_mono h fun x H1 h1 => nest_app (os := os) h1
theorem nest_imp : ∀ {os : List Op} {H : Hp} {K K' : List V → Hp → Prop}, nest G E os σ H K → (∀ xs H', K xs H' → K' xs H') → nest G E os σ H K'
  | [], H, K, K', h, k => k _ _ h
  | o :: os, H, K, K', h, k => rd_mono h fun x H1 h1 => nest_imp h1 fun xs H2 q => k _ _ q
/-- C(e, .., k = v, ..), all parameters written, or with literal defaults -/
theorem ve_makeK1 {x : Str} {px pos : Pos} {k n c : Nat} {f C : Addr} {fd : FuncData} {ps ks : List Str} {mf : MF} {as : List Arg} {kws : List Keyword} {e : Expr} {es : List Expr} {os1 os2 : List Op} {g : List Value → List Value → List Value} {gV : List V → List V → List V} (hC : G.cn c = some C) (M : Mk X.K C f)
    (F : FnOkG X.prog X.w X.K X.mg X.base (L2.CX X.prog X.w) k f fd ps (spV G (n + 1) mf)) (hr : RoomG (k + 1) X.A) (hb : KBn X.K fd ps (os1.length + 1) ks g gV) (tk : Takes X E) (hg : Gl X x) (hm : X.mg x = some (.ref C)) (ha : VAs G X E (e :: es) os1) (hkw : PK X kws fun σ H K => nest G E os2 σ H K) (df : Dfl G as)
    (hv : vals as = os1 ++ os2) (hgv : ∀ y xs zs, xs.length = os1.length → zs.length = os2.length → gV (y :: xs) zs = y :: mergeD0 as (xs ++ zs)) (hn : as.length = n := by rfl) (hs : (vals as).all (·.s) = true := by rfl) (nr : noRefs as = true := by rfl) (hks0 : os2.length = ks.length := by rfl)
    (hall : (backToKw pos (keywordEach kws X.env)).all (·.1.isSome) = true := by rfl) (hks : (backToKw pos (keywordEach kws X.env)).filterMap (·.1) = ks := by rfl) (hdb : (x == ("__debug__" : Str)) = false := by decide)
    (he : starEach (e :: es) X.env = (false, eval e X.env) :: starEach es X.env := by rfl) (hpl : ((backTo pos (starEach (e :: es) X.env)).any (·.1) || (backToKw pos (keywordEach kws X.env)).any (·.1.isNone)) = false := by rfl) :
    VE G X E (argsP as) true (.Call (.Name x px) (e :: es) kws pos) (mCall (mMake c mf) as) := by
  refine ⟨fun pins s σ H Q I h => ?_⟩
  have q0 := nest_of_G nr (call_of df hs hn h)
  rw [hv] at q0
  have q1 := nest_len (nest_app q0)
  have q2 := nest_imp q1 (K' := fun xs H1 => xs.length = os1.length ∧ nest G E os2 σ H1 fun zs H2 => zs.length = os2.length ∧ spV G n (mMake c mf) (mergeD0 as (xs ++ zs)) H2 Q (WE E σ)) fun xs H1 ⟨l, z⟩ => ⟨l, nest_len z⟩
  refine wpAny_Call_Name_kw (ld_glob I hg hm ?_ hdb)
  refine PySem.W.callWith_KW (h₀ := X.base) I.ok.mod.kin M.kp hall (thn (ha.run pos pins s σ H _ I q2) fun us s1 ⟨xs, H1, I1, r, lx, q3⟩ => ?_) hpl he
  refine thn (hkw.run pos pins s1 σ H1 _ I1 q3) fun ws s2 ⟨zs, H2, I2, rz, hlen, q2⟩ => ⟨I2.kIn, ?_⟩
  rw [hks]
  have hx := I2.hok.fresh (Nat.le_succ s2.heap.objs.size)
  have hdx := I2.hok.fresh (Nat.le_refl s2.heap.objs.size)
  have hq := sp_make (x := s2.heap.objs.size + 1) (dx := s2.heap.objs.size) hC q2 hx hdx (Nat.ne_of_lt (Nat.lt_succ_self _))
  rw [← hgv _ xs zs lx hlen] at hq
  have I3 := Inv.made (C := C) I2
  have r1 : Vals (V.ref (s2.heap.objs.size + 1) :: xs) (Value.ref (s2.heap.objs.size + 1) :: us) := .cons rfl r
  refine wpAny_call (make_map (f := f) I2.kIn M.makes M.init (beq_iff_eq.mp M.fn) ?_)
  have run := F.run (X.A.under (.builtin "type.__call__" ⟨.ref C :: us, ks.zip ws⟩)) X.stack _ _ ⟨Value.ref (s2.heap.objs.size + 1) :: us, ks.zip ws⟩ (g (Value.ref (s2.heap.objs.size + 1) :: us) ws) _ _ (WE E σ) (hr.make C us (ks.zip ws)) (I3.env0.make C us (ks.zip ws))
    (hb.to _ (Value.ref (s2.heap.objs.size + 1) :: us) ws I3.kIn (by rw [List.length_cons, ← r.length, lx]) (by rw [← rz.length, hlen, hks0])) (hb.rel r1 rz) hq
  refine codeAny_mono run fun res s4 hq2 => ?_
  cases res with
  | error er => exact passAt tk σ pins _ _ er s4 I3 hq2
  | ok fl =>
    cases fl with
    | ret u =>
      obtain ⟨v, H', I4, rv3, ev, q3⟩ := I3.after hq2
      subst ev
      exact ⟨rv3, ⟨V.ref (s2.heap.objs.size + 1), H', I4, rfl, q3⟩⟩
    | next => exact hq2.elim
    | brk => exact hq2.elim
    | cont => exact hq2.elim
end
end VL
/-! VL, part WV: sorted(ints), enumerate, x.append(e) where e changes names. -/
namespace VL
open PySem L2
def intsL : List Val → Option (List Int)
  | [] => some []
  | .int i :: l => match intsL l with
    | some ns => some (i :: ns)
    | none => none
  | _ => none
def insI (x : Int) : List Int → List Int
  | [] => [x]
  | y :: ys => if x ≤ y then x :: y :: ys else y :: insI x ys
def sortI : List Int → List Int
  | [] => []
  | x :: xs => insI x (sortI xs)
def semSorted : List Val → Option Val
  | [.lst _ l] => match intsL l with
    | some ns => some (.lst true ((sortI ns).map Val.int))
    | none => none
  | _ => none
theorem insI_perm (x : Int) : ∀ ys : List Int, (insI x ys).Perm (x :: ys)
  | [] => .refl _
  | y :: ys => by
    unfold insI
    split
    · exact .refl _
    · exact ((insI_perm x ys).cons y).trans (.swap x y ys)
theorem sortI_perm : ∀ xs : List Int, (sortI xs).Perm xs
  | [] => .refl _
  | x :: xs => (insI_perm x (sortI xs)).trans ((sortI_perm xs).cons x)
theorem insI_sorted (x : Int) : ∀ {ys : List Int}, ys.Pairwise (· ≤ ·) → (insI x ys).Pairwise (· ≤ ·)
  | [], _ => by simp [insI]
  | y :: ys, h => by
    have h2 := List.pairwise_cons.mp h
    unfold insI
    split
    · rename_i c
      exact List.pairwise_cons.mpr ⟨fun z hz => (List.mem_cons.mp hz).elim (fun e => e ▸ c) fun hz => Int.le_trans c (h2.1 z hz), h⟩
    · rename_i c
      refine List.pairwise_cons.mpr ⟨fun z hz => ?_, insI_sorted x h2.2⟩
      rcases List.mem_cons.mp ((insI_perm x ys).mem_iff.mp hz) with e | hz
      · subst e; omega
      · exact h2.1 z hz
theorem sortI_sorted : ∀ xs : List Int, (sortI xs).Pairwise (· ≤ ·)
  | [] => .nil
  | x :: xs => insI_sorted x (sortI_sorted xs)
theorem sorted_eq : ∀ {xs ys : List Int}, xs.Perm ys → xs.Pairwise (· ≤ ·) → ys.Pairwise (· ≤ ·) → xs = ys
  | [], ys, p, _, _ => (List.Perm.nil_eq p)
  | x :: xs, [], p, _, _ => absurd p.length_eq (by simp)
  | x :: xs, y :: ys, p, h1, h2 => by
    have a := List.pairwise_cons.mp h1
    have b := List.pairwise_cons.mp h2
    have e : x = y := by
      have hx : x ∈ y :: ys := p.mem_iff.mp List.mem_cons_self
      have hy : y ∈ x :: xs := p.mem_iff.mpr List.mem_cons_self
      rcases List.mem_cons.mp hx with hx | hx
      · exact hx
      · rcases List.mem_cons.mp hy with hy | hy
        · exact hy.symm
        · have := a.1 y hy
          have := b.1 x hx
          omega
    subst e
    rw [sorted_eq (List.Perm.cons_inv p) a.2 b.2]
section
variable {G : Gam} {X : Cx} {E : WX}
theorem ints_of_reps {W : Addr → Prop} {H : Hp} : ∀ {l : List Val} {xs : List V} {O : List Addr} {ns : List Int}, Reps G W H xs l O → intsL l = some ns → xs = ns.map V.int ∧ l = ns.map Val.int
  | [], _, _, _, r, h => by cases r; cases h; exact ⟨rfl, rfl⟩
  | u :: l, _, _, ns, r, h => by
    cases r with
    | cons r t =>
      cases u with
      | int i =>
        simp only [intsL] at h
        cases hb : intsL l with
        | none => rw [hb] at h; cases h
        | some cs =>
          rw [hb] at h
          cases h
          cases r
          obtain ⟨a, b⟩ := ints_of_reps t hb
          exact ⟨by rw [a]; rfl, by rw [b]; rfl⟩
      | _ => cases h
theorem reps_ints {W : Addr → Prop} {H : Hp} : ∀ ns : List Int, Reps G W H (ns.map V.int) (ns.map Val.int) []
  | [] => .nil
  | n :: ns => .cons (O := []) (O' := []) (.int n) (reps_ints ns)
theorem ok_sorted (hK : X.K = G.K) : OkF G (rSortedI X.K) semSorted := by
  rw [hK]
  intro W H xs vs Ol v Q w r hs m
  unfold semSorted at hs
  split at hs
  · obtain ⟨x, O, rfl, r1⟩ := r.inv1
    split at hs
    · rename_i ns hb
      cases hs
      obtain ⟨a, ys, O1, rfl, e1, q1⟩ := rep_lstL r1
      obtain ⟨e, _⟩ := ints_of_reps q1 hb
      subst e
      refine ⟨a, ns, rfl, .inl (.inl e1), fun ns' p hp hs' hn => ?_⟩
      have : ns' = sortI ns := sorted_eq (hp.trans (sortI_perm ns).symm) hs' (sortI_sorted ns)
      subst this
      exact m.lst (reps_ints _) p hn
    · cases hs
  · cases hs
theorem intsL_map : ∀ ns : List Int, intsL (ns.map Val.int) = some ns
  | [] => rfl
  | n :: ns => by simp [intsL, intsL_map ns]
/-! ### enumerate -/
def enumV : Nat → List Val → List Val
  | _, [] => []
  | n, u :: us => .tup [.int (n : Int), u] :: enumV (n + 1) us
def mEnum (m : ME) : MI := fun ρ => match m ρ with
  | .ok (.lst false us) ρ' => .ok (enumV 0 us) ρ'
  | .ok _ _ => .bad
  | .exc e ρ' => .exc e ρ'
  | .bad => .bad
theorem enumV_len : ∀ (n : Nat) (us : List Val), (enumV n us).length = us.length
  | _, [] => rfl
  | n, u :: us => by simp [enumV, enumV_len (n + 1) us]
theorem enumV_at : ∀ (n i : Nat) (us : List Val), (enumV n us)[i]? = (us[i]?).map fun u => .tup [.int ((n + i : Nat) : Int), u]
  | n, i, [] => by simp [enumV]
  | n, 0, u :: us => by simp [enumV]
  | n, i + 1, u :: us => by
    have := enumV_at (n + 1) i us
    simp only [enumV, List.getElem?_cons_succ, this]
    have e : n + 1 + i = n + (i + 1) := by omega
    rw [e]
theorem walk_enum {W : Addr → Prop} {H : Hp} {a : Addr} {xs : List V} {us : List Val} (h1 : Fz W H a (.lst xs)) (r1 : Reps G W H xs us []) : Walk G W H (Ite G.K a) (enumV 0 us) := by
  intro W' H' kp i
  have q1 : SqL G.K H' a xs := .inl (.inl (kp _ _ h1.1 h1.2).1)
  have k1 := (kp _ _ h1.1 h1.2).1
  refine ⟨fun h => ⟨xs, q1, by rw [r1.length]; rw [enumV_len] at h; exact h⟩, fun u hu => ?_⟩
  rw [enumV_at] at hu
  cases hv : us[i]? with
  | none => rw [hv] at hu; cases hu
  | some v =>
  rw [hv] at hu
  cases hu
  obtain ⟨x, O1, Oi, O2, e1, e2, q⟩ := r1.split hv
  have eO : Oi = [] := by
    have : O1 = [] ∧ Oi = [] ∧ O2 = [] := by simpa using e2.symm
    exact this.2.1
  subst eO
  rw [show 0 + i = i from Nat.zero_add i]
  refine ⟨⟨xs, x, q1, e1⟩, fun y H'' hy => ?_⟩
  obtain ⟨T, x', rfl, hT, rfl, hx'⟩ := hy
  have ex : x' = x := by
    have := hx' xs q1
    rw [e1] at this
    cases this; rfl
  subst ex
  refine ⟨same_upd hT, fun ww => .tup (O := [] ++ ([] ++ [])) ⟨upd_same, fresh_nw ww T hT⟩ (.cons (.int _) (.cons ((q.mono kp fun _ z => nomatch z).upd hT fun z hz => .inl hz) .nil))⟩
variable {p s : Bool} {m : ME} {e : Expr} {pos : Pos}
theorem vi_enum {elts : List Expr} {kk : Nat} {tpos zp : Pos} (hK : X.K = G.K) (hg : Gl X "enumerate") (hm : X.mg "enumerate" = none) (h1 : VE G X E p s e m) (hs : starEach [e] X.env = (false, eval e X.env) :: starEach [] X.env := by rfl) (hs2 : starEach [e] X.env = [(false, eval e X.env)] := by rfl) :
    VI G X E (.Tuple elts kk tpos) (.Call (.Name "enumerate" zp) [e] [] pos) (mEnum m) := by
  refine PI.pre (pi_enum hg hm (pa_cons h1 pa_nil hs) hs2) fun σ H K ⟨R, ρ, Os, rel, post⟩ => ?_
  have key := nest_of (G := G) (E := E) (σ := σ) (os := [⟨p, s, m⟩]) wf1 rel (K := fun vs H1 => ∃ a xs, vs = [.ref a] ∧ SqL X.K H1 a xs ∧ K (Ite X.K a) H1) ?_
  · exact key
  · rw [evalA_eq]
    unfold mEnum at post
    simp only [List.map_cons, List.map_nil]
    cases he : m ρ with
    | bad => rw [he] at post; simp [evalM, he]; exact post
    | exc e ρ' => rw [he] at post; simp [evalM, he]; exact post
    | ok v ρ' =>
      rw [he] at post
      have e2 : evalM [m] ρ = .ok [v] ρ' := by simp [evalM, he]
      rw [e2]
      intro xs H' Os' Ol rel' reps nd keep pure
      match v, reps, post with
      | .lst false us, reps, post =>
        obtain ⟨x, O, rfl, r1⟩ := reps.inv1
        cases r1 with
        | @lstF a xs _ f1 g1 =>
        rw [hK]
        refine ⟨a, xs, rfl, .inl (.inl f1.1), post _ H' Os' (rel'.weak fun a z => .inl z) ?_ (keep.imp fun _ z => z.elim)⟩
        have up : ∀ c, WW R Os' c → WW (fun a => R a ∨ a ∈ stab [⟨p, s, m⟩] Ol) Os' c := fun c z => z.imp .inl id
        exact walk_enum ⟨f1.1, fun z => f1.2 (up _ z)⟩ (g1.weakW up)
/-! ### x.append(e), x.extend(e), where e changes names -/
def mLopN (i : Nat) (f : List Val → Val → Option (List Val)) (m : ME) : ME := fun ρ => match ρ[i]? with
  | some (some (.lst true _)) => (match m ρ with
    | .ok u ρ1 => (match ρ1[i]? with
      | some (some (.lst true ys)) => (match f ys u with
        | some zs => .ok .non (ρ1.set i (some (.lst true zs)))
        | none => .bad)
      | _ => .bad)
    | .exc e ρ1 => .exc e ρ1
    | .bad => .bad)
  | _ => .bad
theorem lopN_pre {i : Nat} {f : List Val → Val → Option (List Val)} {rr : V → List V → Hp → VK → Prop} {σ : L2.St} {H : Hp} {Q : VK} (ok : LopOk G rr f)
    (h : rd G E false true (mLopN i f m) σ H Q) : tNav X.K i [] σ H fun x H1 => tyV X.K "list" x H1 ∧ rd G E p true m σ H1 fun y H2 => rr x [y] H2 Q := by
  obtain ⟨R, ρ, Os, rel, post⟩ := h
  unfold mLopN at post
  split at post
  rotate_left
  · exact post.elim
  rename_i ys0 hv
  have e0 : (fun a => R a ∨ a ∈ ([] : List Addr)) = R := setEq fun a => ⟨fun z => z.elim id (fun z => nomatch z), Or.inl⟩
  obtain ⟨x, hx, rw'⟩ := rel.rep i _ hv
  obtain ⟨b, xs, ey, eb⟩ : ∃ b xs, x = .ref b ∧ H b = some (.lst xs) := by
    obtain ⟨a, ys, O1, e1, e2, _⟩ := rep_lstL rw'
    exact ⟨a, ys, e1, e2⟩
  refine ⟨x, x, hx, rfl, ?_, R, ρ, Os, rel, ?_⟩
  · subst ey
    exact .inl ⟨rfl, xs, .inl (.inl eb)⟩
  cases hm : m ρ with
  | bad => rw [hm] at post; exact post
  | exc e ρ1 => rw [hm] at post; exact post
  | ok u ρ1 =>
    rw [hm] at post
    dsimp only at post
    cases hv2 : ρ1[i]? with
    | none => rw [hv2] at post; exact post.elim
    | some v2 =>
    rw [hv2] at post
    match v2, hv2, post with
    | some (.lst true ys), hv2, post =>
    dsimp only at post
    cases hf : f ys u with
    | none => rw [hf] at post; exact post.elim
    | some zs =>
    rw [hf] at post
    dsimp only at post
    intro y2 H2 Os2 Ou rel2 rep2 nd2 keep2 _
    have e1 : Rp R true Ou = fun a => R a ∨ a ∈ Ou := setEq fun a => ⟨fun z => z.imp id fun z => z.2, fun z => z.imp id fun z => ⟨rfl, z⟩⟩
    rw [e1] at rel2 rep2
    have nO : ∀ a ∈ Ou, ¬ R a := fun a ha z => by
      obtain ⟨o, ea, nw⟩ := rel.hr a z
      exact (keep2 a o ea nw).2.2 ⟨rfl, ha⟩
    obtain ⟨x', y', Ow2, hx', nav', rw2, ndw, sub, chg⟩ := Rel.at_path (K := X.K) (r := []) rel2 nO (nd2 rfl) (fun _ _ z => nomatch z) hv2 rfl
    rw [hx] at hx'
    cases hx'
    cases nav'
    subst ey
    cases rw2 with
    | @lstO _ xs2 _ P0 eb2 q =>
    have dj : ∀ a ∈ b :: P0, a ∉ Ou := fun a ha z => rel2.dr i a (sub a ha) (.inr z)
    obtain ⟨xs', P, run, ndP, hP, mk⟩ := ok _ H2 b xs2 ys P0 u y2 Ou zs eb2 q rep2 ndw (nd2 rfl) dj hf
    refine run Q ?_
    have ndb := List.nodup_cons.mp ndw
    obtain ⟨Os', r3, k3⟩ := chg b (.lst xs') (.lst true zs) P rfl List.mem_cons_self (List.nodup_cons.mpr ⟨fun z => (hP b z).elim ndb.1 fun z => dj b List.mem_cons_self z, ndP⟩) (fun c hc => (hP c hc).imp (List.mem_cons_of_mem _) id) fun W' tr =>
      .lstO upd_same (mk W' _ fun z u Oz hz => tr z u Oz fun c hc => ⟨(hz c hc).imp (List.mem_cons_of_mem _) id, fun w => (hz c hc).elim (fun z => ndb.1 (w ▸ z)) fun z => dj b List.mem_cons_self (w ▸ z)⟩)
    refine post .non _ Os' [] (r3.weak fun a z => z.elim id fun z => nomatch z.2) .non (fun _ => List.nodup_nil) (fun a o ea nw => ?_) fun z => by cases z
    obtain ⟨e2, n1, n2⟩ := keep2 a o ea nw
    obtain ⟨e3, n3⟩ := k3 a o e2 n1 fun z => n2 ⟨rfl, z⟩
    exact ⟨e3, n3, fun z => nomatch z.2⟩
theorem ve_appN {i : Nat} {o : Expr} {apos : Pos} (ho : PE X o (tNav X.K i [])) (he : VE G X E p true e m) (hbase : attributeBase o "append" X.env (eval o X.env) = eval o X.env := by rfl)
    (hfew : ((backTo pos (starEach [e] X.env)).all (fun x => !x.1) && (backToKw pos (keywordEach [] X.env)).all (fun x => x.1.isSome) && decide (([e] : List Expr).length + ([] : List Keyword).length + (if ([] : List Keyword).isEmpty then 0 else 1) < 30)) = true := by rfl)
    (hline : (apos.endLine == pos.line) = true := by rfl) (hs : starEach [e] X.env = (false, eval e X.env) :: starEach [] X.env := by rfl) (hp : (backTo pos (starEach [] X.env)).any (·.1) = false := by rfl) : VE G X E false true (.Call (.Attribute o "append" apos) [e] [] pos) (mLopN i fApp m) :=
  PE.pre (pe_bm PySem.F.plainAttrs_list PySem.F.slot_list_append PySem.F.type_list_append mt_append ho (pa_cons he pa_nil hs) hbase hfew hline hs hp) fun σ H Q h => lopN_pre ok_app h
/-! ### list(range(n)) -/
def semLR : List Val → Option Val
  | [.int n] => if -(2 ^ 62) ≤ n ∧ n ≤ 16777216 then some (.lst true ((List.range n.toNat).map fun i : Nat => Val.int (i : Int))) else none
  | _ => none
def rLR : List V → Hp → VK → Prop := fun xs H Q => ∃ n : Int, xs = [.int n] ∧ RgOk 0 n ∧ ∀ q, H q = none → Q (.ref q) (upd H q (.lst (rgV 0 n)))
theorem ok_LR : OkF G rLR semLR := by
  intro W H xs vs Ol v Q w r hs m
  unfold semLR at hs
  split at hs
  · obtain ⟨x, O, rfl, r1⟩ := r.inv1
    split at hs
    · rename_i n hn
      cases hs
      cases r1
      have e : rgV 0 n = (((List.range n.toNat).map fun i : Nat => (i : Int)).map V.int) := by simp [rgV]
      have e2 : ((List.range n.toNat).map fun i : Nat => Val.int (i : Int)) = (((List.range n.toNat).map fun i : Nat => (i : Int)).map Val.int) := by simp
      rw [e2] at m
      refine ⟨n, rfl, ⟨by omega, by omega, hn.1, by omega, by omega⟩, ?_⟩
      rw [e]
      exact m.lst (reps_ints _)
    · cases hs
  · cases hs
theorem ve_lr {zp lp rp : Pos} (hc : X.calm = true) (hg : Gl X "list") (hm : X.mg "list" = none) (hg2 : Gl X "range") (hm2 : X.mg "range" = none) (h1 : VE G X E p s e m)
    (na : starEach [e] X.env = (false, eval e X.env) :: starEach [] X.env := by rfl) (na2 : starEach [.Call (.Name "range" rp) [e] [] pos] X.env = (false, eval (.Call (.Name "range" rp) [e] [] pos) X.env) :: starEach [] X.env := by rfl) : VE G X E p true (.Call (.Name "list" lp) [.Call (.Name "range" rp) [e] [] pos] [] zp) (mFun semLR [m]) := by
  have h := ve_fun (G := G) (E := E) (os := [⟨p, s, m⟩]) (r := rLR) (pe_listRg (p := lp) (pos := zp) hc hg hm (prg_1 hg2 hm2 h1 na) na2) (fun σ H Q z => rd_mono z fun x H1 ⟨n, e, r, q⟩ => ⟨n, by cases e; rfl, r, q⟩) ok_LR wf1
  simpa using h
end
end VL
/-! VL, part WX: C.m(..), m a static method. -/
namespace VL
open PySem L2 ClX
/-- where a static method's record stands, its def -/
def smP (K : PySem.W.Frag) (C : Addr) (m : Str) : Addr := match PySem.W.findIn K (.ref C) m with
  | some (some (.ref p)) => p
  | _ => 0
def smF (K : PySem.W.Frag) (C : Addr) (m : Str) : Addr := match PySem.W.recIn K (smP K C m) "staticmethod" with
  | some (.ref f :: _) => f
  | _ => 0
/-- C.m is a static method: its record at p, its def at f -/
structure SMet (K : PySem.W.Frag) (C : Addr) (m : Str) (p f : Addr) : Prop where
  rd : PySem.W.readsIn K C (.type "type") = true
  ga : PySem.W.specialIn K (.ref C) "__getattribute__" = some (some (.builtin "type.__getattribute__"))
  at_ : PySem.W.findCls K (.ref C) (.type "type") m = some (.get (.builtin "staticmethod.__get__") (.ref p) .none (.ref C))
  rc : ∃ rest, PySem.W.recIn K p "staticmethod" = some (.ref f :: rest)
  kp : PySem.W.keepIn K (.ref f) = true
/-- the test of it -/
def isGet (K : PySem.W.Frag) (C : Addr) (m : Str) : Bool := match PySem.W.findCls K (.ref C) (.type "type") m with
  | some (.get g a o t) => decide (g = .builtin "staticmethod.__get__") && decide (a = .ref (smP K C m)) && decide (o = .none) && decide (t = .ref C)
  | _ => false
def tSMet (c m : Str) : Ftest := fun K => PySem.W.readsIn K (He.ga K c) (.type "type") && (decide (PySem.W.specialIn K (.ref (He.ga K c)) "__getattribute__" = some (some (.builtin "type.__getattribute__"))) && (isGet K (He.ga K c) m && ((match PySem.W.recIn K (smP K (He.ga K c) m) "staticmethod" with
  | some (.ref _ :: _) => true
  | _ => false) && PySem.W.keepIn K (.ref (smF K (He.ga K c) m)))))
theorem smet_ok {K : PySem.W.Frag} {c m : Str} (h : tSMet c m K = true) : SMet K (He.ga K c) m (smP K (He.ga K c) m) (smF K (He.ga K c) m) := by
  unfold tSMet at h
  simp only [Bool.and_eq_true, decide_eq_true_eq] at h
  obtain ⟨h1, h2, h3, h4, h5⟩ := h
  refine ⟨h1, h2, ?_, ?_, h5⟩
  · unfold isGet at h3
    split at h3
    · rename_i g a o t e
      simp only [Bool.and_eq_true, decide_eq_true_eq] at h3
      obtain ⟨⟨⟨rfl, rfl⟩, rfl⟩, rfl⟩ := h3
      exact e
    · cases h3
  · split at h4
    · rename_i f rest e
      refine ⟨rest, ?_⟩
      have : smF K (He.ga K c) m = f := by unfold smF; rw [e]
      rw [this]; exact e
    · cases h4
section
variable {G : Gam} {X : Cx} {E : WX} {e o : Expr} {es : List Expr} {as : List Arg} {pos apos : Pos} {C p f : Addr} {m : Str}
theorem getsm_ok {A : Around} {E : Value → Shared → Prop} {pins : List (Addr × Obj)} {σ : L2.St} {H : Hp} {s : Shared} {pl : Sem Bool} {Q : Value × List Value → Shared → Prop} (I : Inv X pins σ H s) (k : SMet X.K C m p f)
    (h : ∀ s', Inv X pins σ H s' → Q (.ref f, []) s') : wpAny (model X.prog X.w) A (getMethod (.ref C) m pl) Q E s := by
  obtain ⟨rest, hp⟩ := k.rc
  refine PySem.W.method_cls I.kIn k.ga (PySem.W.cls_bind I.kIn k.rd k.at_ ?_)
  refine wpAny_call (PySem.W.sm_get (s := { s with toks := s.toks + 1 }) I.kIn hp (PySem.W.handed_on rfl ?_))
  exact h _ (I.tok _)
theorem ve_static {pl : Sem Bool} {n : Nat} {mf : MF} {dks : List (V × Val)} (k : SMet X.K C m p f) (ho : PE X o (tC (.ref C))) (hc : CalV G X E (.ref f) n mf dks) (ha : VAg G X E (e :: es) as) (hd : DflL G dks) (hs : (vals as).all (·.s) = true := by rfl) (hnk : noK as = true := by rfl) (hn : as.length + dks.length = n := by rfl)
    (he : starEach (e :: es) X.env = (false, eval e X.env) :: starEach es X.env := by rfl) (hpl : (backTo pos (starEach es X.env)).any (·.1) = false := by rfl) (ht : eval (.Call (.Attribute o m apos) (e :: es) [] pos) X.env = mcTree o m apos pos (e :: es) pl X.env := by rfl) :
    VE G X E (argsP (as ++ dArgs dks)) true (.Call (.Attribute o m apos) (e :: es) [] pos) (mCall mf (as ++ dArgs dks)) := by
  refine ⟨fun pins s1 σ H Q I h => PySem.W.methodCall_KW (pl := pl) (thn (ho.run pins s1 σ H (fun x H1 => x = .ref C ∧ H1 = H) I ⟨rfl, rfl⟩) fun u s2 hx => ?_) ht⟩
  obtain ⟨x, H1, I1, rx, ex, eh⟩ := hx
  subst ex
  subst eh
  obtain rfl : u = Value.ref C := rx
  refine getsm_ok I1 k fun s3 I3 => PySem.W.callWith_K (first := []) (h₀ := X.base) I3.ok.mod.kin k.kp ?_ he hpl
  exact thn (ha.run pos pins s3 σ H1 _ I3 (call_dk hd hnk hs hn h)) fun us s4 ⟨xs, H2, I2, r, q⟩ => ⟨I2.kIn, hc pins s4 σ H2 xs us Q I2 r q⟩
end
/-! ### x(..), x an own object -/
/-- the first is an object of the class c -/
def mfOwn (c : Nat) (mf : MF) : MF := fun vs => match vs with
  | .obj o n fs xs :: r => if n = c then mf (.obj o n fs xs :: r) else .bad
  | _ => .bad
def mCallO (i c : Nat) (mf : MF) (as : List Arg) : ME := fun ρ => match ρ[i]? with
  | some (some (.obj _ n _ _)) => if n = c then mCall (mfOwn c mf) (.r i :: as) ρ else .bad
  | _ => .bad
section
open PySem.W PySem.Calls PyProof.Rows
variable {M : Model} {A : Around} {E : Value → Shared → Prop} {s : Shared} {K : Frag} {env : Env} {pos : Pos} {x : Addr} {first : List Value} {Q : Value → Shared → Prop}
theorem callWith_own {args : List (Bool × Sem Value)} {keywords : List (Option Str × Sem Value)} (hplain : (args.any (·.1) || keywords.any (·.1.isNone)) = false)
    (h : wpAny M A (evalArgs (.ref x) true args keywords) (fun a s₁ => (∃ ox, s₁.heap.get? x = some ox ∧ ox.data = .plain) ∧ wpAny M A (call (.ref x) (first ++ a.pos) a.kw) Q E s₁) E s) : wpAny M A (callWith pos (.ref x) first args keywords) Q E s := by
  unfold callWith
  refine wpAny_bind (wpAny_holding (wpAny_mono h (fun a s₁ h₁ => wpAny_bind (wpAny_standAt ?_)) fun _ _ y => y))
  obtain ⟨⟨ox, h2, hd⟩, h3⟩ := h₁
  have L : Looks M s₁.heap (keeperOf (.ref x)) .caller := by
    refine (Looks.ld (part := none) h2).andThen ?_
    simp only [hd]
    exact .now
  simp only [hplain]
  refine wpAny_bind (L.here ?_)
  have tail : ∀ {t : Sem Value}, wpAny M A t Q E s₁ → wpAny M A (t >>= fun r => holding [r] point >>= fun _ => pure r) Q E s₁ :=
    fun ht => wpAny_bind (wpAny_mono ht (fun r s₂ hr => wpAny_bind (wpAny_holding (wpAny_point (wpAny_pure hr)))) fun _ _ y => y)
  exact tail (wpAny_operateT h3)
end
section
variable {G : Gam} {X : Cx} {E : WX} {e : Expr} {es : List Expr} {as : List Arg} {pos px : Pos} {C f : Addr} {x : Str}
theorem ve_callO {i c k n : Nat} {fd : FuncData} {ps : List Str} {mf : MF} (hcn : G.cn c = some C) (hc1 : PySem.W.findIn X.K (.ref C) "__call__" = some (some (.ref f))) (hc2 : PySem.W.isFn X.K (.ref f) = true) (hc3 : PySem.W.fnIn X.K f = true) (hN : X.N[i]? = some x) (hv : Vis X.env.scope x)
    (F : FnOkG X.prog X.w X.K X.mg X.base (L2.CX X.prog X.w) k f fd ps (spV G n mf)) (hr : RoomG k X.A) (hb : Binds X.K fd ps []) (tk : Takes X E) (ha : VAg G X E (e :: es) as)
    (hs : (vals as).all (·.s) = true := by rfl) (hnk : noK as = true := by rfl) (hn : as.length + 1 = n := by rfl) (hdb : (x == ("__debug__" : Str)) = false := by decide) (hcd : (x == ("__classdict__" : Str)) = false := by decide)
    (he : starEach (e :: es) X.env = (false, eval e X.env) :: starEach es X.env := by rfl) (hpl : (backTo pos (starEach es X.env)).any (·.1) = false := by rfl) : VE G X E false true (.Call (.Name x px) (e :: es) [] pos) (mCallO i c mf as) := by
  refine ⟨fun pins s1 σ H Q I ⟨R, ρ, Os, rel, post⟩ => ?_⟩
  unfold mCallO at post
  split at post
  rotate_left
  · exact post.elim
  rename_i o0 n0 fs0 xs0 hk
  by_cases hn0 : n0 = c
  rotate_left
  · rw [if_neg hn0] at post; exact post.elim
  rw [if_pos hn0] at post
  obtain ⟨y, hy, rep0⟩ := rel.rep i _ hk
  obtain ⟨a, C0, dx0, fs1, rfl, ea0, hC0, _⟩ := rep_obj rep0
  have h2 : rd G E (argsP (.r i :: as ++ dArgs [])) true (mCall (mfOwn c mf) (.r i :: as ++ dArgs [])) σ H Q := by
    have e : (.r i :: as ++ dArgs [] : List Arg) = .r i :: as := by simp [dArgs]
    rw [e]
    exact ⟨R, ρ, Os, rel, post⟩
  obtain ⟨y, hy2, q⟩ := call_dk (as := .r i :: as) (dks := []) (n := n) (fun q hq => nomatch hq) hnk hs (by simpa using hn) (σ := σ) h2
  rw [hy] at hy2
  cases hy2
  refine wpAny_Call_Name_kw (thn ((pe_var (pos := px) hN hv hdb hcd).run pins s1 σ H (fun v H1 => v = .ref a ∧ H1 = H) I ⟨.ref a, hy, rfl, rfl⟩) fun u s2 ⟨v, H1, I1, r1, q1⟩ => ?_)
  obtain ⟨rfl, rfl⟩ := q1
  cases r1
  rw [he]
  refine callWith_own (by show ((false || (backTo pos (starEach es X.env)).any (·.1)) || false) = false; rw [hpl]; rfl) (PySem.Calls.evalArgs_plain ?_)
  have run := ha.run pos pins s2 σ _ _ I1 q
  rw [he] at run
  refine thn run fun us s3 ⟨xs, H2, I2, r, q2⟩ => ?_
  obtain ⟨len0, R2, vs, Oa, rel2, post2⟩ := q2
  have hl := rel2.len
  cases vs with
  | nil => exact post2.elim
  | cons v vs =>
  obtain ⟨x', e', rr⟩ := rel2.rep 0 v rfl
  have ex : V.ref a = x' := by simpa using e'
  subst ex
  obtain ⟨o, fs, ys, rfl, e2⟩ : ∃ o fs ys, v = .obj o c fs ys ∧ mfOwn c mf (v :: vs) = mf (v :: vs) := by
    cases v with
    | obj o n1 fs ys =>
      by_cases hn1 : n1 = c
      · subst hn1
        exact ⟨o, fs, ys, rfl, if_pos rfl⟩
      · have e2 : mfOwn c mf (.obj o n1 fs ys :: vs) = .bad := if_neg hn1
        rw [e2] at post2
        exact post2.elim
    | _ => exact post2.elim
  rw [e2] at post2
  obtain ⟨a', C', dx, fs', ea', ea, hC, _⟩ := rep_obj rr
  cases ea'
  rw [hcn] at hC; cases hC
  obtain ⟨hx, od, J⟩ := ins_here I2 ea
  refine ⟨⟨_, hx, rfl⟩, ?_⟩
  have q4 : spV G n mf (.ref a :: xs) H2 Q (WE E σ) := ⟨by simpa using len0, R2, .obj o c fs ys :: vs, Oa, by simpa using rel2, by simpa using post2⟩
  have hlen : (Value.ref a :: us).length = ps.length := by rw [← F.len _ _ _ _ q4, List.length_cons, List.length_cons, r.length]
  have b := hb s3 (.ref a :: us) I2.kIn (by rw [List.append_nil]; exact hlen)
  rw [List.append_nil] at b
  refine wpAny_call (PySem.W.kco_code I2.kIn J rfl hc1 hc2 hc3 (codeAny_mono (F.run X.A X.stack s3 H2 ⟨.ref a :: us, []⟩ (.ref a :: us) (.ref a :: xs) Q (WE E σ) hr I2.env0 b (.cons rfl r) q4) fun res s' hq => ?_))
  cases res with
  | error er => exact passAt tk σ pins H2 s3 er s' I2 hq
  | ok fl =>
    cases fl with
    | ret u => exact I2.after hq
    | next => exact False.elim hq
    | brk => exact False.elim hq
    | cont => exact False.elim hq
/-- f(e, .., k = v, ..), all parameters written -/
theorem ve_callK1 {k n : Nat} {fd : FuncData} {ps ks : List Str} {mf : MF} {kws : List Keyword} {os1 os2 : List Op} {g : List Value → List Value → List Value} {gV : List V → List V → List V}
    (F : FnOkG X.prog X.w X.K X.mg X.base (L2.CX X.prog X.w) k f fd ps (spV G n mf)) (hr : RoomG k X.A) (hb : KBn X.K fd ps os1.length ks g gV) (tk : Takes X E) (hg : Gl X x) (hm : X.mg x = some (.ref f)) (hk : PySem.W.keepIn X.K (.ref f) = true) (ha : VAs G X E (e :: es) os1) (hkw : PK X kws fun σ H K => nest G E os2 σ H K) (df : Dfl G as)
    (hv : vals as = os1 ++ os2) (hgv : ∀ xs zs, xs.length = os1.length → zs.length = os2.length → gV xs zs = mergeD0 as (xs ++ zs)) (hn : as.length = n := by rfl) (hs : (vals as).all (·.s) = true := by rfl) (nr : noRefs as = true := by rfl) (hks0 : os2.length = ks.length := by rfl)
    (hall : (backToKw pos (keywordEach kws X.env)).all (·.1.isSome) = true := by rfl) (hks : (backToKw pos (keywordEach kws X.env)).filterMap (·.1) = ks := by rfl) (hdb : (x == ("__debug__" : Str)) = false := by decide)
    (he : starEach (e :: es) X.env = (false, eval e X.env) :: starEach es X.env := by rfl) (hpl : ((backTo pos (starEach (e :: es) X.env)).any (·.1) || (backToKw pos (keywordEach kws X.env)).any (·.1.isNone)) = false := by rfl) :
    VE G X E (argsP as) true (.Call (.Name x px) (e :: es) kws pos) (mCall mf as) := by
  refine ⟨fun pins s σ H Q I h => ?_⟩
  have q0 := nest_of_G nr (call_of df hs hn h)
  rw [hv] at q0
  have q1 := nest_len (nest_app q0)
  have q2 := nest_imp q1 (K' := fun xs H1 => xs.length = os1.length ∧ nest G E os2 σ H1 fun zs H2 => zs.length = os2.length ∧ spV G n mf (mergeD0 as (xs ++ zs)) H2 Q (WE E σ)) fun xs H1 ⟨l, z⟩ => ⟨l, nest_len z⟩
  refine wpAny_Call_Name_kw (ld_glob I hg hm ?_ hdb)
  refine PySem.W.callWith_KW (h₀ := X.base) I.ok.mod.kin hk hall (thn (ha.run pos pins s σ H _ I q2) fun us s1 ⟨xs, H1, I1, r, lx, q3⟩ => ?_) hpl he
  refine thn (hkw.run pos pins s1 σ H1 _ I1 q3) fun ws s2 ⟨zs, H2, I2, rz, hlen, q2⟩ => ⟨I2.kIn, ?_⟩
  rw [hks]
  rw [← hgv xs zs lx hlen] at q2
  refine wpAny_call (codeAny_mono (F.run X.A X.stack s2 H2 ⟨us, ks.zip ws⟩ (g us ws) (gV xs zs) Q (WE E σ) hr I2.env0 (hb.to s2 us ws I2.kIn (by rw [← r.length, lx]) (by rw [← rz.length, hlen, hks0])) (hb.rel r rz) q2) fun res s' hq => ?_)
  cases res with
  | error er => exact passAt tk σ pins H2 s2 er s' I2 hq
  | ok fl =>
    cases fl with
    | ret u => exact I2.after hq
    | next => exact False.elim hq
    | brk => exact False.elim hq
    | cont => exact False.elim hq
end
end VL
/-! VL, part WY: a in b, b an own object. -/
namespace VL
open PySem L2
def mfIn (g : Bool → Bool) (c : Nat) (ml : MF) : MF := fun vs => match vs with
  | [v, .obj o n fs xs] => if n = c then boolR g (ml [.obj o n fs xs, v]) else .bad
  | _ => .bad
structure OwnIn (K : PySem.W.Frag) (C f : Addr) : Prop where
  l : PySem.W.findIn K (.ref C) "__contains__" = some (some (.ref f))
  lf : PySem.W.isFn K (.ref f) = true
def tOwnIn (c : Str) : Ftest := fun K => decide (PySem.W.findIn K (.ref (He.ga K c)) "__contains__" = some (some (.ref (He.ma K (He.ga K c) "__contains__")))) && PySem.W.isFn K (.ref (He.ma K (He.ga K c) "__contains__"))
theorem ownin_ok {K : PySem.W.Frag} {c : Str} (h : tOwnIn c K = true) : OwnIn K (He.ga K c) (He.ma K (He.ga K c) "__contains__") := by
  unfold tOwnIn at h
  rw [Bool.and_eq_true, decide_eq_true_eq] at h
  exact ⟨h.1, h.2⟩
section
open PySem.W PySem.Calls PyProof.Rows Builtin
variable {M : Model} {A : Around} {E : Value → Shared → Prop} {s : Shared} {K : Frag} {x C f : Addr} {ox : Obj} {od : Option Obj} {v : Value}
theorem contains_own {Q : Bool → Shared → Prop} (X : K.In s.heap) (I : InstAt s.heap x ox C od) (hs : findIn K (.ref C) "__contains__" = some (some (.ref f))) (hf : isFn K (.ref f) = true)
    (h : wpAny M A (call (.ref f) [.ref x, v]) (fun r s' => wpAny M A (truthy r) Q E s') E s) : wpAny M A (contains (.ref x) v) Q E s := by
  unfold contains
  refine wpAny_holding (wpAny_bind (wpAny_bind (I.type.here ((looks_findIn X hs).here ?_))))
  rw [if_neg (by simp)]
  exact wpAny_bind (unlessNone_K X I hs hf h)
end
section
variable {G : Gam} {X : Cx} {E : WX} {a b : Expr} {C f : Addr} {c : Nat} {ml : MF} {p1 p2 : Bool} {m1 m2 : ME} {H : Hp}
theorem in_own {g : Bool → Bool} {x y : V} {Q : VK} {E : XK} (hc : G.cn c = some C) (h : spV G 2 (mfIn g c ml) [x, y] H Q E) :
    ∃ b dy gs, y = .ref b ∧ H b = some (.ins C dy gs) ∧ spV G 2 ml [y, x] H (fun z H' => ∃ k, z = .bl k ∧ Q (.bl (g k)) H') E := by
  obtain ⟨_, R, v, u, Oa, rel, r1, r2, post⟩ := sp_two h
  have fin : ∀ {τ : L2.St} {r : RE} {ρ2 : VEnv} {Os : Nat → List Addr}, (∀ a, We Os a ↔ We Oa a) → Post G R (fun c d _ H => E c d H) [some x, some y] H Oa false true [some v, some u] Q (boolR g r) → Post G R (fun c d _ H => E c d H) τ H Os false true ρ2 (fun z H' => ∃ k, z = .bl k ∧ Q (.bl (g k)) H') r := by
    intro τ r ρ2 Os hw post
    cases r with
    | bad => exact post
    | exc e ρ' => exact fun c d H' Os' rel rx k => post c d H' (fun _ => []) (rel.void _) (rx.mono fun a o e nw => ⟨e, fun z => nw (z.imp id fun z => (we_nil z).elim)⟩) fun a o e nw => k.void a o e fun z => nw ((hw a).mp z)
    | ok w ρ' =>
      cases w with
      | bl k =>
        intro x' H' Os' O rel rep nd kk _
        cases rep
        refine ⟨k, rfl, post (.bl (g k)) H' (fun _ => []) [] ((rel.void _).weak fun a z => z.elim .inl fun z => nomatch z.2) (.bl _) (fun _ => List.nodup_nil) (fun a o e nw => ?_) fun z => by cases z⟩
        obtain ⟨e1, n1, _⟩ := kk.void a o e fun z => nw ((hw a).mp z)
        exact ⟨e1, n1, fun z => nomatch z.2⟩
      | _ => exact post.elim
  unfold mfIn at post
  split at post
  · rename_i w o n fs xs hvu
    cases hvu
    by_cases hn : n = c
    · rw [if_pos hn] at post
      subst hn
      obtain ⟨b, C', dy, gs', rfl, eb, hC, _⟩ := rep_obj r2
      rw [hc] at hC; cases hC
      refine ⟨b, dy, gs', rfl, eb, rfl, R, [_, _], _, rel.swap, fin (fun a => ?_) post⟩
      constructor
      · rintro ⟨j, z⟩
        match j, z with
        | 0, z => exact ⟨1, z⟩
        | 1, z => exact ⟨0, z⟩
        | _ + 2, z => exact nomatch z
      · rintro ⟨j, z⟩
        match j, z with
        | 0, z => exact ⟨1, z⟩
        | 1, z => exact ⟨0, z⟩
        | j + 2, z => rw [rel.nil (j + 2) (fun v hv => by simp at hv)] at z; cases z
    · rw [if_neg hn] at post; exact post.elim
  · exact post.elim
theorem in_run {g : Bool → Bool} {op : CmpOp} (hop : (op = .In ∧ g = id) ∨ (op = .NotIn ∧ g = not)) (T : OwnIn X.K C f) (hc : G.cn c = some C) (hl : CalV G X E (.ref f) 2 ml []) (pins : List (Addr × Obj)) (s : Shared) (σ : L2.St) (H : Hp) (x y : V) (v u : Value) (Q : VK)
    (I : Inv X pins σ H s) (rx : RelV x v) (ry : RelV y u) (h : spV G 2 (mfIn g c ml) [x, y] H Q (WE E σ)) : wpAny (model X.prog X.w) X.A (compareOp op v u) (EP X pins σ Q) X.xe s := by
  obtain ⟨b, dy, gs, rfl, eb, q⟩ := in_own hc h
  obtain rfl : u = Value.ref b := ry
  obtain ⟨hx, od, J⟩ := ins_here I eb
  have one := hl pins s σ H [.ref b, x] [.ref b, v] _ I (.cons rfl (.cons rx .nil)) (by show spV G 2 ml ([.ref b, x] ++ []) H _ _; rw [List.append_nil]; exact q)
  rcases hop with ⟨rfl, rfl⟩ | ⟨rfl, rfl⟩
  · refine wpAny_bind (contains_own I.kIn J T.l T.lf (wpAny_mono one (fun w s' ⟨z, H', I', rz, k, e, qq⟩ => ?_) fun _ _ z => z))
    subst e
    cases rz
    exact wpAny_truthy_bool (wpAny_pure ⟨.bl k, H', I', rfl, qq⟩)
  · refine wpAny_bind (contains_own I.kIn J T.l T.lf (wpAny_mono one (fun w s' ⟨z, H', I', rz, k, e, qq⟩ => ?_) fun _ _ z => z))
    subst e
    cases rz
    exact wpAny_truthy_bool (wpAny_pure ⟨.bl (!k), H', I', rfl, qq⟩)
theorem pc_ino {g : Bool → Bool} {op : CmpOp} (hop : (op = .In ∧ g = id) ∨ (op = .NotIn ∧ g = not)) (T : OwnIn X.K C f) (hc : G.cn c = some C) (hl : CalV G X E (.ref f) 2 ml []) (h1 : VE G X E p1 true a m1) (h2 : VE G X E p2 true b m2) :
    PC X op a b (rd G E (p1 && p2) true (mCall (mfIn g c ml) [.v ⟨p1, true, m1⟩, .v ⟨p2, true, m2⟩])) := by
  refine ⟨fun pins s σ H Q I h => ?_⟩
  have q := call_of (E := E) (as := [.v ⟨p1, true, m1⟩, .v ⟨p2, true, m2⟩]) (n := 2) trivial rfl rfl (σ := σ) (H := H) (Q := Q) (mf := mfIn g c ml) (by simpa [argsP] using h)
  refine thn (h1.run pins s σ H _ I q) fun v s1 hv => ?_
  obtain ⟨x, H1, I1, rx, q1⟩ := hv
  refine thn (h2.run pins s1 σ H1 _ I1 q1) fun u s2 hu2 => ?_
  obtain ⟨y, H2, I2, ry, q2⟩ := hu2
  exact in_run hop T hc hl pins s2 σ H2 x y v u Q I2 rx ry q2
end
end VL
/-! VL, part XA: max, min, sum of a list of ints; any of a list of bools. -/
namespace VL
open PySem L2
def maxL : Int → List Int → Int
  | m, [] => m
  | m, x :: xs => maxL (if x > m then x else m) xs
def minL : Int → List Int → Int
  | m, [] => m
  | m, x :: xs => minL (if x < m then x else m) xs
theorem maxL_mem : ∀ (m : Int) (xs : List Int), maxL m xs ∈ m :: xs
  | m, [] => by simp [maxL]
  | m, x :: xs => by
    have := maxL_mem (if x > m then x else m) xs
    unfold maxL
    rcases List.mem_cons.mp this with h | h
    · split at h
      · rename_i c; rw [if_pos c, h]; simp
      · rename_i c; rw [if_neg c, h]; simp
    · exact List.mem_cons_of_mem _ (List.mem_cons_of_mem _ h)
theorem maxL_ge : ∀ (m : Int) (xs : List Int), ∀ y ∈ m :: xs, y ≤ maxL m xs
  | m, [], y, h => by simp at h; simp [maxL, h]
  | m, x :: xs, y, h => by
    have e : maxL m (x :: xs) = maxL (if x > m then x else m) xs := rfl
    rw [e]
    by_cases c : x > m
    · rw [if_pos c]
      have ih := maxL_ge x xs
      rcases List.mem_cons.mp h with h | h
      · have := ih x List.mem_cons_self; omega
      · exact ih y h
    · rw [if_neg c]
      have ih := maxL_ge m xs
      rcases List.mem_cons.mp h with h | h
      · exact ih y (by rw [h]; exact List.mem_cons_self)
      · rcases List.mem_cons.mp h with h | h
        · have := ih m List.mem_cons_self; omega
        · exact ih y (List.mem_cons_of_mem _ h)
theorem minL_mem : ∀ (m : Int) (xs : List Int), minL m xs ∈ m :: xs
  | m, [] => by simp [minL]
  | m, x :: xs => by
    have := minL_mem (if x < m then x else m) xs
    unfold minL
    rcases List.mem_cons.mp this with h | h
    · split at h
      · rename_i c; rw [if_pos c, h]; simp
      · rename_i c; rw [if_neg c, h]; simp
    · exact List.mem_cons_of_mem _ (List.mem_cons_of_mem _ h)
theorem minL_le : ∀ (m : Int) (xs : List Int), ∀ y ∈ m :: xs, minL m xs ≤ y
  | m, [], y, h => by simp at h; simp [minL, h]
  | m, x :: xs, y, h => by
    have e : minL m (x :: xs) = minL (if x < m then x else m) xs := rfl
    rw [e]
    by_cases c : x < m
    · rw [if_pos c]
      have ih := minL_le x xs
      rcases List.mem_cons.mp h with h | h
      · have := ih x List.mem_cons_self; omega
      · exact ih y h
    · rw [if_neg c]
      have ih := minL_le m xs
      rcases List.mem_cons.mp h with h | h
      · exact ih y (by rw [h]; exact List.mem_cons_self)
      · rcases List.mem_cons.mp h with h | h
        · have := ih m List.mem_cons_self; omega
        · exact ih y (List.mem_cons_of_mem _ h)
def semMaxL : List Val → Option Val
  | [.lst _ l] => match intsL l with
    | some (n :: ns) => some (.int (maxL n ns))
    | _ => none
  | _ => none
def semMinL : List Val → Option Val
  | [.lst _ l] => match intsL l with
    | some (n :: ns) => some (.int (minL n ns))
    | _ => none
  | _ => none
def semSum : List Val → Option Val
  | [.lst _ l] => match intsL l with
    | some ns => some (.int ns.sum)
    | none => none
  | _ => none
def semAny : List Val → Option Val
  | [.lst _ l] => match bools l with
    | some bs => some (.bl (bs.any id))
    | none => none
  | _ => none
section
variable {G : Gam} {X : Cx}
theorem ok_maxL (hK : X.K = G.K) : OkF G (rMax X.K) semMaxL := by
  rw [hK]
  intro W H xs vs Ol v Q w r hs m
  unfold semMaxL at hs
  split at hs
  · obtain ⟨x, O, rfl, r1⟩ := r.inv1
    split at hs
    · rename_i n ns hb
      cases hs
      obtain ⟨a, ys, O1, rfl, e1, q1⟩ := rep_lstL r1
      obtain ⟨e, _⟩ := ints_of_reps q1 hb
      subst e
      refine ⟨a, n :: ns, rfl, .inl (.inl e1), by simp, fun k hk hle => ?_⟩
      have a1 := hle _ (maxL_mem n ns)
      have a2 := maxL_ge n ns k hk
      have : k = maxL n ns := by omega
      subst this
      exact m.same (.int _)
    · cases hs
  · cases hs
theorem ok_minL (hK : X.K = G.K) : OkF G (rMin X.K) semMinL := by
  rw [hK]
  intro W H xs vs Ol v Q w r hs m
  unfold semMinL at hs
  split at hs
  · obtain ⟨x, O, rfl, r1⟩ := r.inv1
    split at hs
    · rename_i n ns hb
      cases hs
      obtain ⟨a, ys, O1, rfl, e1, q1⟩ := rep_lstL r1
      obtain ⟨e, _⟩ := ints_of_reps q1 hb
      subst e
      refine ⟨a, n :: ns, rfl, .inl (.inl e1), by simp, fun k hk hle => ?_⟩
      have a1 := hle _ (minL_mem n ns)
      have a2 := minL_le n ns k hk
      have : k = minL n ns := by omega
      subst this
      exact m.same (.int _)
    · cases hs
  · cases hs
theorem ok_sum (hK : X.K = G.K) : OkF G (rSum X.K) semSum := by
  rw [hK]
  intro W H xs vs Ol v Q w r hs m
  unfold semSum at hs
  split at hs
  · obtain ⟨x, O, rfl, r1⟩ := r.inv1
    split at hs
    · rename_i ns hb
      cases hs
      obtain ⟨a, ys, O1, rfl, e1, q1⟩ := rep_lstL r1
      obtain ⟨e, _⟩ := ints_of_reps q1 hb
      subst e
      exact ⟨a, ns, rfl, .inl (.inl e1), m.same (.int _)⟩
    · cases hs
  · cases hs
theorem ok_any (hK : X.K = G.K) : OkF G (rAny X.K) semAny := by
  rw [hK]
  intro W H xs vs Ol v Q w r hs m
  unfold semAny at hs
  split at hs
  · obtain ⟨x, O, rfl, r1⟩ := r.inv1
    split at hs
    · rename_i bs hb
      cases hs
      obtain ⟨a, ys, O1, rfl, e1, q1⟩ := rep_lstL r1
      have e := bools_of q1 hb
      subst e
      exact ⟨a, bs, rfl, .inl (.inl e1), m.same (.bl _)⟩
    · cases hs
  · cases hs
end
end VL
/-! VL, part XB: dicts by keys that are flat tuples; in by plain data; tuple * n; zip of a tuple and a list. -/
namespace L2
open PySem PySem.Spec PyProof.Rows
/-- what a comprehension stores: keys of either kind -/
theorem put_dc {X : Cx} {pins : List (Addr × Obj)} {σ : St} {H H' : Hp} {s : Shared} {E : Value → Shared → Prop} {D : Addr} {y z : V} {u r : Value} {Q : Unit → Shared → Prop} (hu : X.A.units < cLine) (Iv : Inv X pins σ H s) (gp : DPut H D y z H')
    (ry : RelV y u) (rz : RelV z r) (fin : ∀ s', Inv X pins σ H' s' → Q () s') : wpAny (model X.prog X.w) X.A (dictSet D u r) Q E s := by
  rcases gp with ⟨kvs, k, eD, rfl, hl, rfl⟩ | ⟨kvs, k, b, eD, rfl, eb, hl, rfl⟩
  · exact d_dictSet Iv eD hl ry rz fin
  · cases (show u = Value.ref b from ry)
    obtain ⟨fit, low, xs, q, dd⟩ := dt_of Iv.hok eD
    have fx : xs.length ≤ sizeLine := by rw [← Paired.length q]; exact fit
    refine wpAny_dictSet_heap (hsz := fx) hu (key_of Iv.hok eb) dd fun hp d2 same => fin _ ?_
    obtain ⟨o, es, ep, a1, a2, a3, a4, _, a5⟩ := d2
    have fit2 : (putK kvs k z).length ≤ sizeLine := by have := length_putK kvs k z; omega
    have kt := (q.put k eb rz).keeps (H' := upd H D (.dT (putK kvs k z))) fun c ys ec => by
      rw [upd_ne (ne_of ec eD (fun w => nomatch w))]; exact ec
    exact d_write Iv (by rw [eD]; trivial) same ⟨o, a1⟩ ⟨fit2, low, _, kt, o, es, ep, a1, a2, a3, a4, a5⟩
end L2
namespace L2
open PySem PySem.Spec PyProof.Rows
/-- {k: v for target in iter if ..}: u0 is the dict at its beginning, its keys ints and texts, or flat tuples -/
def tDcP (u0 : HO) (wi : TI) (g : TG) (tt : TT) (tk tv : TE) (ow : List Nat) : TE := fun σ H Q => wi σ H fun J H1 => ∀ D, H1 D = none → ∃ M : Nat → Nat → Hp → Prop, (∃ n, M 0 n (upd H1 D u0)) ∧ ∀ j n Hj, M j n Hj →
  (J.stop j Hj ∧ Q (.ref D) Hj) ∨ (J.go j Hj ∧ ∃ Nx : Hp → Prop, (∀ H', Nx H' → ∃ n', n' < n ∧ M (j + 1) n' H') ∧ ∀ x H', J.yld j Hj x H' → g x (wipe σ ow) H' fun σ' H2 => wipe σ' ow = wipe σ ow ∧ tt σ' H2 fun b H3 =>
    if b = true then tk σ' H3 fun y H4 => tv σ' H4 fun z H5 => ∃ H6, DPut H5 D y z H6 ∧ Nx H6 else Nx H3)
section
variable {X : Cx} {kx vx tg iter : Expr} {ifs : List Expr} {scope : Scope} {own : List (Str × Nat)} {pos : Pos} {wi : TI} {g : TG} {tt : TT} {tk tv : TE} {u0 : HO}
/-- the block's own context -/
abbrev bx (X : Cx) (scope : Scope) (s : Shared) (H : Hp) (C : Addr) (cl : List (Str × Addr)) (fp : List Addr) : Cx := X.blk s H scope (compEnvC scope cl C X.env) fp
theorem pe_dcP (fresh : ∀ (W : Hp) (hp : Heap), sysModules < hp.objs.size → ObjOk X.prog X.w W (hp.push { cls := .type "dict", data := .dict #[] }) hp.objs.size u0) (hu : X.A.units < cLine) (calm : X.calm = true) (nd : X.N.Nodup) (hi : PI X tg iter wi) (bo : BlkOk X.N X.env.scope scope own)
    (hg : ∀ s H C cl fp, PG (bx X scope s H C cl fp) tg g) (ht : ∀ s H C cl fp, PTs (bx X scope s H C cl fp) ifs tt) (hk : ∀ s H C cl fp, PE (bx X scope s H C cl fp) kx tk) (he : ∀ s H C cl fp, PE (bx X scope s H C cl fp) vx tv) (hs : ∀ x, foldedSetIterable iter X.env x = pure x := by intro _; rfl) :
    PE X (.DictComp kx vx [⟨tg, iter, ifs, 0⟩] scope pos) (tDcP u0 wi g tt tk tv (own.map (·.2))) := by
  refine ⟨fun pins s σ H Q Iv h => ?_⟩
  rw [arm_eval_DictComp]
  refine wpAny_comprehension_free (use := none) rfl hs (closure_ok fun y hy e => (bo.free y hy e).elim (fun k => Iv.ok.has _ (.inl k)) fun k => Iv.ok.has _ (.inr k)) bo.kind (fun y hy e => by rw [bo.uniq y hy, e]) (thn (hi.run pins s σ H _ Iv h) fun _ sA hA => thn hA fun _ sB hB => ?_)
  obtain ⟨it, fp, tn, J, HB, rfl, IB, T, tB, fB, walk⟩ := hB
  refine wpAny_newObj_type (newEnv_comp ?_)
  obtain ⟨D, hD⟩ : ∃ D, D = sB.heap.objs.size := ⟨_, rfl⟩
  obtain ⟨M, ⟨n0, m0⟩, turn⟩ := walk D (IB.hok.fresh (Nat.le_of_eq hD.symm))
  have low : ∀ b ∈ fp, b < D := fun b hb => let ⟨_, e, _⟩ := T.obj _ _ tB b hb; hD ▸ Heap.lt_size e
  have grow : ∀ (b : Addr) (o : Obj), sB.heap.get? b = some o → (sB.heap.push { cls := .type "dict", data := .dict #[] }).get? b = some o := fun b o e => Heap.get?_push_of_some _ e
  obtain ⟨sC, hC⟩ : ∃ sC : Shared, sC = { sB with heap := sB.heap.push { cls := .type "dict", data := .dict #[] } } := ⟨_, rfl⟩
  obtain ⟨HC, hHC⟩ : ∃ HC : Hp, HC = upd HB D u0 := ⟨_, rfl⟩
  have IC : Inv X pins σ HC sC := by
    subst hHC hC hD
    exact IB.laid (t' := sB.toks) grow (Nat.le_refl _) (fresh _ sB.heap IB.big)
  have fC : ∀ b ∈ fp, FpOk X pins HC b ∧ b < sC.heap.objs.size := fun b hb => by
    subst hHC hC
    refine ⟨⟨(upd_ne (Nat.ne_of_lt (low b hb))).trans (fB b hb).1, (fB b hb).2⟩, ?_⟩
    show b < (sB.heap.push _).objs.size
    rw [Heap.size_push]
    exact Nat.lt_succ_of_lt (hD ▸ low b hb)
  have tC : tn 0 sC.heap := T.keep _ _ _ tB fun b _ o e => by subst hC; exact grow b o e
  have IE := block_start IC bo nd fC
  obtain ⟨cl, hcl⟩ : ∃ cl, cl = cellsFrom (sC.heap.objs.size + 1) scope.names (cloFrom X.env.cells scope.names []) := ⟨_, rfl⟩
  obtain ⟨C, hCC⟩ : ∃ C, C = sC.heap.objs.size := ⟨_, rfl⟩
  have key : ∀ ce : Env, ce = compEnvC scope cl C X.env → ∀ sD : Shared, sD = { sC with heap := pushCells (sC.heap.push { cls := .type "dict", data := .dict #[] }) scope.names } → Inv (X.blk sC HC scope ce fp) [] (wipe σ (own.map (·.2))) HC sD →
      codeAny (model X.prog X.w) X.A (.compStart (.DictComp kx vx [⟨tg, iter, ifs, 0⟩] scope pos) 0 (.ref it) (.ref D) ce) (compPost (model X.prog X.w) X.A X.xe none (EP X pins σ Q) (.ref D) C) sD := by
    intro ce hce sD hsD ID
    have pg : PG (X.blk sC HC scope ce fp) tg g := by subst hce; exact hg sC HC C cl fp
    have pt : PTs (X.blk sC HC scope ce fp) ifs tt := by subst hce; exact ht sC HC C cl fp
    have pk : PE (X.blk sC HC scope ce fp) kx tk := by subst hce; exact hk sC HC C cl fp
    have pv : PE (X.blk sC HC scope ce fp) vx tv := by subst hce; exact he sC HC C cl fp
    have loc : ce.locals = C := by subst hce; rfl
    have tD : tn 0 sD.heap := T.keep _ _ _ tC fun b _ o e => by subst hsD; exact pushCells_keeps _ _ _ _ (Heap.get?_push_of_some _ e)
    have free : ∀ b ∈ fp, HC b = none := fun b hb => (fC b hb).1.1
    have apart : ∀ {σ' : L2.St} {H' : Hp} {s' : Shared}, Inv (X.blk sC HC scope ce fp) [] σ' H' s' → (∀ b ∈ fp, H' b = none) → ∀ b ∈ fp, FpOk (X.blk sC HC scope ce fp) [] H' b := fun I' nb b hb =>
      ⟨nb b hb, (I'.ok.exf b hb).1, I'.ok.exfs b hb, .inl hb, fun x c e => (I'.ok.exf b hb).2 x c e, fun p hp => absurd (show p ∈ ([] : List (Addr × Obj)) ++ [] from hp) (by simp)⟩
    suffices hh : codeAny (model X.prog X.w) X.A (.compLoop (.DictComp kx vx [⟨tg, iter, ifs, 0⟩] scope pos) 0 (.ref it) (.ref D) ce) (compPost (model X.prog X.w) X.A X.xe none (EP X pins σ Q) (.ref D) C) sD from codeAny_compStart_dict hh (T.self X.A 0 _ _ _ tD hh)
    refine compLoop_anyD (fun n s' => ∃ j H', Inv (X.blk sC HC scope ce fp) [] (wipe σ (own.map (·.2))) H' s' ∧ tn j s'.heap ∧ (∀ b ∈ fp, H' b = none) ∧ M j n H') (fun n s1 hI => ?_) n0 ⟨0, HC, ID, tD, free, hHC ▸ m0⟩
    obtain ⟨j, H1, I1, t1, nb1, m1⟩ := hI
    rcases turn j n H1 m1 with ⟨stop, q⟩ | ⟨go, Nx, less, step⟩
    · refine thnF (T.done (X.blk sC HC scope ce fp) rfl rfl rfl calm j [] s1 _ H1 (fun _ _ => False) I1 (apart I1 nb1) t1 stop) fun r s2 hr => ?_
      obtain ⟨rfl, I2⟩ := hr
      have back : Inv X pins σ H1 s2 := IC.call' (ch := fp) I2.os I2.base I2.hok I2.bare fun b hb => let ⟨_, f1, f2, f3, f4, f5⟩ := (fC b hb).1; ⟨f3, f1, f4, f5⟩
      obtain ⟨m, hm, _⟩ := I2.loc
      have nC : H1 C = none := loc ▸ (show H1 ce.locals = none from I2.free)
      have hm' : s2.heap.Ns C m := loc ▸ (show s2.heap.Ns ce.locals m from hm)
      obtain ⟨f0, f1, f2, f3, f4, f5⟩ := IC.fpOk (b := C) (by rw [hCC]; exact Nat.le_refl _) nC
      exact ⟨m, hm', fun h2 sb => ⟨.ref D, H1, back.turned (t' := s2.toks) (fun b o hb e => (sb.2 b hb).trans e) f0 f1 f3 f4 f5, rfl, q⟩⟩
    · refine thnF (T.item (X.blk sC HC scope ce fp) rfl rfl rfl calm j [] s1 _ H1 (fun _ _ => False) I1 (apart I1 nb1) t1 go) fun r s2 hr => ?_
      obtain ⟨u, rfl, hr⟩ := hr
      refine thnF hr fun _ s3 ⟨x, H3, I3, r3, y3, t3, nb3⟩ => ?_
      have I3' := I3.pinned (apart I3 nb3) (T.obj _ _ t3)
      refine thnF (pg.run _ s3 _ H3 x u _ I3' r3 (step x H3 y3)) fun _ s4 ⟨σ4, H4, I4, hw, q4⟩ => ?_
      have over : ∀ {s' : Shared} {H' : Hp}, Inv (X.blk sC HC scope ce fp) ([] ++ pinsAt fp s3.heap) σ4 H' s' → Nx H' → ∃ m, m < n ∧ ∃ j H', Inv (X.blk sC HC scope ce fp) [] (wipe σ (own.map (·.2))) H' s' ∧ tn j s'.heap ∧ (∀ b ∈ fp, H' b = none) ∧ M j m H' := fun {s' H'} I' nx => by
        have there : ∀ b ∈ fp, ∀ o, s3.heap.get? b = some o → s'.heap.get? b = some o ∧ H' b = none := fun b hb o e =>
          let ⟨z1, z2, _⟩ := I'.pin (b, o) (List.mem_append_right _ (List.mem_append_right _ (mem_pinsAt hb e)))
          ⟨z1, z2⟩
        obtain ⟨m, lt, w⟩ := less H' nx
        refine ⟨m, lt, j + 1, H', I'.unpinned (pins := []) |>.weak (by rw [← hw, wipe_length]) fun i v e => ?_, T.keep _ _ _ t3 fun b hb o e => (there b hb o e).1, fun b hb => ?_, w⟩
        · rw [← hw] at e; exact (wipe_some e).1
        · exact let ⟨o, e, _⟩ := T.obj _ _ t3 b hb; (there b hb o e).2
      refine thnF (pt.run _ s4 σ4 H4 _ I4 q4) fun b s5 ⟨H5, I5, q5⟩ => ?_
      cases b with
      | false => simp only [Bool.false_eq_true, if_false] at q5 ⊢; exact over I5 q5
      | true =>
        simp only [if_true] at q5 ⊢
        refine thnF (pk.run _ s5 σ4 H5 _ I5 q5) fun _ s6 ⟨ky, H6, I6, r6, q6⟩ => thnF (pv.run _ s6 σ4 H6 _ I6 q6) fun _ s7 ⟨vy, H7, I7, r7, H8, put, nx⟩ => ?_
        exact put_dc (X := X.blk sC HC scope ce fp) hu I7 put r6 r7 fun s8 I8 => over I8 nx
  have fin := key _ rfl _ rfl (by subst hcl hCC; exact IE)
  subst hcl hCC hC hD
  exact fin
end
end L2
namespace VL
open PySem L2
/-! ### dict comprehensions, keys flat tuples -/
def isTK (k : Val) : Bool := isKey .t k
def dctT (d : DL) : Val := .dct true .t (d.map (·.1)) (d.map (·.2))
def dcT (g : MG) (tt km vm : ME) (own : List Nat) : List Val → DL → VEnv → RE
  | [], acc, ρ => .ok (dctT acc) ρ
  | u :: us, acc, ρ => match g u ρ with
    | none => .bad
    | some ρ1 => match tt ρ1 with
      | .ok (.bl b) ρ2 => if b = true then (match km ρ2 with
        | .ok k ρ3 => (match vm ρ3 with
          | .ok v ρ4 => if isTK k = true ∧ v.fz = true ∧ acc.length < 1000000 then dcT g tt km vm own us (putD acc k v) (wipeV ρ4 own) else .bad
          | _ => .bad)
        | _ => .bad) else dcT g tt km vm own us acc (wipeV ρ2 own)
      | _ => .bad
def mDcT (mi : MI) (g : MG) (tt km vm : ME) (own : List Nat) : ME := fun ρ => match mi ρ with
  | .ok us ρ1 => dcT g tt km vm own us [] (wipeV ρ1 own)
  | .exc e ρ' => .exc e ρ'
  | .bad => .bad
def tkey (k : List Key) : Val := .tup (k.map ofKey)
theorem tkey_inj {k l : List Key} (h : tkey k = tkey l) : k = l := by
  unfold tkey at h
  exact ofKey_map_inj (by simpa using h)
structure TRel (G : Gam) (W : Addr → Prop) (H : Hp) (kvs : List (List Key × V)) (d : DL) : Prop where
  ks : d.map (·.1) = kvs.map fun q => tkey q.1
  vs : Reps G W H (kvs.map (·.2)) (d.map (·.2)) []
section
variable {G : Gam} {W : Addr → Prop} {H : Hp} {X : Cx} {E : WX} {p pk sk pv : Bool} {pos : Pos}
theorem isTK_k {v : Val} {x : V} {O : List Addr} (h : isTK v = true) (r : Rep G W H x v O) : ∃ (k : List Key) (b : Addr), v = tkey k ∧ x = .ref b ∧ H b = some (.tup (k.map kV)) := by
  unfold isTK at h
  cases r with
  | @tup b _ _ _ h' r =>
    obtain ⟨k, rfl, rfl⟩ := isKeys (by simpa [isKey] using h) r
    exact ⟨k, b, rfl, rfl, h'.1⟩
  | _ => simp [isKey] at h
theorem TRel.len {kvs : List (List Key × V)} {d : DL} (r : TRel G W H kvs d) : kvs.length = d.length := by
  have := congrArg List.length r.ks
  simpa using this.symm
theorem TRel.mono {W' : Addr → Prop} {H' : Hp} {kvs : List (List Key × V)} {d : DL} (r : TRel G W H kvs d) (k : Keep W H W' H') : TRel G W' H' kvs d := ⟨r.ks, r.vs.mono k fun _ z => nomatch z⟩
theorem TRel.put {kvs : List (List Key × V)} {d : DL} (r : TRel G W H kvs d) (k : List Key) {x : V} {v : Val} (rx : Rep G W H x v []) : TRel G W H (putK kvs k x) (putD d (tkey k) v) := by
  have same : ∀ (d : DL) (kvs : List (List Key × V)), d.map (·.1) = kvs.map (fun q => tkey q.1) → (d.any fun q => decide (q.1 = tkey k)) = kvs.any fun q => decide (q.1 = k) := by
    intro d
    induction d with
    | nil => intro kvs e; cases kvs with | nil => rfl | cons _ _ => cases e
    | cons q d ih =>
      intro kvs e
      cases kvs with
      | nil => cases e
      | cons q' kvs =>
        simp only [List.map_cons, List.cons.injEq] at e
        rw [List.any_cons, List.any_cons, ih kvs e.2, e.1]
        congr 1
        rw [decide_eq_decide]
        exact ⟨tkey_inj, fun z => by rw [z]⟩
  unfold putK putD
  rw [same d kvs r.ks]
  split
  · have go : ∀ (d : DL) (kvs : List (List Key × V)), d.map (·.1) = kvs.map (fun q => tkey q.1) → Reps G W H (kvs.map (·.2)) (d.map (·.2)) [] → TRel G W H (kvs.map fun kv => if kv.1 = k then (kv.1, x) else kv) (d.map fun q => if q.1 = tkey k then (q.1, v) else q) := by
      intro d
      induction d with
      | nil => intro kvs e _; cases kvs with
        | nil => exact ⟨rfl, .nil⟩
        | cons _ _ => cases e
      | cons q d ih => intro kvs e rv; cases kvs with
        | nil => cases e
        | cons q' kvs =>
          simp only [List.map_cons, List.cons.injEq] at e rv
          obtain ⟨y, ys, e1, r1, r2⟩ := rv.inv0
          simp only [List.cons.injEq] at e1
          obtain ⟨rfl, rfl⟩ := e1
          obtain ⟨i1, i2⟩ := ih kvs e.2 r2
          by_cases h : q'.1 = k
          · have h' : q.1 = tkey k := by rw [e.1, h]
            refine ⟨?_, ?_⟩
            · simp only [List.map_cons, if_pos h, if_pos h']
              exact congr (congrArg List.cons e.1) i1
            · simp only [List.map_cons, if_pos h, if_pos h']
              exact .cons (O := []) (O' := []) rx i2
          · have h' : ¬ q.1 = tkey k := fun z => h (tkey_inj (e.1.symm.trans z))
            refine ⟨?_, ?_⟩
            · simp only [List.map_cons, if_neg h, if_neg h']
              exact congr (congrArg List.cons e.1) i1
            · simp only [List.map_cons, if_neg h, if_neg h']
              exact .cons (O := []) (O' := []) r1 i2
    exact go d kvs r.ks r.vs
  · refine ⟨by simp [r.ks], ?_⟩
    simp only [List.map_append, List.map_cons, List.map_nil]
    exact r.vs.append (.cons (O := []) (O' := []) rx .nil)
theorem dcT_reading {tg iter : Expr} {ow : List Nat} {n : Nat} {wi : TI} {mi : MI} {g : MG} {tt km vm : ME} {σ : L2.St} {H : Hp} {Q : VK} (hwi : wi = tI G E mi) (hlen : σ.length = n) (h : rd G E false true (mDcT mi g tt km vm ow) σ H Q) :
    tDcP (.dT []) wi (fun x σ H Q => ∃ σ0, tG G (pinsBut n ow) σ0 g x σ H Q) (tT G WF p tt) (rd G WF pk sk km) (rd G WF pv true vm) ow σ H Q := by
  subst hwi
  obtain ⟨R, ρ, Os, rel, post⟩ := h
  refine ⟨R, ρ, Os, rel, ?_⟩
  unfold mDcT at post
  cases hm : mi ρ with
  | bad => rw [hm] at post; exact post
  | exc e ρ' => rw [hm] at post; exact post
  | ok us ρ1 =>
    rw [hm] at post
    dsimp only at post
    intro J H1 Os1 rel1 walk keep1 D hD
    obtain ⟨Osw, relw, wew⟩ := rel1.wipe ow
    let St := fun (i : Nat) (H' : Hp) => i ≤ us.length ∧ ∃ ρ2 Os2 acc kvs, Rel G (fun a => R a ∨ a = D) H' (L2.wipe σ ow) ρ2 Os2 ∧ H' D = some (.dT kvs) ∧ TRel G (WW (fun a => R a ∨ a = D) Os2) H' kvs acc ∧ KeepE H1 Os1 H' Os2 (fun a => a = D) ∧
      Post G R E σ H Os false true ρ Q (dcT g tt km vm ow (us.drop i) acc ρ2)
    refine ⟨fun i n H' => n = us.length - i ∧ St i H', ⟨us.length, by simp, Nat.zero_le _, wipeV ρ1 ow, Osw, [], [], relw.root0 hD, upd_same, ⟨rfl, .nil⟩, fun a o e nw => ⟨same_upd hD a o e, fun z => nw (wew a z), ne_of_none e hD⟩, by simpa using post⟩, ?_⟩
    rintro i n H' ⟨rfl, hile, ρ2, Os2, acc, kvs, rel2, hDx, kr, keep2, post2⟩
    have kw : Keep (WW R Os1) H1 (WW (fun a => R a ∨ a = D) Os2) H' := fun a o e nw => by
      obtain ⟨e1, n1, n2⟩ := keep2 a o e fun z => nw (.inr z)
      exact ⟨e1, fun z => z.elim (fun z => z.elim (fun z => nw (.inl z)) n2) n1⟩
    obtain ⟨hstop, hgo⟩ := walk _ _ kw i
    by_cases hlt : i < us.length
    rotate_left
    · refine .inl ⟨hstop (by omega), ?_⟩
      rw [List.drop_eq_nil_of_le (by omega)] at post2
      unfold dcT at post2
      have e0 : (fun a => R a ∨ a = D) = Rp R true [D] := setEq fun a => ⟨fun z => z.imp id fun z => ⟨rfl, List.mem_singleton.mpr z⟩, fun z => z.imp id fun z => List.mem_singleton.mp z.2⟩
      rw [e0] at rel2 kr
      refine post2 (.ref D) H' Os2 [D] rel2.unwipe (.dtO hDx kr.ks kr.vs) (fun _ => by simp) (fun a o e nw => ?_) fun z => by cases z
      obtain ⟨e1, n1, _⟩ := keep1 a o e nw
      obtain ⟨e2, n2, n3⟩ := keep2 a o e1 n1
      exact ⟨e2, n2, fun z => n3 (List.mem_singleton.mp z.2)⟩
    refine .inr ?_
    obtain ⟨go, yld⟩ := hgo us[i] (List.getElem?_eq_getElem hlt)
    refine ⟨go, St (i + 1), fun H3 h1 => ⟨us.length - (i + 1), by omega, rfl, h1⟩, fun x H'' y => ?_⟩
    obtain ⟨same, repw⟩ := yld x H'' y
    have rep := repw fun p hp => rel2.ww hp
    have rel3 : Rel G (fun a => R a ∨ a = D) H'' (L2.wipe σ ow) ρ2 Os2 := rel2.grow same (fun a z => .inl z) fun a z => let ⟨o, e⟩ := rel2.rt a z; ⟨o, same a o e⟩
    have keep3 : KeepE H1 Os1 H'' Os2 fun a => a = D := keep2.grow same fun a z => .inl z
    have hD3 := same D _ hDx
    have kr3 : TRel G (WW (fun a => R a ∨ a = D) Os2) H'' kvs acc := kr.mono fun a o e nw => ⟨same a o e, nw⟩
    rw [List.drop_eq_getElem_cons hlt] at post2
    unfold dcT at post2
    have e0 : (fun a => R a ∨ a = D) = fun a => (R a ∨ a = D) ∨ a ∈ ([] : List Addr) := setEq fun a => ⟨.inl, fun z => z.elim id fun z => nomatch z⟩
    refine ⟨L2.wipe σ ow, fun a => R a ∨ a = D, ρ2, Os2, us[i], [], e0 ▸ rel3, e0 ▸ rep, List.nodup_nil, fun a z => (nomatch z), fun _ _ => rfl, ?_⟩
    cases hgu : g us[i] ρ2 with
    | none => rw [hgu] at post2; exact post2
    | some ρ3 =>
    rw [hgu] at post2
    dsimp only at post2
    intro σ3 Os3 pin3 hl3 rel4 we4
    have hw : L2.wipe σ3 ow = L2.wipe σ ow := wipe_eq hlen (by rw [hl3, wipe_length]) pin3
    have keep4 : KeepE H1 Os1 H'' Os3 fun a => a = D := fun a o e nw => let ⟨e1, n1, n2⟩ := keep3 a o e nw; ⟨e1, fun z => (we4 a z).elim n1 (fun z => nomatch z), n2⟩
    have kr4 : TRel G (WW (fun a => R a ∨ a = D) Os3) H'' kvs acc := kr3.mono fun a o e nw => ⟨e, fun z => nw (z.imp id fun z => (we4 a z).elim id fun z => nomatch z)⟩
    refine ⟨hw, fun a => R a ∨ a = D, ρ3, Os3, rel4, ?_⟩
    have go1 : ∀ {Ha Hb : Hp} {Osa Osb : Nat → List Addr} {ρa ρb : VEnv} {P : Addr → Prop}, Rel G (fun a => R a ∨ a = D) Ha σ3 ρa Osa → Ha D = some (.dT kvs) → TRel G (WW (fun a => R a ∨ a = D) Osa) Ha kvs acc → KeepE H1 Os1 Ha Osa (fun a => a = D) → Rel G (fun a => R a ∨ a = D) Hb σ3 ρb Osb → KeepE Ha Osa Hb Osb P →
        Hb D = some (.dT kvs) ∧ TRel G (WW (fun a => R a ∨ a = D) Osb) Hb kvs acc ∧ KeepE H1 Os1 Hb Osb (fun a => a = D) := fun ra hd kr ka rb kb => by
      refine ⟨(kb D _ hd (ra.nr (.inr rfl))).1, kr.mono fun a o e nw => ?_, fun a o e nw => ?_⟩
      · obtain ⟨e1, n1, _⟩ := kb a o e fun z => nw (.inr z)
        exact ⟨e1, fun z => z.elim (fun z => nw (.inl z)) n1⟩
      · obtain ⟨e1, n1, n2⟩ := ka a o e nw
        obtain ⟨e2, n3, _⟩ := kb a o e1 n1
        exact ⟨e2, n3, n2⟩
    cases htt : tt ρ3 with
    | bad => rw [htt] at post2; exact post2.elim
    | exc e ρ4 => rw [htt] at post2; exact post2.elim
    | ok tv ρ4 =>
    rw [htt] at post2
    cases tv with
    | bl b =>
      intro H5 Os5 rel5 k5 _
      obtain ⟨hD5, kr5, keep5⟩ := go1 rel4 hD3 kr4 keep4 rel5 k5
      cases b with
      | false =>
        simp only [Bool.false_eq_true, if_false] at post2 ⊢
        obtain ⟨Os6, rel6, we6⟩ := rel5.wipe ow
        rw [hw] at rel6
        exact ⟨hlt, wipeV ρ4 ow, Os6, acc, kvs, rel6, hD5, kr5.mono fun a o e nw => ⟨e, fun z => nw (z.imp id (we6 a))⟩, fun a o e nw => let ⟨e1, n1, n2⟩ := keep5 a o e nw; ⟨e1, fun z => n1 (we6 a z), n2⟩, post2⟩
      | true =>
        simp only [if_true] at post2 ⊢
        refine ⟨fun a => R a ∨ a = D, ρ4, Os5, rel5, ?_⟩
        cases hkm : km ρ4 with
        | bad => rw [hkm] at post2; exact post2.elim
        | exc e ρ6 => rw [hkm] at post2; exact post2.elim
        | ok k ρ5 =>
        rw [hkm] at post2
        dsimp only at post2
        intro ky H6 Os6 Ok rel6 rep6 _ k6 _
        have rel6' : Rel G (fun a => R a ∨ a = D) H6 σ3 ρ5 Os6 := rel6.weak fun a z => .inl z
        obtain ⟨hD6, kr6, keep6⟩ := go1 rel5 hD5 kr5 keep5 rel6' k6
        refine ⟨fun a => R a ∨ a = D, ρ5, Os6, rel6', ?_⟩
        cases hvm : vm ρ5 with
        | bad => rw [hvm] at post2; exact post2.elim
        | exc e ρ6 => rw [hvm] at post2; exact post2.elim
        | ok v ρ6 =>
        rw [hvm] at post2
        dsimp only at post2
        intro vy H7 Os7 Ov rel7 rep7 _ k7 _
        by_cases hc : isTK k = true ∧ v.fz = true ∧ acc.length < 1000000
        rotate_left
        · rw [if_neg hc] at post2; exact post2.elim
        rw [if_pos hc] at post2
        have hOv := rep7.none_of_fz hc.2.1
        subst hOv
        have rel7' : Rel G (fun a => R a ∨ a = D) H7 σ3 ρ6 Os7 := rel7.weak fun a z => .inl z
        have rep7' : Rep G (WW (fun a => R a ∨ a = D) Os7) H7 vy v [] := rep7.mono (fun a o e nw => ⟨e, fun z => nw (z.imp (fun z => .inl z) id)⟩) fun _ z => nomatch z
        obtain ⟨hD7, kr7, keep7⟩ := go1 rel6' hD6 kr6 keep6 rel7' k7
        obtain ⟨kk, kb, ek, exk, hkb⟩ := isTK_k hc.1 rep6
        subst ek exk
        have fk : ¬ WW (Rp (fun a => R a ∨ a = D) sk Ok) Os6 kb := by
          cases rep6 with
          | tup hf _ => exact hf.2
        have hkb7 : H7 kb = some (.tup (kk.map kV)) := (k7 kb _ hkb fun z => fk (.inr z)).1
        refine ⟨upd H7 D (.dT (putK kvs kk vy)), DPut.t hD7 hkb7 (by rw [kr7.len, sizeLine_eq]; omega), hlt, ?_⟩
        have rel8 := Rel.chg (D := D) (o := .dT (putK kvs kk vy)) rel7' (.inr rfl)
        obtain ⟨Os9, rel9, we9⟩ := rel8.wipe ow
        rw [hw] at rel9
        refine ⟨wipeV ρ6 ow, Os9, putD acc (tkey kk) v, putK kvs kk vy, rel9, upd_same, (kr7.put kk rep7').mono fun a o e nw => ⟨by rw [upd_ne (show a ≠ D from fun z => nw (.inl (.inr z)))]; exact e, fun z => nw (z.imp id (we9 a))⟩, fun a o e nw => ?_, post2⟩
        obtain ⟨e1, n1, n2⟩ := keep7 a o e nw
        exact ⟨by rw [upd_ne n2]; exact e1, fun z => n1 (we9 a z), n2⟩
    | _ => exact post2.elim
theorem ve_dcT {kx vx tg iter : Expr} {ifs : List Expr} {scope : Scope} {own : List (Str × Nat)} {mi : MI} {g : MG} {tt km vm : ME} (hu : X.A.units < cLine) (hc : X.calm = true) (hN : X.N.Nodup) (hi : VI G X E tg iter mi) (ok : BlkOk X.N X.env.scope scope own)
    (hg : ∀ (s : Shared) (H : Hp) (C : Addr) (cl : List (Str × Addr)) (fp : List Addr) (σ0 : L2.St), VG G (X.blk s H scope (compEnvC scope cl C X.env) fp) (pinsBut X.N.length (own.map (·.2))) σ0 tg g)
    (ht : ∀ (s : Shared) (H : Hp) (C : Addr) (cl : List (Str × Addr)) (fp : List Addr), PTs (X.blk s H scope (compEnvC scope cl C X.env) fp) ifs (tT G WF p tt))
    (hk : ∀ (s : Shared) (H : Hp) (C : Addr) (cl : List (Str × Addr)) (fp : List Addr), VE G (X.blk s H scope (compEnvC scope cl C X.env) fp) WF pk sk kx km)
    (he : ∀ (s : Shared) (H : Hp) (C : Addr) (cl : List (Str × Addr)) (fp : List Addr), VE G (X.blk s H scope (compEnvC scope cl C X.env) fp) WF pv true vx vm) (hs : ∀ x, foldedSetIterable iter X.env x = pure x := by intro _; rfl) :
    VE G X E false true (.DictComp kx vx [⟨tg, iter, ifs, 0⟩] scope pos) (mDcT mi g tt km vm (own.map (·.2))) := by
  have hg2 : ∀ (s : Shared) (H : Hp) (C : Addr) (cl : List (Str × Addr)) (fp : List Addr), PG (X.blk s H scope (compEnvC scope cl C X.env) fp) tg (fun x σ H Q => ∃ σ0, tG G (pinsBut X.N.length (own.map (·.2))) σ0 g x σ H Q) := fun s H C cl fp =>
    ⟨fun pins st σ H' v u Q I r ⟨σ0, q⟩ => (hg s H C cl fp σ0).run pins st σ H' v u Q I r q⟩
  have fresh : ∀ (W : Hp) (hp : Heap), sysModules < hp.objs.size → ObjOk X.prog X.w W (hp.push { cls := .type "dict", data := .dict #[] }) hp.objs.size (.dT []) := fun W hp hb => dt_empty hp hb
  exact ⟨fun pins s1 σ H Q I h => (pe_dcP fresh hu hc hN hi ok hg2 ht hk he hs).run pins s1 σ H Q I (dcT_reading (tg := tg) (iter := iter) rfl I.len h)⟩
end
/-! ### len, list of such a dict -/
def semLenT : List Val → Option Val
  | [.dct _ .t ks _] => some (.int ks.length)
  | _ => none
def semListT : List Val → Option Val
  | [.dct _ .t ks _] => some (.lst true ks)
  | _ => none
section
variable {G : Gam} {X : Cx}
theorem rep_dt {W : Addr → Prop} {H : Hp} {x : V} {o : Bool} {ks vs : List Val} {O : List Addr} (r : Rep G W H x (.dct o .t ks vs) O) : ∃ a kvs, x = .ref a ∧ H a = some (.dT kvs) ∧ ks = kvs.map fun q => tkey q.1 := by
  cases r with
  | dtO h hk _ => exact ⟨_, _, rfl, h, hk⟩
  | dtF h hk _ => exact ⟨_, _, rfl, h.1, hk⟩
theorem ok_lenT : OkF G rLenT semLenT := by
  intro W H xs vs Ol v Q w r hs m
  unfold semLenT at hs
  split at hs
  · obtain ⟨x, O, rfl, r1⟩ := r.inv1
    cases hs
    obtain ⟨a, kvs, rfl, e1, rfl⟩ := rep_dt r1
    exact ⟨a, kvs, rfl, e1, by simpa using m.same (.int _)⟩
  · cases hs
end
/-! ### in, over plain data -/
def semInP (neg : Bool) : List Val → Option Val
  | [x, .lst o l] => match toD x, toDs l with
    | some d, some ds => if SeqAt.shaped d = true ∧ SeqAt.shaped (.list ds) = true then some (.bl (xor neg (ds.any fun z => PyData.eqv z d))) else none
    | _, _ => none
  | _ => none
section
variable {G : Gam} {X : Cx}
def rInP (K : PySem.W.Frag) (neg : Bool) : R2 := fun x y H Q => ∃ d ds, Dp K H x d ∧ Dp K H y (.list ds) ∧ SeqAt.shaped d = true ∧ SeqAt.shaped (.list ds) = true ∧ Q (.bl (xor neg (ds.any fun z => PyData.eqv z d))) H
theorem op_inP (hu : X.A.units + 65 < cLine) : OpR X (compareOp .In) (rInP X.K false) := fun pins s σ H x y v u Q I rx ry ⟨d, ds, h1, h2, h3, h4, q⟩ => op_inD hu pins s σ H x y v u Q I rx ry ⟨d, ds, h1, h2, h3, h4, by simpa using q⟩
theorem op_notInP (hu : X.A.units + 65 < cLine) : OpR X (compareOp .NotIn) (rInP X.K true) := fun pins s σ H x y v u Q I rx ry ⟨d, ds, h1, h2, h3, h4, q⟩ => op_notInD hu pins s σ H x y v u Q I rx ry ⟨d, ds, h1, h2, h3, h4, by simpa using q⟩
theorem ok_inP (hK : X.K = G.K) {neg : Bool} : OkF G (r2 (rInP X.K neg)) (semInP neg) := by
  rw [hK]
  intro W H xs vs Ol v Q w r hs m
  unfold semInP at hs
  split at hs
  · obtain ⟨x, y, O, O', rfl, r1, r2⟩ := r.inv2
    split at hs
    · rename_i d ds h1 h2
      split at hs
      · rename_i hc
        cases hs
        exact ⟨d, ds, r1.dp h1, r2.dp (by simp only [toD, h2]), hc.1, hc.2, m.same (.bl _)⟩
      · cases hs
    · cases hs
  · cases hs
end
end VL
/-! VL, part XC: zip of a tuple and a list. -/
namespace L2
open PySem PySem.Spec PyProof.Rows
/-- the tuple at a and the list at b as they stand at each turn -/
def ItzM (K : PySem.W.Frag) (a b : Addr) : It where
  go i H := ∃ (xs ys : List V) (x y : V), SqT K H a xs ∧ SqL K H b ys ∧ xs[i]? = some x ∧ ys[i]? = some y
  yld i H v H' := ∃ T x y, v = .ref T ∧ H T = none ∧ H' = upd H T (.tup [x, y]) ∧ (∀ xs, SqT K H a xs → xs[i]? = some x) ∧ ∀ ys, SqL K H b ys → ys[i]? = some y
  stop i H := ∃ xs ys : List V, SqT K H a xs ∧ SqL K H b ys ∧ xs.length = ys.length ∧ xs.length ≤ i
section
variable {z TI TO i1 i2 a b : Addr}
/-- iterators that are at their end -/
theorem endT {P : Program} {w : World} {A : Around} (hh : A.handled = none) {it t : Addr} (ne : t ≠ it) {us : Array Value} {i : Nat} (no : us[i]? = none) : Draws P w A it [it, t] i (fun _ _ => False) fun k h => k = i ∧ h.IsTupleIter it t i ∧ h.IsTuple t us where
  live := fun _ _ st => let ⟨_, ⟨o, ho, _⟩, _⟩ := st; ⟨o, ho⟩
  frame := fun _ _ _ st hk => ⟨st.1, st.2.1.at fun o e => hk it (by simp) o e, st.2.2.at fun o e => hk t (by simp) o e⟩
  item := fun k s Q E lt st _ => absurd st.1 (Nat.ne_of_lt lt)
  done := fun s Q E st hE => wpAny_nextOf_tuple_end hh st.2.1 st.2.2 no hE
theorem endL {P : Program} {w : World} {A : Around} (hh : A.handled = none) {it t : Addr} (ne : t ≠ it) {us : Array Value} {i : Nat} (no : us[i]? = none) : Draws P w A it [it, t] i (fun _ _ => False) fun k h => k = i ∧ h.IsListIter it t i ∧ h.IsList t us where
  live := fun _ _ st => let ⟨_, ⟨o, ho, _⟩, _⟩ := st; ⟨o, ho⟩
  frame := fun _ _ _ st hk => ⟨st.1, st.2.1.at fun o e => hk it (by simp) o e, st.2.2.at fun o e => hk t (by simp) o e⟩
  item := fun k s Q E lt st _ => absurd st.1 (Nat.ne_of_lt lt)
  done := fun s Q E st hE => wpAny_nextOf_list_end hh st.2.1 st.2.2 no hE
theorem sepM (D : ZipApart z TI TO i1 i2 a b) : ZipSep2 z TI TO i1 i2 [i1, a] [i2, b] := by
  obtain ⟨h1, h2, h3, h4, h5, h6, h7, h8, h9, h10, h11, h12, h13, h14, h15, h16, h17, h18⟩ := D
  constructor <;> simp_all [eq_comm]
theorem turn_zipM {P : Program} {w : World} {K : PySem.W.Frag} {elts : List Expr} {kk : Nat} {tpos : Pos} (D : ZipApart z TI TO i1 i2 a b) :
    Turn P w K (.Tuple elts kk tpos) (ItzM K a b) [z, TI, TO, i1, i2] z (fun i h => IsZip h z TI TO .none ∧ IsPair h TI (.ref i1) (.ref i2) ∧ (∃ x y, IsPair h TO x y) ∧ h.IsTupleIter i1 a i ∧ h.IsListIter i2 b i) where
  mem := List.mem_cons_self
  obj := fun i h ⟨hz, hTI, ⟨x, y, hTO⟩, ⟨o1, e1, _, d1⟩, ⟨o2, e2, _, d2⟩⟩ c hc => by
    have q : c = z ∨ c = TI ∨ c = TO ∨ c = i1 ∨ c = i2 := by simpa using hc
    rcases q with rfl | rfl | rfl | rfl | rfl
    · exact ⟨_, hz, fun v e => nomatch e⟩
    · exact ⟨_, hTI, fun v e => nomatch e⟩
    · exact ⟨_, hTO, fun v e => nomatch e⟩
    · exact ⟨o1, e1, fun v e => by rw [d1] at e; cases e⟩
    · exact ⟨o2, e2, fun v e => by rw [d2] at e; cases e⟩
  keep := fun i h h' ⟨hz, hTI, ⟨x, y, hTO⟩, s1, s2⟩ k =>
    ⟨k z (by simp) _ hz, k TI (by simp) _ hTI, ⟨x, y, k TO (by simp) _ hTO⟩, s1.at fun o e => k i1 (by simp) o e, s2.at fun o e => k i2 (by simp) o e⟩
  item := by
    intro X hP hw hK hc i pins s σ H E I hf ⟨hz, hTI, ⟨x0, y0, hTO⟩, s1, s2⟩ ⟨xs, ys, x, y, qx, qy, hx, hy⟩
    subst hP hw hK
    obtain ⟨us, rv, px, _⟩ := I.tuple qx
    obtain ⟨ws, rw2, py, _⟩ := I.list qy
    obtain ⟨u, hu, ru⟩ := rv.get hx
    obtain ⟨u2, hu2, ru2⟩ := rw2.get hy
    have hh : X.A.in1.handled = none := I.ok.hd hc
    have zl : z < s.heap.objs.size := Heap.lt_size hz
    have l1 : i < us.toArray.size := by rw [List.size_toArray]; exact (List.getElem?_eq_some_iff.mp hu).1
    have l2 : i < ws.toArray.size := by rw [List.size_toArray]; exact (List.getElem?_eq_some_iff.mp hu2).1
    refine wpAny_pyNext_zipD2_item (sepM D) (Draws.tuple hh i1 a D.l1i1 us.toArray) (Draws.list hh i2 b D.l2i2 ws.toArray) hz hTI hTO ⟨s1, px⟩ ⟨s2, py.isList⟩ l1 l2 fun v1 v2 h' tk e1 e2 hz' hTO' t1 t2 hT _ hk => ?_
    obtain rfl : u = v1 := Option.some.inj (hu.symm.trans (by simpa using e1))
    obtain rfl : u2 = v2 := Option.some.inj (hu2.symm.trans (by simpa using e2))
    refine ⟨_, rfl, wpAny_letOwnedTupleGo_zip (s := { s with heap := h', toks := tk }) hz' fun h2 hz2 sb => ?_⟩
    have hT2 : h2.get? s.heap.objs.size = some { cls := .type "tuple", data := .seq #[u, u2] } := (sb.2 _ (Nat.ne_of_gt zl)).trans hT
    have at2 : ∀ c o, c ≠ z → h'.get? c = some o → h2.get? c = some o := fun c o n e => (sb.2 c n).trans e
    have I1 := I.turnedNew (t' := tk) (ch := [z, TI, TO, i1, i2]) (T := s.heap.objs.size) (ob := .tup [x, y]) (h' := h2) (fun c o nc e => by
      simp only [List.mem_cons, List.not_mem_nil, or_false, not_or] at nc
      exact at2 c o nc.1 (hk c o nc.1 nc.2.2.1 nc.2.2.2.1 nc.2.2.2.2 e)) hf (Nat.le_refl _) ⟨by show 2 ≤ sizeLine; decide, [u, u2], .cons ru (.cons ru2 .nil), ⟨_, hT2, rfl, _, rfl⟩⟩
    refine ⟨.ref s.heap.objs.size, _, I1, rfl, ⟨_, x, y, rfl, I.hok.fresh (Nat.le_refl _), rfl, fun l hl => by rw [I.tuple_inj hl qx]; exact hx, fun l hl => by rw [I.list_inj hl qy]; exact hy⟩, ⟨hz2, ?_, ⟨u, u2, at2 _ _ D.TOz hTO'⟩, t1.1.at fun o e => at2 _ o D.i1z e, t2.1.at fun o e => at2 _ o D.i2z e⟩, fun c hcm => ?_⟩
    · exact at2 _ _ D.TIz (hk _ _ D.TIz D.TITO D.TIi1 D.TIi2 hTI)
    · have lt : c < s.heap.objs.size := by
        have q : c = z ∨ c = TI ∨ c = TO ∨ c = i1 ∨ c = i2 := by simpa using hcm
        rcases q with rfl | rfl | rfl | rfl | rfl
        · exact zl
        · exact Heap.lt_size hTI
        · exact Heap.lt_size hTO
        · exact let ⟨_, e, _⟩ := s1; Heap.lt_size e
        · exact let ⟨_, e, _⟩ := s2; Heap.lt_size e
      exact (upd_ne (Nat.ne_of_lt lt)).trans (hf c hcm).1
  done := by
    intro X hP hw hK hc i pins s σ H E I hf ⟨hz, hTI, ⟨x0, y0, hTO⟩, s1, s2⟩ ⟨xs, ys, qx, qy, el, le⟩
    subst hP hw hK
    obtain ⟨us, rv, px, _⟩ := I.tuple qx
    obtain ⟨ws, rw2, py, _⟩ := I.list qy
    have hh : X.A.in1.handled = none := I.ok.hd hc
    have l1 := rv.length
    have l2 := rw2.length
    have n1 : us.toArray[i]? = none := by simp; omega
    have n2 : ws.toArray[i]? = none := by simp; omega
    refine wpAny_pyNext_zipD2_end (sepM D) (endT hh D.l1i1 n1) (endL hh D.l2i2 n2) hz hTI hTO ⟨rfl, s1, px⟩ ⟨rfl, s2, py.isList⟩ (Nat.le_refl _) (Nat.le_refl _) (.inl rfl) fun h' tk hk => ⟨rfl, I.turnedL (t' := tk) (ch := [z, TI, TO, i1, i2]) (fun c o nc e => ?_) hf⟩
    simp only [List.mem_cons, List.not_mem_nil, or_false, not_or] at nc
    exact hk c o nc.1 nc.2.2.1 nc.2.2.2.1 nc.2.2.2.2 e
  self := fun A i s Q E st h => wpAny_pyIter_zip st.1 h
end
def iZipM (K : PySem.W.Frag) (ta : TA) : TI := fun σ H R => ta σ H fun vs H1 => ∃ a b xs ys, vs = [.ref a, .ref b] ∧ SqT K H1 a xs ∧ SqL K H1 b ys ∧ R (ItzM K a b) H1
theorem pi_zipM {X : Cx} {e e2 : Expr} {ta : TA} {p pos tpos : Pos} {elts : List Expr} {kk : Nat} (hg : Gl X "zip") (hm : X.mg "zip" = none) (ha : PA X [e, e2] ta)
    (hs : starEach [e, e2] X.env = (false, eval e X.env) :: starEach [e2] X.env := by rfl) (hpl : (backTo pos (starEach [e2] X.env)).any (·.1) = false := by rfl) :
    PI X (.Tuple elts kk tpos) (.Call (.Name "zip" p) [e, e2] [] pos) (iZipM X.K ta) := by
  refine ⟨fun pins s σ H R I h => Call_ (ld_blt I hg hm PyProof.Rows.boot_zip (PyProof.Rows.callWith_type1 (thn (ha.run pos pins s σ H _ I h) fun us s1 h1 => ?_) hs hpl))⟩
  obtain ⟨_, H1, I1, r1, a, b, xs, ys, rfl, qx, qy, q⟩ := h1
  obtain ⟨u, v, rfl, ra, rb⟩ : ∃ u v, us = [u, v] ∧ RelV (.ref a) u ∧ RelV (.ref b) v := by
    cases r1 with
    | cons r rr => cases rr with
      | cons r' rr => cases rr; exact ⟨_, _, rfl, r, r'⟩
  cases ra
  cases rb
  obtain ⟨us, rv, px, _⟩ := I1.tuple qx
  obtain ⟨ws, rw2, py, _⟩ := I1.list qy
  refine zip_begins2 (begins_tuple a us.toArray) (begins_list b ws.toArray) px py.isList fun h' hz hTI hTO h1 h2 _ hk => wpAny_pyIter_zip hz ?_
  refine ⟨s1.heap.objs.size + 4, [s1.heap.objs.size + 4, s1.heap.objs.size + 2, s1.heap.objs.size + 3, s1.heap.objs.size, s1.heap.objs.size + 1], _, _, H1, rfl, I1.kept (t' := s1.toks) hk, turn_zipM (PySem.W.ktu_apart s1.heap.objs.size a b (let ⟨_, e, _⟩ := (show s1.heap.IsTuple a us.toArray from px); Heap.lt_size e) py.lt), ⟨hz, hTI, ⟨_, _, hTO⟩, ⟨_, h1, rfl, rfl⟩, ⟨_, h2, rfl, rfl⟩⟩, fun c hc => ?_, q⟩
  have le : s1.heap.objs.size ≤ c := by
    simp only [List.mem_cons, List.not_mem_nil, or_false] at hc
    rcases hc with e | e | e | e | e <;> rw [e] <;> first | exact Nat.le_refl _ | exact Nat.le_add_right _ _
  exact I1.fpOk le (I1.hok.fresh le)
end L2
namespace VL
open PySem L2
def mZipM (m1 m2 : ME) : MI := fun ρ => match evalM [m1, m2] ρ with
  | .ok [.tup xs, .lst false ys] ρ' => if fzs xs = true ∧ xs.length = ys.length then .ok (zipV xs ys) ρ' else .bad
  | .ok _ _ => .bad
  | .exc e ρ' => .exc e ρ'
  | .bad => .bad
section
variable {G : Gam} {X : Cx} {E : WX} {e e2 : Expr} {p s p2 s2 : Bool} {m m2 : ME} {pos : Pos}
theorem walk_zipM {W : Addr → Prop} {H : Hp} {a b : Addr} {xs ys : List V} {us ws : List Val} (hl : us.length = ws.length) (h1 : Fz W H a (.tup xs)) (h2 : Fz W H b (.lst ys)) (r1 : Reps G W H xs us []) (r2 : Reps G W H ys ws []) : Walk G W H (ItzM G.K a b) (zipV us ws) := by
  intro W' H' kp i
  have q1 : SqT G.K H' a xs := .inl (.inl (kp _ _ h1.1 h1.2).1)
  have q2 : SqL G.K H' b ys := .inl (.inl (kp _ _ h2.1 h2.2).1)
  have n1 := r1.length
  have n2 := r2.length
  refine ⟨fun h => ⟨xs, ys, q1, q2, by omega, by rw [zipV_len] at h; omega⟩, fun u hu => ?_⟩
  obtain ⟨x, y, e1, e2, rfl⟩ := zipV_get hu
  obtain ⟨x', f1, g1⟩ := r1.one e1
  obtain ⟨y', f2, g2⟩ := r2.one e2
  refine ⟨⟨xs, ys, x', y', q1, q2, f1, f2⟩, fun z H'' ⟨T, x2, y2, e3, hT, e4, e5, e6⟩ => ?_⟩
  subst e3 e4
  obtain rfl : x' = x2 := Option.some.inj (f1.symm.trans (e5 xs q1))
  obtain rfl : y' = y2 := Option.some.inj (f2.symm.trans (e6 ys q2))
  refine ⟨same_upd hT, fun ww => .tup (O := [] ++ ([] ++ [])) ⟨upd_same, fresh_nw ww T hT⟩ (.cons ((g1.mono kp fun _ z => nomatch z).upd hT fun z hz => .inl hz) (.cons ((g2.mono kp fun _ z => nomatch z).upd hT fun z hz => .inl hz) .nil))⟩
theorem vi_zipM {elts : List Expr} {kk : Nat} {tpos zp : Pos} (hK : X.K = G.K) (hg : Gl X "zip") (hm : X.mg "zip" = none) (h1 : VE G X E p s e m) (h2 : VE G X E p2 s2 e2 m2) (wf : (s || p2) = true := by rfl) (hs : starEach [e, e2] X.env = (false, eval e X.env) :: starEach [e2] X.env := by rfl) (hs2 : starEach [e2] X.env = (false, eval e2 X.env) :: starEach [] X.env := by rfl) (hpl : (backTo pos (starEach [e2] X.env)).any (·.1) = false := by rfl) :
    VI G X E (.Tuple elts kk tpos) (.Call (.Name "zip" zp) [e, e2] [] pos) (mZipM m m2) := by
  refine PI.pre (pi_zipM hg hm (pa_cons h1 (pa_cons h2 pa_nil hs2) hs) hs hpl) fun σ H K ⟨R, ρ, Os, rel, post⟩ => ?_
  refine nest_of (G := G) (E := E) (σ := σ) (os := [⟨p, s, m⟩, ⟨p2, s2, m2⟩]) (wf2 wf) rel (K := fun vs H1 => ∃ a b xs ys, vs = [.ref a, .ref b] ∧ SqT X.K H1 a xs ∧ SqL X.K H1 b ys ∧ K (ItzM X.K a b) H1) ?_
  rw [evalA_eq]
  unfold mZipM at post
  simp only [List.map_cons, List.map_nil]
  cases he : evalM [m, m2] ρ with
  | bad => rw [he] at post; exact post
  | exc e ρ' => rw [he] at post; exact post
  | ok vs ρ' =>
    rw [he] at post
    intro xs H' Os' Ol rel' reps nd keep pure
    match vs, reps, post with
    | [.tup us, .lst false ws], reps, post =>
      dsimp only at post
      by_cases hc : fzs us = true ∧ us.length = ws.length
      rotate_left
      · rw [if_neg hc] at post; exact post.elim
      rw [if_pos hc] at post
      obtain ⟨x, y, O, O', rfl, r1, r2⟩ := reps.inv2
      cases r1 with
      | @tup a xs _ _ f1 g1 =>
      cases r2 with
      | @lstF b ys _ f2 g2 =>
      obtain rfl := g1.none_of_fz hc.1
      rw [hK]
      have up : ∀ c, WW R Os' c → WW (fun a => R a ∨ a ∈ stab [⟨p, s, m⟩, ⟨p2, s2, m2⟩] Ol) Os' c := fun c z => z.imp .inl id
      exact ⟨a, b, xs, ys, rfl, .inl (.inl f1.1), .inl (.inl f2.1), post _ H' Os' (rel'.weak fun a z => .inl z) (walk_zipM hc.2 ⟨f1.1, fun z => f1.2 (up _ z)⟩ ⟨f2.1, fun z => f2.2 (up _ z)⟩ (g1.weakW up) (g2.weakW up)) (keep.imp fun _ z => z.elim)⟩
end
end VL
/-! VL, part XD: tuple * n for every n from 1. -/
namespace L2
open PySem PySem.Spec PyProof.Rows
/-- a tuple times one is the tuple -/
theorem mulOne (l : Addr) (its : Array Value) (n : Nat) (dd : Option Addr) (sl : Array (Option Value)) (u : Tok) :
    Meets (Builtin.«tuple.__mul__» ⟨[.ref l, .int 1 u], []⟩) (fun _ R s => s.heap.get? l = some { cls := .type "tuple", dict := dd, data := .seq its n, slots := sl } ∧ R (.ok (.ret (Value.ref l))) s) :=
  .of_wp fun prog w A R s h => by
    obtain ⟨hp, g, d, tk, os⟩ := s
    obtain ⟨hl, h⟩ := h
    have f1 := AutoSeq1.idx_int
    wp_walk using wpAny_loadPart' hl
    exact ⟨_, rfl, h⟩
def rOneT (K : PySem.W.Frag) : R2 := fun x y H Q => ∃ l xs, x = .ref l ∧ y = .int 1 ∧ SqT K H l xs ∧ Q (.ref l) H
theorem op_oneT {X : Cx} : OpR X (binaryOp .Mult) (rOneT X.K) := by
  intro pins s σ H x y v u Q I rx ry h
  obtain ⟨l, xs, rfl, rfl, hT, q⟩ := h
  cases rx
  obtain ⟨t, rfl⟩ := ry
  obtain ⟨its, r, ⟨⟨cls, dd, data, sl⟩, ho, hc, n, hd⟩, hs⟩ := I.tuple hT
  simp only at hc hd
  subst hc hd
  exact wpAny_binaryOp_repeat_ref (T := "tuple") (U := "int") (by decide) ⟨_, ho, rfl⟩ (fun s' => typeIs_int s' 1 t) noFill_tuple_mul F.fills_int_mul F.slot_int_rmul repeat_tuple F.slot_int_index.lookup
    (call_meets F.slot_int_rmul (typeIs_int s 1 t) F.entry_int_rmul (F.args_int_rmul_2 _ _) (int_rmul_tuple 1 t l its.toArray n dd sl)
      ⟨ho, rfl, ⟨_, ho, rfl⟩, call_meets F.slot_tuple_mul ⟨_, ho, rfl⟩ F.entry_tuple_mul (F.args_tuple_mul_2 _ _) (mulOne l its.toArray n dd sl t) ⟨ho, ⟨.ref l, H, I, rfl, q⟩⟩⟩)
theorem op_mulT1 {X : Cx} : OpR X (binaryOp .Mult) (fun x y H Q => rRepT X.K x y H Q ∨ rOneT X.K x y H Q) := fun pins s σ H x y v u Q I rx ry h => h.elim (op_repT pins s σ H x y v u Q I rx ry) (op_oneT pins s σ H x y v u Q I rx ry)
end L2
namespace VL
open PySem L2
/-- a tuple, n times, n from 1 on -/
def semMulT : List Val → Option Val
  | [.tup a, .int k] => if a ≠ [] ∧ 1 ≤ k ∧ k ≤ 1000 ∧ a.length ≤ 1000 ∧ fzs a = true then some (.tup (List.replicate k.toNat a).flatten) else none
  | _ => none
theorem ok_mulT {G : Gam} : OkF G (r2 fun x y H Q => rRepT G.K x y H Q ∨ rOneT G.K x y H Q) semMulT := by
  intro W H xs vs Ol v Q w r hs m
  unfold semMulT at hs
  split at hs
  · obtain ⟨x, y, O, O', rfl, r1, r2⟩ := r.inv2
    cases r2
    split at hs
    · rename_i k h
      cases hs
      obtain ⟨a, xs, rfl, e1, q1⟩ := rep_tupT r1
      by_cases hk : k = 1
      · subst hk
        refine .inr ⟨a, xs, rfl, rfl, e1, ?_⟩
        have e : (List.replicate (1 : Int).toNat ‹List Val›).flatten = ‹List Val› := by simp
        rw [e] at m
        exact m.same (r1.fz' (by simpa [Val.fz] using h.2.2.2.2))
      · refine .inl ⟨a, k, xs, rfl, rfl, e1, fun z => ?_, by omega, h.2.2.1, by rw [q1.length]; exact h.2.2.2.1, m.tup (Reps.rep (q1.fz h.2.2.2.2) _) (fresh_nw w)⟩
        subst z
        cases q1
        exact h.1 rfl
    · cases hs
  · cases hs
end VL
namespace VL
open PySem L2
theorem hu65 {k : Nat} {A : Around} (r : RoomG k A) : A.units + 65 < cLine := by have := r.un; omega
theorem hu0 {k : Nat} {A : Around} (r : RoomG k A) : A.units < cLine := by have := r.un; omega
end VL
/-! VL, part XE: isinstance by several built-in types. -/
namespace VL
open PySem L2
def isiAny (t : String) : List Val → Option Bool
  | [] => some false
  | .ty u :: r => match isiB t u, isiAny t r with
    | some b, some c => some (b || c)
    | _, _ => none
  | _ => none
def semIsiT : List Val → Option Val
  | [v, .tup cs] => match tyName v with
    | some t => (isiAny t cs).map Val.bl
    | none => none
  | _ => none
theorem isiAny_ok {G : Gam} {W : Addr → Prop} {H : Hp} {t : String} : ∀ {cs : List Val} {xs : List V} {O : List Addr} {b : Bool}, Reps G W H xs cs O → isiAny t cs = some b → ∃ us : List Value, Paired ClsV xs us ∧ PySem.W.kitAny G.K (.type t) us = some b
  | [], _, _, _, r, h => by cases r; cases h; exact ⟨[], .nil, rfl⟩
  | c :: cs, _, _, b, r, h => by
    cases r with
    | cons r rr =>
      cases c with
      | ty u =>
        cases r
        unfold isiAny at h
        split at h
        · rename_i b1 b2 e1 e2
          cases h
          obtain ⟨us, p, q⟩ := isiAny_ok rr e2
          refine ⟨.type u :: us, .cons (.ty u) p, ?_⟩
          unfold PySem.W.kitAny
          rw [isiB_ok e1]
          cases b1 with
          | true => rfl
          | false => simpa using q
        · cases h
      | _ => cases h
theorem ok_isiT {G : Gam} : OkF G (rIsiT G.K) semIsiT := by
  intro W H xs vs Ol v Q w r hs m
  unfold semIsiT at hs
  split at hs
  · obtain ⟨x, y, O, O', rfl, r1, r2⟩ := r.inv2
    split at hs
    · rename_i t ht
      cases hb : isiAny t ‹List Val› with
      | none => rw [hb] at hs; cases hs
      | some b =>
        rw [hb] at hs
        cases hs
        cases r2 with
        | tup h' rr =>
          obtain ⟨us, p, q⟩ := isiAny_ok rr hb
          exact ⟨_, _, _, _, us, b, rfl, h'.1, p, rep_tyX r1 ht, q, m.same (.bl _)⟩
    · cases hs
  · cases hs
end VL
/-! VL, part XF: a list, of whatever, beside the empty list. -/
namespace L2
open PySem PySem.Spec PyProof.Rows PySem.SeqAt
def rEmp (K : PySem.W.Frag) (neg : Bool) : R2 := fun x y H Q => ∃ a b xs, x = .ref a ∧ y = .ref b ∧ SqL K H a xs ∧ SqL K H b [] ∧ Q (.bl (xor neg xs.isEmpty)) H
theorem op_emp {X : Cx} (hu : X.A.units < cLine) : OpR X (compareOp .Eq) (rEmp X.K false) := by
  intro pins s σ H x y v u Q I rx ry h
  obtain ⟨a, b, xs, rfl, rfl, h1, h2, q⟩ := h
  cases rx
  cases ry
  obtain ⟨us, r1, p1, _⟩ := I.list h1
  obtain ⟨ws, r2, p2, _⟩ := I.list h2
  cases r2
  have fin : ∀ c, c = xs.isEmpty → RcAt X.A s (.ref a) (.ref b) c → wpAny (model X.prog X.w) X.A (compareOp .Eq (.ref a) (.ref b)) (EP X pins σ Q) X.xe s := fun c e rc => rc _ _ _ _ ⟨.bl c, H, I, rfl, by rw [e]; simpa using q⟩
  cases us with
  | nil => cases r1; exact fin true rfl (RcAt.lists (e := fun _ => true) p1.isList p2.isList rfl hu fun j h _ => absurd h (by simp))
  | cons z us => cases r1; exact fin false rfl (RcAt.lists_lengths p1.isList p2.isList (by simp) hu)
theorem op_nemp {X : Cx} (hu : X.A.units < cLine) : OpR X (compareOp .NotEq) (rEmp X.K true) := by
  intro pins s σ H x y v u Q I rx ry h
  obtain ⟨a, b, xs, rfl, rfl, h1, h2, q⟩ := h
  cases rx
  cases ry
  obtain ⟨us, r1, p1, _⟩ := I.list h1
  obtain ⟨ws, r2, p2, _⟩ := I.list h2
  cases r2
  have fin : ∀ c, c = !xs.isEmpty → RcNeAt X.A s (.ref a) (.ref b) c → wpAny (model X.prog X.w) X.A (compareOp .NotEq (.ref a) (.ref b)) (EP X pins σ Q) X.xe s := fun c e rc => rc _ _ _ _ ⟨.bl c, H, I, rfl, by rw [e]; simpa using q⟩
  cases us with
  | nil => cases r1; exact fin false rfl (RcNeAt.lists (e := fun _ => true) p1.isList p2.isList rfl hu fun j h _ => absurd h (by simp))
  | cons z us => cases r1; exact fin true rfl (RcNeAt.lists_lengths p1.isList p2.isList (by simp) hu)
end L2
namespace VL
open PySem L2
def semEmp (neg : Bool) : List Val → Option Val
  | [.lst _ l, .lst _ []] => some (.bl (xor neg l.isEmpty))
  | _ => none
theorem ok_emp {G : Gam} {neg : Bool} : OkF G (r2 (rEmp G.K neg)) (semEmp neg) := by
  intro W H xs vs Ol v Q w r hs m
  unfold semEmp at hs
  split at hs
  · obtain ⟨x, y, O, O', rfl, r1, r2⟩ := r.inv2
    cases hs
    obtain ⟨a, ys, O1, rfl, e1, q1⟩ := rep_lstL r1
    obtain ⟨b, zs, O2, rfl, e2, q2⟩ := rep_lstL r2
    cases q2
    refine ⟨a, b, ys, rfl, rfl, .inl (.inl e1), .inl (.inl e2), ?_⟩
    have e : ys.isEmpty = List.isEmpty ‹List Val› := by
      have := q1.length
      cases ys <;> cases ‹List Val› <;> simp_all
    rw [e]
    exact m.same (.bl _)
  · cases hs
end VL
namespace VL
open PySem L2
theorem ve_eqm {G : Gam} {X : Cx} {E : WX} {e : Expr} {p p' s : Bool} {m m' : ME} (h : VE G X E p s e m) (hp : p = p') (hm : m = m') : VE G X E p' s e m' := by subst hp hm; exact h
end VL
namespace VL
open PySem L2
/-- a default's address does not count -/
def kn : Arg → Arg
  | .k _ u => .k .non u
  | a => a
theorem vals_kn : ∀ as : List Arg, vals (as.map kn) = vals as
  | [] => rfl
  | .v o :: as => by simp [kn, vals, vals_kn as]
  | .r _ :: as => by simp [kn, vals, vals_kn as]
  | .k _ _ :: as => by simp [kn, vals, vals_kn as]
theorem refsOk_kn (ρ : VEnv) : ∀ as : List Arg, refsOk ρ (as.map kn) = refsOk ρ as
  | [] => rfl
  | .v o :: as => by simp [kn, refsOk, refsOk_kn ρ as]
  | .r _ :: as => by simp [kn, refsOk, refsOk_kn ρ as]
  | .k _ _ :: as => by simp [kn, refsOk, refsOk_kn ρ as]
theorem fill_kn : ∀ (as : List Arg) (ρ : VEnv) (vs : List Val), fill (as.map kn) ρ vs = fill as ρ vs
  | [], _, _ => rfl
  | .v o :: as, ρ, [] => by simp [kn, fill]
  | .v o :: as, ρ, v :: vs => by simp [kn, fill, fill_kn as]
  | .r _ :: as, ρ, vs => by simp [kn, fill, fill_kn as]
  | .k _ _ :: as, ρ, vs => by simp [kn, fill, fill_kn as]
theorem back_kn : ∀ (as : List Arg) (fs : VEnv) (ρ : VEnv), back (as.map kn) fs ρ = back as fs ρ
  | [], _, _ => by simp [back]
  | .v o :: as, [], ρ => by simp [kn, back]
  | .v o :: as, f :: fs, ρ => by simp [kn, back, back_kn as]
  | .r _ :: as, [], ρ => by simp [kn, back]
  | .r _ :: as, some f :: fs, ρ => by simp [kn, back, back_kn as]
  | .r _ :: as, none :: fs, ρ => by simp [kn, back, back_kn as]
  | .k _ _ :: as, [], ρ => by simp [kn, back]
  | .k _ _ :: as, f :: fs, ρ => by simp [kn, back, back_kn as]
theorem mCall_kn (mf : MF) (as : List Arg) : mCall mf (as.map kn) = mCall mf as := by
  funext ρ
  unfold mCall
  simp only [vals_kn, refsOk_kn, fill_kn, back_kn]
theorem mCall_eq {mf : MF} {as bs : List Arg} (h : as.map kn = bs.map kn) : mCall mf as = mCall mf bs := by rw [← mCall_kn mf as, h, mCall_kn]
end VL
/-! VL, part XG: sorted(set(ints)). -/
namespace L2
open PySem PySem.Spec PyProof.Rows
/-- a set without members, as it is made -/
abbrev bareSet (w : World) : Obj := { cls := .type "set", dict := none, data := .set #[] 0 (.fresh 0 0 (!w.params.followText "set-order")) }
section
variable {P : Program} {w : World} {A : Around} {E : Value → Shared → Prop} {s : Shared}
set_option maxHeartbeats 8000000 in
/-- set(xs), xs a list of ints -/
theorem setOf_ints {l : Addr} {items : Array Value} (ns : List Int) {Q : Value → Shared → Prop} (noh : A.handled = none) (isl : s.heap.IsList l items) (are : IntsAre items.toList ns) (few : ns.length + 1 < scanBound)
    (k : ∀ (h' : Heap) (tk c : Nat), SetR w h' s.heap.objs.size (fun j => decide (j ∈ ns)) c → c ≤ ns.length → (∀ b o, s.heap.get? b = some o → h'.get? b = some o) → Q (.ref s.heap.objs.size) { s with heap := h', toks := tk }) : wpAny (model P w) A (call (.type "set") [.ref l]) Q E s := by
  have sz : items.size = ns.length := by have q := IntsAre.length are; rwa [Array.length_toList] at q
  obtain ⟨c0, tl0, mro⟩ := F.called_set.mro
  have made := F.called_set.made
  have isub := F.called_set.sub
  refine wpAny_call (codeAny_of_tree ?_)
  show wpAny _ _ (callAny (Value.type "set") _) _ _ _
  refine wpAny_pure ⟨Code.quiet_builtin _ (by decide +kernel), codeAny_builtin F.entry_type_call ?_⟩
  rw [Around.under_plain (weight_type_call_type "set" [Value.ref l] []) rfl]
  have q1 := F.called_set.notType
  have q2 := F.called_set.canCreate
  have qc := F.typeCall_set_1 (.ref l)
  repeat any_goals (first | assumption | wp_step)
  refine codeAny_mono (code_set_led1 (.ref l) (E := E) (Q₁ := fun x s₁ => x = .ref s.heap.objs.size ∧ s₁ = { s with heap := s.heap.push (bareSet w) }) ⟨rfl, rfl⟩) fun r s₁ hr => ?_
  match r, hr with
  | .error e, hr => exact hr
  | .ok (.ret x), hr =>
    obtain ⟨rfl, rfl⟩ := hr
    have gS : (s.heap.push (bareSet w)).get? s.heap.objs.size = some (bareSet w) := Heap.get?_push_size _ rfl
    have tS : Shared.TypeIs { s with heap := s.heap.push (bareSet w) } (.ref s.heap.objs.size) "set" := ⟨_, gS, rfl⟩
    have li := F.called_set.init.lookup
    have bi := F.called_set.init.bind (.ref s.heap.objs.size)
    repeat any_goals (first | assumption | wp_step)
    refine codeAny_mono (codeAny_call_builtin (R := wants (fun y s₂ => y = .none ∧ ∃ h' tk c, s₂ = { s with heap := h', toks := tk } ∧ SetR w h' s.heap.objs.size (fun j => decide (j ∈ ns)) c ∧ c ≤ ns.length ∧ ∀ b o, s.heap.get? b = some o → h'.get? b = some o) E) F.called_set.init.plain F.entry_set_init (check_set_init_1 tS ?_)) fun r₂ s₂ hr₂ => ?_
    · obtain ⟨⟨_, od, odt, osl⟩, hol, hcl, nl, hdl⟩ := isl
      simp only at hcl hdl
      subst hcl; subst hdl
      have il1 : (s.heap.push (bareSet w)).IsList l items := ⟨_, Heap.get?_push_of_some _ hol, rfl, nl, rfl⟩
      have gl1 : (s.heap.push (bareSet w)).get? l = some { cls := .type "list", dict := od, data := .seq items nl, slots := osl } := Heap.get?_push_of_some _ hol
      have n1 := F.sub_list_set
      have n2 := F.sub_list_frozenset
      have n3 : (Value.type "list" == Value.type "dict") = false := by decide
      unfold Builtin.«set.__init__» noKeywords Builtin.Frozenset.updateFrom
      generalize hPI : pyIter = PI
      wp_walk
      subst hPI
      refine wpAny_pyIter_list il1 ?_
      refine wpAny_bind (wpAny_runValue ?_)
      have lS : l < s.heap.objs.size := Heap.lt_size hol
      have nh3 : A.in1.in1.in1.handled = none := by simp [noh]
      have nI : l ≠ (s.heap.push (bareSet w)).objs.size := by rw [Heap.size_push]; exact Nat.ne_of_lt (Nat.lt_succ_of_lt lS)
      have nS : s.heap.objs.size ∉ [(s.heap.push (bareSet w)).objs.size, l] := by
        rw [Heap.size_push]
        intro z
        rcases List.mem_cons.mp z with z | z
        · exact Nat.ne_of_lt (Nat.lt_succ_self _) z
        · exact Nat.ne_of_gt lS (List.mem_singleton.mp z)
      have vals : ∀ (i : Nat) (v : Value), items[i]? = some v → ∃ k t, ns[i]? = some k ∧ v = .int k t := fun i v hv => by
        have hi : i < ns.length := sz ▸ (Array.getElem?_eq_some_iff.mp hv).1
        obtain ⟨t, e⟩ := PyProof.Rows.IntsAre.int_at are i v (by rw [Array.getElem?_toList]; exact hv)
        exact ⟨ns[i], t, List.getElem?_eq_getElem hi, by rw [e, List.getD_eq_getElem?_getD, List.getElem?_eq_getElem hi]; rfl⟩
      refine set_update_ints ((Walks.list nh3 _ l nI items).toS) s.heap.objs.size nS ns sz few vals (items.size - 0) 0 _ (by omega) (Nat.zero_le _) ⟨⟨_, Heap.get?_push_size _ rfl, rfl, rfl⟩, (il1.push _)⟩ ⟨0, Nat.le_refl 0, setR_new_at (Heap.get?_push_of_some _ gS)⟩ ?_
      intro s' c' mv hc' hS'
      obtain ⟨h', g2, d', tk', os'⟩ := s'
      obtain rfl : g2 = s.gens := mv.gens
      obtain rfl : d' = s.drawn := mv.drawn
      obtain rfl : os' = s.os := mv.os
      show wpAny _ _ _ _ _ _
      refine wpAny_pure ?_
      show wpAny _ _ (ret Value.none) _ _ _
      refine wpAny_pure ⟨rfl, h', tk', c', rfl, hS', by omega, fun b o e => ?_⟩
      have b0 : b < s.heap.objs.size := Heap.lt_size e
      refine mv.heap b o (fun z => ?_) (Heap.get?_push_of_some _ (Heap.get?_push_of_some _ e))
      rw [Heap.size_push] at z
      rcases List.mem_cons.mp z with z | z
      · exact Nat.ne_of_lt b0 z
      · exact Nat.ne_of_lt (Nat.lt_succ_of_lt b0) (List.mem_singleton.mp z)
    · match r₂, hr₂ with
      | .error e, hr₂ => exact hr₂
      | .ok (.ret y), hr₂ =>
        obtain ⟨rfl, h', tk, c', rfl, hS', hc', hk'⟩ := hr₂
        repeat any_goals (first | assumption | wp_step)
        exact k _ _ _ hS' hc' hk'
end
section
variable {P : Program} {w : World} {A : Around} {E : Value → Shared → Prop} {s : Shared} {a : Addr}
/-- sorted(a set of ints), any number of them -/
theorem sortedSetAny {S : Int → Bool} {n : Nat} {Q : Value → Shared → Prop} (R : SetR w s.heap a S n) (noh : A.handled = none) (sm : n ≤ 4096)
    (k : ∀ s' p (out : Array Value) (c : Nat) (ns : List Int), (∀ b o, s.heap.get? b = some o → s'.heap.get? b = some o) → s'.gens = s.gens → s'.os = s.os → s.heap.objs.size ≤ p → s'.heap.get? p = some (seqObj "list" out c) → IntsAre out.toList ns → ns.Pairwise (· < ·) → (∀ k, k ∈ ns ↔ S k = true) → ns.length = n → Q (.ref p) s') :
    wpAny (model P w) A (call (.builtin "sorted") [.ref a]) Q E s := by
  obtain ⟨o, es, ep, t, ho, hex, hd, good, nd, mem, lt, fits, size, ris, led⟩ := R
  refine Calls.call_function_entry kind_sorted plain_sorted entry_sorted (args_sorted1 _) ?_
  unfold Builtin.«sorted»; refine wpAny_bind (m := checkCount "sorted" 1 1 _) (wpAny_pure ?_)
  refine wpAny_bind (collect_set (A := A.in1) noh ⟨o, ho, hex.1, hd⟩ fits lt ris led fun s1 vs k1 hz g1 o1 pm => ?_)
  have vl : vs.length = n := by rw [pm.length_eq, List.length_map, Array.length_toList]; exact size
  have allI : ∀ v ∈ vs, ∃ i t, v = Value.int i t := fun v hv => by
    obtain ⟨e, he, q⟩ := List.mem_map.mp (pm.mem_iff.mp hv)
    obtain ⟨i, tk, h1, _⟩ := good e he
    exact ⟨i, tk, by rw [← q]; exact h1⟩
  have are := SrtO.ints_iv allI
  have raw : vs.map SrtO.iv = vs.map Builtin.Re.reRawOf := by
    refine List.map_congr_left fun v hv => ?_
    obtain ⟨i, t, rfl⟩ := allI v hv
    rfl
  have pk : (vs.map SrtO.iv).Perm (es.toList.map keyOf) := by
    rw [raw]
    have q := pm.map Builtin.Re.reRawOf
    rwa [List.map_map] at q
  have vz : vs.length ≤ sizeLine := by rw [vl, sizeLine_eq]; omega
  refine wpAny_bind (wpAny_newList ?_ vz)
  have hoL : (s1.heap.push (seqObj "list" vs.toArray 0)).get? s1.heap.objs.size = some (seqObj "list" vs.toArray 0) := Heap.get?_push_size _ rfl
  refine wpAny_bind (wpAny_holding (wpAny_call_entry slot_list_sort ⟨_, hoL, rfl⟩ entry_list_sort (SrtO.list_sort_ord SrtO.swo_int hoL vz (fun h2 => SrtO.ints_sortable are h2) fun out h1 h2 => ⟨_, rfl, ?_⟩) (args_list_sort _)))
  obtain ⟨c1, c2, c3⟩ := SrtO.ints_out are h1 h2
  obtain ⟨c, hc⟩ := sortedHeap_at (vs := vs) (out := out.toArray) hoL
  have pn : (out.map SrtO.iv).Perm (es.toList.map keyOf) := c2.trans pk
  refine wpAny_pure ⟨_, rfl, k _ s1.heap.objs.size out.toArray c (out.map SrtO.iv) (fun b u e => ?_) g1 o1 hz hc (by simpa using c1) (lt_of_le_nodup _ c3 (pn.nodup_iff.mpr nd)) (fun j => by rw [pn.mem_iff, ← mem j]) ?_⟩
  · have q := k1 b u e
    have hlt := Heap.lt_size q
    show (sortedHeap (s1.heap.push (seqObj "list" vs.toArray 0)) s1.heap.objs.size vs out.toArray).get? b = some u
    rw [sortedHeap_old (Nat.ne_of_lt hlt) (by rw [size_push']; exact Nat.lt_succ_of_lt hlt)]
    exact Heap.get?_push_of_some _ q
  · rw [pn.length_eq, List.length_map, Array.length_toList]; exact size
end
/-- sorted(set(xs)), xs a list of ints, fewer than 4000 -/
def tSortSet (K : PySem.W.Frag) (ta : TE) : TE := fun σ H Q => ta σ H fun x H1 => ∃ l, ∃ ns : List Int, x = .ref l ∧ SqL K H1 l (ns.map V.int) ∧ ns.length < 4000 ∧ ∀ (ms : List Int) (p : Addr), ms.Pairwise (· < ·) → (∀ k : Int, k ∈ ms ↔ k ∈ ns) → H1 p = none → Q (.ref p) (upd H1 p (.lst (ms.map V.int)))
theorem pe_sortSet {X : Cx} {a : Expr} {ta : TE} {p p2 q pos : Pos} (hc : X.calm = true) (hg : Gl X "sorted") (hm : X.mg "sorted" = none) (hg2 : Gl X "set") (hm2 : X.mg "set" = none) (ha : PE X a ta)
    (na : starEach [a] X.env = (false, eval a X.env) :: starEach [] X.env := by rfl) : PE X (.Call (.Name "sorted" p) [.Call (.Name "set" p2) [a] [] q] [] pos) (tSortSet X.K ta) := by
  refine ⟨fun pins s σ H Q I h => ?_⟩
  refine Call_ (ld_blt I hg hm (by decide +kernel : bootBuiltins "sorted" = some (.builtin "sorted")) ?_)
  refine PyProof.Rows.callWith_builtin1 (PyProof.Rows.args_cons ?_ rfl) rfl rfl
  refine Call_ (ld_blt I hg2 hm2 boot_set ?_)
  refine PyProof.Rows.callWith_type1 (PyProof.Rows.args_cons (thn (ha.run pins s σ H _ I h) fun v s1 ⟨x, H1, I1, r1, q1⟩ => PyProof.Rows.args_nil ?_) na) na rfl
  obtain ⟨l, ns, rfl, hq, h1, q1⟩ := q1
  cases r1
  obtain ⟨its, r, pl, hz⟩ := I1.list hq
  refine setOf_ints ns (I1.ok.hd hc) pl.isList (by simpa using intsAre_of r) (by unfold scanBound; omega) fun h' tk c hS cn keep => ?_
  refine PyProof.Rows.args_nil ?_
  refine sortedSetAny hS (I1.ok.hd hc) (by omega) fun s' p out c2 ms k2 g2 o2 hp hg hi hs hmm hl => ?_
  have sub : s1.heap.objs.size ≤ p := by
    obtain ⟨o, _, _, _, ho, _⟩ := id hS
    have hlt : s1.heap.objs.size < h'.objs.size := Heap.lt_size ho
    exact Nat.le_of_lt (Nat.lt_of_lt_of_le hlt hp)
  have lay : ∀ b o, s1.heap.get? b = some o → s'.heap.get? b = some o := fun b o e => k2 b o (keep b o e)
  have hn : H1 p = none := I1.hok.fresh sub
  have J : Inv X pins σ (upd H1 p (.lst (ms.map V.int))) { s1 with heap := s'.heap, gens := s'.gens, drawn := s'.drawn, toks := s'.toks } :=
    I1.call (ch := []) (Un.laid lay sub hn) (I1.hok.laid lay sub ⟨by rw [List.length_map, hl, sizeLine_eq]; omega, out.toList, c2, vals_of_ints hi, hg⟩) (by rw [g2]; exact I1.bare) (fun _ z => nomatch z)
  have e : s' = { s1 with heap := s'.heap, gens := s'.gens, drawn := s'.drawn, toks := s'.toks } := by
    cases s'
    cases s1
    cases o2
    rfl
  rw [e]
  exact ⟨.ref p, _, J, rfl, q1 ms p hs (fun z => by rw [hmm z]; simp) hn⟩
end L2
namespace VL
open PySem L2
def dupI : List Int → List Int
  | [] => []
  | x :: xs => if x ∈ xs then dupI xs else x :: dupI xs
theorem mem_dupI (k : Int) : ∀ xs : List Int, k ∈ dupI xs ↔ k ∈ xs
  | [] => .rfl
  | x :: xs => by
    unfold dupI
    split
    · rename_i h
      rw [mem_dupI k xs]
      exact ⟨List.mem_cons_of_mem _, fun z => (List.mem_cons.mp z).elim (fun e => e ▸ h) id⟩
    · simp [mem_dupI k xs]
theorem nodup_dupI : ∀ xs : List Int, (dupI xs).Nodup
  | [] => .nil
  | x :: xs => by
    unfold dupI
    split
    · exact nodup_dupI xs
    · rename_i h
      exact List.nodup_cons.mpr ⟨fun z => h ((mem_dupI x xs).mp z), nodup_dupI xs⟩
/-- sorted(set(ints)) -/
def semSortSet : List Val → Option Val
  | [.lst _ l] => match intsL l with
    | some ns => if ns.length < 4000 then some (.lst true ((sortI (dupI ns)).map Val.int)) else none
    | none => none
  | _ => none
theorem strict_of : ∀ {xs : List Int}, xs.Pairwise (· ≤ ·) → xs.Nodup → xs.Pairwise (· < ·)
  | [], _, _ => .nil
  | x :: xs, h, n => by
    have a := List.pairwise_cons.mp h
    have b := List.nodup_cons.mp n
    refine List.pairwise_cons.mpr ⟨fun z hz => ?_, strict_of a.2 b.2⟩
    have := a.1 z hz
    have : x ≠ z := fun e => b.1 (e ▸ hz)
    omega
theorem asc_eq : ∀ {xs ys : List Int}, xs.Pairwise (· < ·) → ys.Pairwise (· < ·) → (∀ k, k ∈ xs ↔ k ∈ ys) → xs = ys
  | [], [], _, _, _ => rfl
  | [], y :: ys, _, _, h => absurd ((h y).mpr List.mem_cons_self) (by simp)
  | x :: xs, [], _, _, h => absurd ((h x).mp List.mem_cons_self) (by simp)
  | x :: xs, y :: ys, h1, h2, h => by
    have a := List.pairwise_cons.mp h1
    have b := List.pairwise_cons.mp h2
    have e : x = y := by
      rcases List.mem_cons.mp ((h x).mp List.mem_cons_self) with e | e
      · exact e
      · rcases List.mem_cons.mp ((h y).mpr List.mem_cons_self) with e' | e'
        · exact e'.symm
        · have := b.1 x e
          have := a.1 y e'
          omega
    subst e
    rw [asc_eq a.2 b.2 fun k => ⟨fun hk => ?_, fun hk => ?_⟩]
    · rcases List.mem_cons.mp ((h k).mp (List.mem_cons_of_mem _ hk)) with e | e
      · have := a.1 k hk; omega
      · exact e
    · rcases List.mem_cons.mp ((h k).mpr (List.mem_cons_of_mem _ hk)) with e | e
      · have := b.1 k hk; omega
      · exact e
def rSortSet (K : PySem.W.Frag) : List V → Hp → VK → Prop := fun xs H Q => ∃ l, ∃ ns : List Int, xs = [.ref l] ∧ SqL K H l (ns.map V.int) ∧ ns.length < 4000 ∧ ∀ (ms : List Int) (p : Addr), ms.Pairwise (· < ·) → (∀ k : Int, k ∈ ms ↔ k ∈ ns) → H p = none → Q (.ref p) (upd H p (.lst (ms.map V.int)))
section
variable {G : Gam} {X : Cx} {E : WX} {e : Expr} {p s : Bool} {m : ME}
theorem ok_sortSet : OkF G (rSortSet G.K) semSortSet := by
  intro W H xs vs Ol v Q w r hs m
  unfold semSortSet at hs
  split at hs
  · obtain ⟨x, O, rfl, r1⟩ := r.inv1
    split at hs
    · rename_i ns hb
      split at hs
      · rename_i hl
        cases hs
        obtain ⟨a, ys, O1, rfl, e1, q1⟩ := rep_lstL r1
        obtain ⟨e, _⟩ := ints_of_reps q1 hb
        subst e
        refine ⟨a, ns, rfl, .inl (.inl e1), hl, fun ms p hp hs' hn => ?_⟩
        have nd : (sortI (dupI ns)).Nodup := (sortI_perm _).nodup_iff.mpr (nodup_dupI ns)
        have : ms = sortI (dupI ns) := asc_eq hp (strict_of (sortI_sorted _) nd) fun k => by rw [hs' k, (sortI_perm _).mem_iff, mem_dupI]
        subst this
        exact m.lst (reps_ints _) p hn
      · cases hs
    · cases hs
  · cases hs
theorem ve_sortSet {zp lp rp pos : Pos} (hc : X.calm = true) (hK : X.K = G.K) (hg : Gl X "sorted") (hm : X.mg "sorted" = none) (hg2 : Gl X "set") (hm2 : X.mg "set" = none) (h1 : VE G X E p s e m)
    (na : starEach [e] X.env = (false, eval e X.env) :: starEach [] X.env := by rfl) : VE G X E p true (.Call (.Name "sorted" lp) [.Call (.Name "set" rp) [e] [] pos] [] zp) (mFun semSortSet [m]) := by
  have h := ve_fun (G := G) (E := E) (os := [⟨p, s, m⟩]) (r := rSortSet G.K) (pe_sortSet (p := lp) (p2 := rp) (q := pos) (pos := zp) hc hg hm hg2 hm2 h1 na) (fun σ H Q z => rd_mono z fun x H1 ⟨l, ns, e, r, q, t⟩ => ⟨l, ns, by cases e; rfl, by rw [hK]; exact r, q, t⟩) ok_sortSet wf1
  simpa using h
end
end VL
/-! VL, part XH: len(an own object that a name holds), x.count(e) of a list of ints. -/
namespace VL
open PySem L2
section
open PySem.W PySem.Calls PyProof.Rows Builtin
variable {prog : Program} {w : World} {A : Around} {E : Value → Shared → Prop} {s : Shared} {K : Frag} {x C f : Addr} {ox : Obj} {od : Option Obj}
theorem len_fn {Q : Value → Shared → Prop} (X : K.In s.heap) (I : InstAt s.heap x ox C od) (hs : findIn K (.ref C) "__len__" = some (some (.ref f))) (hf : isFn K (.ref f) = true)
    (h : wpAny (model prog w) A.in1 (call (.ref f) [.ref x]) (fun r s' => ∃ n u, r = .int n u ∧ 0 ≤ n ∧ n < 2 ^ 63 ∧ Q (.int n s'.toks) { s' with toks := s'.toks + 1 }) E s) : wpAny (model prog w) A (call (.builtin "len") [.ref x]) Q E s := by
  refine Calls.call_function_entry kind_len plain_len entry_len (args_len1 (.ref x)) ?_
  unfold Builtin.«len»
  refine wpAny_bind (m := oneArg "len" _) (wpAny_pure ?_)
  refine wpAny_bind (m := callSpecial? (.ref x) (Str.ofString "__len__")) (special_fn X I hs (beq_iff_eq.mp hf) (wpAny_mono h (fun r s' ⟨n, u, e, h0, h1, hq⟩ => ?_) fun _ _ y => y))
  subst e
  refine wpAny_bind (wpAny_holding (wpAny_pure ?_))
  refine wpAny_bind (wpAny_letGo ?_)
  show wpAny _ _ (if n < (0 : Int) then _ else _) _ _ _
  rw [if_neg (by omega)]
  show wpAny _ _ (if n ≥ (2 : Int) ^ 63 then _ else _) _ _ _
  rw [if_neg (by omega)]
  exact wpAny_bind (wpAny_mkInt (wpAny_pure ⟨_, rfl, hq⟩))
end
def lenR : RE → RE
  | .ok (.int n) ρ => if 0 ≤ n ∧ n < 2 ^ 63 then .ok (.int n) ρ else .bad
  | _ => .bad
/-- len(x), x a name that holds an own object -/
def mLenR (c : Nat) (ml : MF) (i : Nat) : ME := fun ρ => match ρ[i]? with
  | some (some (.obj o n fs xs)) => if n = c then lenR (mCall (mfNoX ml) [.r i] ρ) else .bad
  | _ => .bad
/-- x.count(e), x a list of ints -/
def mCntL (m1 m2 : ME) : ME := fun ρ => match m1 ρ with
  | .ok (.lst o xs) ρ1 => match m2 ρ1 with
    | .ok (.int k) ρ2 => match intsL xs with
      | some ns => .ok (.int ((ns.count k : Nat) : Int)) ρ2
      | none => .bad
    | .ok _ _ => .bad
    | .exc e ρ2 => .exc e ρ2
    | .bad => .bad
  | .ok _ _ => .bad
  | .exc e ρ1 => .exc e ρ1
  | .bad => .bad
section
variable {G : Gam} {X : Cx} {E : WX} {o e : Expr} {p1 s1 s2 : Bool} {m1 m2 : ME} {pos px apos : Pos} {C f : Addr} {c k i : Nat} {ml : MF} {fd : FuncData} {ps : List Str}
def rLenO (G : Gam) (C : Addr) (ml : MF) : List V → Hp → VK → Prop := fun xs H Q => ∃ a dx fs, xs = [.ref a] ∧ H a = some (.ins C dx fs) ∧ spV G 1 ml [.ref a] H (fun z H' => ∃ n, z = .int n ∧ 0 ≤ n ∧ n < 2 ^ 63 ∧ Q (.int n) H') fun _ _ _ => False
theorem call_lenO (hs : PySem.W.findIn X.K (.ref C) "__len__" = some (some (.ref f))) (hf : PySem.W.isFn X.K (.ref f) = true) (F : FnOkG X.prog X.w X.K X.mg X.base (L2.CX X.prog X.w) k f fd ps (spV G 1 ml)) (hr : RoomG (k + 2) X.A) (hb : Binds X.K fd ps []) : CallR X (.builtin "len") (rLenO G C ml) := by
  intro pins s σ H xs us Q I r h
  obtain ⟨a, dx, fs, rfl, ea, q⟩ := h
  obtain ⟨u, rfl, ru⟩ := vals1 r
  cases ru
  obtain ⟨hx, od, J⟩ := ins_here I ea
  have hr2 : RoomG k X.A.in1 := (RoomG.in1 hr).mono (Nat.le_succ k)
  have hl : ([Value.ref a] ++ []).length = ps.length := by rw [← F.len _ _ _ _ q]; rfl
  have b := hb s [.ref a] I.kIn hl
  rw [List.append_nil] at b
  refine len_fn I.kIn J hs hf (wpAny_call (codeAny_mono (F.run X.A.in1 X.stack s H ⟨[.ref a], []⟩ [.ref a] [.ref a] _ _ hr2 I.env0.in1 b (.cons rfl .nil) q) fun res s2 hq => ?_))
  cases res with
  | error er => exact (pass_none (Y := X.nox) pins σ H s er s2 (I.wish _) hq).elim
  | ok fl =>
    cases fl with
    | ret u =>
      obtain ⟨z, H', I', rz, n, ez, h0, h1, qz⟩ := I.after hq
      subst ez
      obtain ⟨t, rfl⟩ := rz
      exact ⟨n, t, rfl, h0, h1, .int n, H', I'.tok _, ⟨_, rfl⟩, qz⟩
    | next => exact hq.elim
    | brk => exact hq.elim
    | cont => exact hq.elim
theorem ve_lenR (ho : PE X o (tVar i)) (hcn : G.cn c = some C) (hs : PySem.W.findIn X.K (.ref C) "__len__" = some (some (.ref f))) (hf : PySem.W.isFn X.K (.ref f) = true) (F : FnOkG X.prog X.w X.K X.mg X.base (L2.CX X.prog X.w) k f fd ps (spV G 1 ml)) (hr : RoomG (k + 2) X.A) (hb : Binds X.K fd ps [])
    (hg : Gl X "len") (hm : X.mg "len" = none) (he : starEach [o] X.env = (false, eval o X.env) :: starEach [] X.env := by rfl) (hpl : (backTo pos (starEach [] X.env)).any (·.1) = false := by rfl) :
    VE G X E false true (.Call (.Name "len" px) [o] [] pos) (mLenR c ml i) := by
  refine PE.pre (pe_callB (call_lenO (G := G) (ml := ml) hs hf F hr hb) hg hm boot_len (pa_cons ho pa_nil he) (by decide) (by decide) he hpl) fun σ H Q ⟨R, ρ, Os, rel, post⟩ => ?_
  unfold mLenR at post
  split at post
  rotate_left
  · exact post.elim
  rename_i ow n fs xs hv
  by_cases hn : n = c
  rotate_left
  · rw [if_neg hn] at post; exact post.elim
  rw [if_pos hn] at post
  subst hn
  obtain ⟨x, hx, rep⟩ := rel.rep i _ hv
  obtain ⟨a, C', dx, fs', rfl, ea, hC, _⟩ := rep_obj rep
  rw [hcn] at hC
  cases hC
  have post2 : Post G R E σ H Os false true ρ (fun z H' => ∃ n, z = .int n ∧ 0 ≤ n ∧ n < 2 ^ 63 ∧ Q (.int n) H') (mCall (mfNoX ml) [.r i] ρ) := by
    cases hm : mCall (mfNoX ml) [.r i] ρ with
    | bad => rw [hm] at post; exact post
    | exc ee ρ' => rw [hm] at post; exact post.elim
    | ok v ρ' =>
      rw [hm] at post
      cases v with
      | int j =>
        change Post G R E σ H Os false true ρ Q (if 0 ≤ j ∧ j < 2 ^ 63 then .ok (.int j) ρ' else .bad) at post
        by_cases hj : 0 ≤ j ∧ j < 2 ^ 63
        · rw [if_pos hj] at post
          intro x' H' Os' O rel' rep' nd' k' p'
          cases rep'
          exact ⟨j, rfl, hj.1, hj.2, post (.int j) H' Os' [] rel' (.int j) nd' k' p'⟩
        · rw [if_neg hj] at post; exact post.elim
      | _ => exact post.elim
  obtain ⟨y, hy, q⟩ := call_of (as := [.r i]) (n := 1) trivial rfl rfl (σ := σ) ⟨R, ρ, Os, rel, post2⟩
  rw [hx] at hy
  cases hy
  exact ⟨.ref a, hx, a, dx, fs', rfl, ea, sp_nox q⟩
theorem ve_cnt (hK : X.K = G.K) (ho : VE G X E p1 s1 o m1) (he : VE G X E true s2 e m2) (hbase : attributeBase o "count" X.env (eval o X.env) = eval o X.env := by rfl)
    (hfew : ((backTo pos (starEach [e] X.env)).all (fun x => !x.1) && (backToKw pos (keywordEach [] X.env)).all (fun x => x.1.isSome) && decide (([e] : List Expr).length + ([] : List Keyword).length + (if ([] : List Keyword).isEmpty then 0 else 1) < 30)) = true := by rfl)
    (hline : (apos.endLine == pos.line) = true := by rfl) (hs : starEach [e] X.env = (false, eval e X.env) :: starEach [] X.env := by rfl) (hp : (backTo pos (starEach [] X.env)).any (·.1) = false := by rfl) : VE G X E p1 true (.Call (.Attribute o "count" apos) [e] [] pos) (mCntL m1 m2) := by
  refine PE.pre (pe_bm PySem.F.plainAttrs_list PySem.F.slot_list_count PySem.F.type_list_count mt_lcount ho (pa_cons he pa_nil hs) hbase hfew hline hs hp) fun σ H Q ⟨R, ρ, Os, rel, post⟩ => ⟨R, ρ, Os, rel, ?_⟩
  unfold mCntL at post
  cases hm : m1 ρ with
  | bad => rw [hm] at post; exact post
  | exc ee ρ1 => rw [hm] at post; exact post
  | ok v ρ1 =>
    rw [hm] at post
    cases v with
    | lst ow xs =>
      dsimp only at post
      intro x H1 Os1 O rel1 rep nd k1 pure1
      obtain ⟨a, ys, O1, rfl, e1, q1⟩ := rep_lstL rep
      refine ⟨.inl ⟨rfl, ys, .inl (.inl e1)⟩, Rp R s1 O, ρ1, Os1, rel1, ?_⟩
      cases hm2 : m2 ρ1 with
      | bad => rw [hm2] at post; exact post
      | exc ee ρ2 =>
        rw [hm2] at post
        intro c d H2 Os2 rel2 rx k2
        exact post c d H2 Os2 (rel2.weak fun a z => .inl z) (rx.mono fun a o e nw => ⟨e, fun z => nw (z.imp .inl id)⟩) (KeepE.trans (k1.imp (O' := fun _ => False) fun _ z => z.elim) k2)
      | ok u ρ2 =>
        rw [hm2] at post
        cases u with
        | int j =>
          dsimp only at post
          cases hi : intsL xs with
          | none => rw [hi] at post; exact post.elim
          | some ns =>
            rw [hi] at post
            intro y H2 Os2 O2 rel2 rep2 nd2 k2 pure2
            cases rep2
            obtain ⟨z1, z2, z3⟩ := pure2 rfl
            obtain ⟨ey, _⟩ := ints_of_reps q1 hi
            subst ey
            have sq : SqL X.K H2 a (ns.map V.int) := .inl (.inl (z3 _ _ e1))
            refine ⟨a, ns, j, rfl, rfl, sq, post (.int _) H2 Os2 [] (rel2.weak fun a z => z.elim (fun z => .inl (.inl z)) fun z => nomatch z.2) (.int _) (fun _ => List.nodup_nil) (fun a o e nw => ?_) fun hp => ?_⟩
            · obtain ⟨f1, f2, _⟩ := k1 a o e nw
              obtain ⟨g1, g2, _⟩ := k2 a o f1 f2
              exact ⟨g1, g2, fun z => nomatch z.2⟩
            · obtain ⟨y1, y2, y3⟩ := pure1 hp
              exact ⟨z1.trans y1, z2.trans y2, fun b ob eb => z3 b ob (y3 b ob eb)⟩
        | _ => exact post.elim
    | _ => exact post.elim
end
end VL
/-! VL, part XI: names lent to a call that only looks at them: x.m(), x == y; a field that is looked at. -/
namespace VL
open PySem L2
mutual
/-- nothing in it but new lists, tuples and plain values -/
def simpV : Val → Bool
  | .non => true | .bl _ => true | .int _ => true | .str _ => true | .ty _ => true
  | .lst o xs => o && simpVs xs
  | .tup xs => simpVs xs
  | _ => false
def simpVs : List Val → Bool
  | [] => true
  | x :: xs => simpV x && simpVs xs
end
section
variable {G : Gam} {W W' : Addr → Prop} {H : Hp}
mutual
theorem Rep.simp {x : V} {v : Val} {O : List Addr} (r : Rep G W H x v O) (h : simpV v = true) (hw : ∀ a, W' a → W a ∨ ∀ xs, H a ≠ some (.tup xs)) : Rep G W' H x v O := by
  cases r with
  | non => exact .non
  | bl b => exact .bl b
  | int i => exact .int i
  | str x => exact .str x
  | ty n => exact .ty n
  | tup h1 r =>
    simp only [simpV] at h
    exact .tup ⟨h1.1, fun z => (hw _ z).elim h1.2 fun z => z _ h1.1⟩ (r.simp h hw)
  | lstO h1 r =>
    simp only [simpV, Bool.true_and] at h
    exact .lstO h1 (r.simp h hw)
  | _ => simp [simpV] at h
theorem Reps.simp {xs : List V} {vs : List Val} {O : List Addr} (r : Reps G W H xs vs O) (h : simpVs vs = true) (hw : ∀ a, W' a → W a ∨ ∀ xs, H a ≠ some (.tup xs)) : Reps G W' H xs vs O := by
  cases r with
  | nil => exact .nil
  | cons r t =>
    simp only [simpVs, Bool.and_eq_true] at h
    exact .cons (r.simp h.1 hw) (t.simp h.2 hw)
end
mutual
theorem Rep.notup {x : V} {v : Val} {O : List Addr} (r : Rep G W H x v O) : ∀ a ∈ O, ∃ o, H a = some o ∧ ∀ xs, o ≠ .tup xs := by
  cases r with
  | tup h r => exact r.notup
  | lstO h r => exact fun a ha => (List.mem_cons.mp ha).elim (fun e => by rw [e]; exact ⟨_, h, fun _ z => by cases z⟩) (r.notup a)
  | dkO h hk r => exact fun a ha => (List.mem_cons.mp ha).elim (fun e => by rw [e]; exact ⟨_, h, fun _ z => by cases z⟩) (r.notup a)
  | dtO h hk r => exact fun a ha => (List.mem_cons.mp ha).elim (fun e => by rw [e]; exact ⟨_, h, fun _ z => by cases z⟩) (r.notup a)
  | dnO h hk hn r => exact fun a ha => (List.mem_cons.mp ha).elim (fun e => by rw [e]; exact ⟨_, h, fun _ z => by cases z⟩) (fun z => nomatch z)
  | objO h hc hn r => exact fun a ha => (List.mem_cons.mp ha).elim (fun e => by rw [e]; exact ⟨_, h, fun _ z => by cases z⟩) (r.notup a)
  | _ => exact fun a ha => nomatch ha
theorem Reps.notup {xs : List V} {vs : List Val} {O : List Addr} (r : Reps G W H xs vs O) : ∀ a ∈ O, ∃ o, H a = some o ∧ ∀ xs, o ≠ .tup xs := by
  cases r with
  | nil => exact fun a ha => nomatch ha
  | cons r t => exact fun a ha => (List.mem_append.mp ha).elim (r.notup a) (t.notup a)
end
end
def borR (ρ : VEnv) : RE → RE
  | .ok w _ => if simpV w = true then .ok w ρ else .bad
  | _ => .bad
/-- x.m(), x lent -/
def mMethB (c : Nat) (mn : Str) (mf : MF) (i : Nat) : ME := fun ρ => match ρ[i]? with
  | some (some v) => if objC c mn v = true then borR ρ (mf [v.frz]) else .bad
  | _ => .bad
/-- f(x, y), both lent -/
def mTwoB (mf : MF) (i j : Nat) : ME := fun ρ => match ρ[i]?, ρ[j]? with
  | some (some v), some (some u) => borR ρ (mf [v.frz, u.frz])
  | _, _ => .bad
/-- a field, looked at -/
def mFldP (cs : List Nat) (i : Nat) (f : Str) : ME := fun ρ => match ρ[i]? with
  | some (some (.obj o c fs xs)) => if c ∈ cs then (match lookF f fs xs with
    | some w => .ok w ρ
    | none => .bad) else .bad
  | _ => .bad
section
variable {G : Gam} {X : Cx} {E : WX} {R : Addr → Prop} {H : Hp} {σ : L2.St} {ρ : VEnv} {Os : Nat → List Addr} {a b o : Expr} {i j c : Nat} {C f : Addr} {mf : MF} {pos apos : Pos}
/-- lent names: what is wanted of the call -/
theorem lend (rel : Rel G R H σ ρ Os) {is : List Nat} {xs : List V} {vs : List Val} (hx : xs.length = vs.length) (hxs : ∀ (k : Nat) (v : Val), vs[k]? = some v → ∃ l ∈ is, ∃ x u, σ[l]? = some (some x) ∧ ρ[l]? = some (some u) ∧ v = u.frz ∧ xs[k]? = some x) {n : Nat} (hn : xs.length = n) {Q : VK}
    (post : Post G R E σ H Os true true ρ Q (borR ρ (mf vs))) : spV G n mf xs H Q (WE E σ) := by
  let R' : Addr → Prop := fun z => WW R Os z ∧ ∀ l ∈ is, z ∉ Os l
  have relA : Rel G R' H (xs.map some) (vs.map some) (fun _ => []) := by
    refine ⟨by simp [hx], fun k v hk => ?_, fun _ _ => rfl, fun _ => List.nodup_nil, (fun _ _ _ z => nomatch z), (fun _ _ z => nomatch z), fun z hz => rel.ww hz.1⟩
    rw [List.getElem?_map] at hk
    cases hv : vs[k]? with
    | none => rw [hv] at hk; simp at hk
    | some v' =>
      rw [hv] at hk
      simp at hk
      subst hk
      obtain ⟨l, hl, x, u, h1, h2, h3, h4⟩ := hxs k v' hv
      obtain ⟨x', h1', rep⟩ := rel.rep l u h2
      rw [h1] at h1'
      cases h1'
      refine ⟨x, by rw [List.getElem?_map, h4]; rfl, ?_⟩
      rw [h3]
      exact rep.freeze (fun z nw hz => nw (hz.elim (fun q => q.1) fun ⟨_, q⟩ => nomatch q)) fun z hz hw => hw.elim (fun q => q.2 l hl hz) fun ⟨_, q⟩ => nomatch q
  refine ⟨hn, R', vs, fun _ => [], relA, ?_⟩
  cases hm : mf vs with
  | bad => rw [hm] at post; exact post.elim
  | exc e fs => rw [hm] at post; exact post.elim
  | ok w fs =>
    rw [hm] at post
    unfold borR at post
    by_cases hs : simpV w = true
    rotate_left
    · simp only [hs, if_false] at post; exact post.elim
    simp only [hs, if_true] at post
    intro x2 H2 Os2 O rel2 rep2 nd k2 _
    have same : Same H H2 := fun z oz ez => (k2 z oz ez fun ⟨_, q⟩ => nomatch q).1
    have newO : ∀ z ∈ O, H z = none := fun z hz => by
      cases hz0 : H z with
      | none => rfl
      | some oz => exact ((k2 z oz hz0 fun ⟨_, q⟩ => nomatch q).2.2 ⟨rfl, hz⟩).elim
    have relF : Rel G (Rp R true O) H2 σ ρ Os := rel.grow same (fun z hz => hz.imp id fun q => newO z q.2) fun z hz => hz.elim (fun q => let ⟨o, e⟩ := rel.rt z q; ⟨o, same z o e⟩) fun q => rep2.there z q.2
    refine post x2 H2 Os O relF (rep2.simp hs fun z hz => ?_) (fun _ => nd rfl) (fun z oz ez nw => ?_) fun _ => ⟨rfl, rfl, same⟩
    · by_cases hO : z ∈ O
      · exact .inl (.inl (.inr ⟨rfl, hO⟩))
      have hW : WW R Os z := by
        rcases hz with (hz | hz) | hz
        · exact .inl hz
        · exact absurd hz.2 hO
        · exact .inr hz
      by_cases hR : R' z
      · exact .inl (.inl (.inl hR))
      · right
        have : ∃ l ∈ is, z ∈ Os l := Classical.byContradiction fun q => hR ⟨hW, fun l hl hz => q ⟨l, hl, hz⟩⟩
        obtain ⟨l, hl, hzl⟩ := this
        obtain ⟨oz, ez⟩ := rel.there z hzl
        have hv : ∃ v, ρ[l]? = some (some v) := Classical.byContradiction fun q => by
          rw [rel.nil l fun v hv => q ⟨v, hv⟩] at hzl
          cases hzl
        obtain ⟨v, hv⟩ := hv
        obtain ⟨x, _, rep⟩ := rel.rep l v hv
        obtain ⟨o1, e1, nt⟩ := rep.notup z hzl
        intro ys e2
        rw [same z o1 e1] at e2
        cases e2
        exact nt ys rfl
    · have := k2 z oz ez fun ⟨_, q⟩ => nomatch q
      exact ⟨this.1, nw, fun q => this.2.2 q⟩
theorem ve_methB {pl : Sem Bool} {mn : Str} {mf : MF} (he : PE X o (tVar i)) (hcn : G.cn c = some C) (cl : Cls X.K C) (hm : Meth X.K C mn f) (hc : CalV G X E (.ref f) 1 mf [])
    (ht : eval (.Call (.Attribute o mn apos) [] [] pos) X.env = mcTree o mn apos pos [] pl X.env := by rfl) : VE G X E true true (.Call (.Attribute o mn apos) [] [] pos) (mMethB c mn mf i) := by
  refine PE.pre (pe_calm0 he cl hm hc ht) fun σ H Q ⟨R, ρ, Os, rel, post⟩ => ?_
  unfold mMethB at post
  split at post
  · rename_i v hv
    by_cases ho : objC c mn v = true
    · rw [if_pos ho] at post
      obtain ⟨x, hx, rep⟩ := rel.rep i v hv
      obtain ⟨a, dx, fs, e1, e2, e3⟩ := objC_ok hcn rep ho
      refine ⟨x, hx, a, dx, fs, e1, e2, e3, ?_⟩
      exact lend rel (is := [i]) (xs := [x]) (vs := [v.frz]) rfl (fun k w hk => by
        match k, hk with
        | 0, hk => cases hk; exact ⟨i, List.mem_singleton.mpr rfl, x, v, hx, hv, rfl, rfl⟩
        | k + 1, hk => simp at hk) rfl post
    · rw [if_neg ho] at post; exact post.elim
  · exact post.elim
theorem lend2 (rel : Rel G R H σ ρ Os) {v u : Val} {x y : V} (hv : ρ[i]? = some (some v)) (hu : ρ[j]? = some (some u)) (hx : σ[i]? = some (some x)) (hy : σ[j]? = some (some y)) {Q : VK} (post : Post G R E σ H Os true true ρ Q (borR ρ (mf [v.frz, u.frz]))) : spV G 2 mf [x, y] H Q (WE E σ) :=
  lend rel (is := [i, j]) (xs := [x, y]) (vs := [v.frz, u.frz]) rfl (fun k w hk => by
    match k, hk with
    | 0, hk => cases hk; exact ⟨i, List.mem_cons_self, x, v, hx, hv, rfl, rfl⟩
    | 1, hk => cases hk; exact ⟨j, List.mem_cons_of_mem _ List.mem_cons_self, y, u, hy, hu, rfl, rfl⟩
    | k + 2, hk => simp at hk) rfl post
theorem two_ev (h1 : PE X a (tVar i)) (h2 : PE X b (tVar j)) {pins : List (Addr × Obj)} {s : Shared} {Q : VK} (I : Inv X pins σ H s) (h : rd G E true true (mTwoB mf i j) σ H Q) {P : Value → Value → Shared → Prop}
    (fin : ∀ s2 v u x y, Inv X pins σ H s2 → RelV x v → RelV y u → spV G 2 mf [x, y] H Q (WE E σ) → P v u s2) :
    wpAny (model X.prog X.w) X.A (eval a X.env) (fun v s1 => wpAny (model X.prog X.w) X.A (eval b X.env) (fun u s2 => P v u s2) X.xe s1) X.xe s := by
  obtain ⟨R, ρ, Os, rel, post⟩ := h
  unfold mTwoB at post
  split at post
  · rename_i v u hv hu
    obtain ⟨x, hx, _⟩ := rel.rep i v hv
    obtain ⟨y, hy, _⟩ := rel.rep j u hu
    refine thn (h1.run pins s σ H (fun z H' => z = x ∧ H' = H) I ⟨x, hx, rfl, rfl⟩) fun w1 s1 ⟨x', H1, I1, r1, e1, e2⟩ => ?_
    subst e1; subst e2
    refine thn (h2.run pins s1 σ _ (fun z H' => z = y ∧ H' = H1) I1 ⟨y, hy, rfl, rfl⟩) fun w2 s2 ⟨y', H2, I2, r2, e1, e2⟩ => ?_
    subst e1; subst e2
    exact fin s2 w1 w2 _ _ I2 r1 r2 (lend2 rel hv hu hx hy post)
  · exact post.elim
theorem pc_eqB (T : OwnEq X.K C f) (hK : X.K = G.K) (hu : X.A.units < cLine) (hc : G.cn c = some C) (hl : CalV G X E (.ref f) 2 mf []) (h1 : PE X a (tVar i)) (h2 : PE X b (tVar j)) :
    PC X .Eq a b (rd G E true true (mTwoB (mfCmp id c mf) i j)) := by
  refine ⟨fun pins s σ H Q I h => ?_⟩
  exact two_ev h1 h2 I h fun s2 v u x y I2 rx ry q => eq_run T hK hu hc hl pins s2 σ H x y v u Q I2 rx ry q
theorem pc_neB {k : Nat} {fd : FuncData} {ps : List Str} (T : OwnEq X.K C f) (hK : X.K = G.K) (hu : X.A.units + 1 < cLine) (hc : G.cn c = some C) (F : FnOkG X.prog X.w X.K X.mg X.base (L2.CX X.prog X.w) k f fd ps (spV G 2 mf)) (hr : RoomG (k + 1) X.A) (hb : Binds X.K fd ps []) (tk : Takes X E) (h1 : PE X a (tVar i)) (h2 : PE X b (tVar j)) :
    PC X .NotEq a b (rd G E true true (mTwoB (mfCmp not c mf) i j)) := by
  refine ⟨fun pins s σ H Q I h => ?_⟩
  exact two_ev h1 h2 I h fun s2 v u x y I2 rx ry q => ne_run T hK hu hc F hr hb tk pins s2 σ H x y v u Q I2 rx ry q
theorem ve_fldP {cs : List Nat} {fl : Str} (F : FldF G X.K cs fl) (he : PE X o (tVar i)) (hb : attributeBase o fl X.env (eval o X.env) = eval o X.env := by rfl) : VE G X E true false (.Attribute o fl pos) (mFldP cs i fl) := by
  refine PE.pre (pe_fld (pos := pos) he hb) fun σ H Q ⟨R, ρ, Os, rel, post⟩ => ?_
  unfold mFldP at post
  split at post
  rotate_left
  · exact post.elim
  rename_i ow n fs xs hv
  by_cases hn : n ∈ cs
  rotate_left
  · rw [if_neg hn] at post; exact post.elim
  rw [if_pos hn] at post
  obtain ⟨x, hx, rep⟩ := rel.rep i _ hv
  obtain ⟨a, C, dx, fs', O', rfl, ea, hC, hn', r⟩ := rep_objR rep
  obtain ⟨cl, na⟩ := F n hn C hC
  subst hn'
  split at post
  · rename_i w hw
    obtain ⟨y, O2, e1, r2, _⟩ := look_fld r hw
    refine ⟨.ref a, hx, a, C, dx, fs', y, rfl, ea, cl, na, e1, post y H Os O2 (rel.weak fun a z => z.elim id fun z => by cases z.1) (r2.mono (fun a o e nw => ⟨e, fun z => nw (z.imp (fun z => z.elim id fun z => by cases z.1) id)⟩) fun _ _ _ e => e) (fun z => by cases z) (KeepE.refl.imp fun a z => by cases z.1) fun _ => ⟨rfl, rfl, fun _ _ e => e⟩⟩
  · exact post.elim
end
end VL
namespace L2
open PySem PySem.Spec PyProof.Rows
/-- two dicts of flat values, the same keys with the same values; either may stand locked -/
def rEqDR : R2 := fun x y H Q => ∃ a b ks ls, x = .ref a ∧ y = .ref b ∧ Rd H a (.dK ks) ∧ Rd H b (.dK ls) ∧ ks.length = ls.length ∧ (∀ p ∈ ks, valV ls p.1 = some p.2 ∧ flatB p.2 = true) ∧ Q (.bl true) H
theorem op_eq_dR {X : Cx} (hu : X.A.units < cLine) : OpR X (compareOp .Eq) rEqDR := by
  intro pins s σ H x y v u Q I rx ry h
  obtain ⟨a, b, ks, ls, rfl, rfl, ea, eb, hlen, hp, q⟩ := h
  obtain rfl : v = Value.ref a := rx
  obtain rfl : u = Value.ref b := ry
  obtain ⟨_, ya, va, ra, da⟩ := dk_rd I.hok ea
  obtain ⟨_, yb, vb, rb, db⟩ := dk_rd I.hok eb
  have same : va.length = vb.length := by rw [← ra.length, ← rb.length]; exact hlen
  exact PySem.W.keq_eq (knd := mixKind X.prog X.w) (r := true) ya yb da db hu (fun _ => hits_all rb ra hp) (fin_bl I q (by simp [same]))
end L2
namespace VL
open PySem L2
def flV : Val → Bool
  | .non => true | .bl _ => true | .int _ => true | .str _ => true
  | _ => false
/-- == of two dicts that are alike -/
def semEqDk : List Val → Option Val
  | [.dct _ .k ks vs, .dct _ .k ls us] => if ks = ls ∧ vs = us ∧ vs.all flV = true ∧ ks.Nodup then some (.bl true) else none
  | _ => none
theorem flat_one {G : Gam} {W W' : Addr → Prop} {H H' : Hp} {x y : V} {v : Val} {O O' : List Addr} (r : Rep G W H x v O) (q : Rep G W' H' y v O') (h : flV v = true) : x = y ∧ flatB x = true := by
  cases v <;> simp [flV] at h <;> cases r <;> cases q <;> exact ⟨rfl, rfl⟩
theorem flat_all {G : Gam} {W W' : Addr → Prop} {H H' : Hp} : ∀ {vs : List Val} {xs ys : List V} {O O' : List Addr}, Reps G W H xs vs O → Reps G W' H' ys vs O' → vs.all flV = true → xs = ys ∧ ∀ x ∈ xs, flatB x = true
  | [], _, _, _, _, r, q, _ => by cases r; cases q; exact ⟨rfl, fun x hx => nomatch hx⟩
  | v :: vs, _, _, _, _, r, q, h => by
    simp only [List.all_cons, Bool.and_eq_true] at h
    cases r with
    | cons r rt =>
      cases q with
      | cons q qt =>
        obtain ⟨e1, f1⟩ := flat_one r q h.1
        obtain ⟨e2, f2⟩ := flat_all rt qt h.2
        subst e1; subst e2
        exact ⟨rfl, fun x hx => (List.mem_cons.mp hx).elim (fun e => e ▸ f1) (f2 x)⟩
theorem key_inj : ∀ {k l : Key}, ofKey k = ofKey l → k = l
  | .inl i, .inl j, h => by simp [ofKey] at h; rw [h]
  | .inr x, .inr y, h => by simp [ofKey] at h; rw [h]
  | .inl i, .inr y, h => by simp [ofKey] at h
  | .inr x, .inl j, h => by simp [ofKey] at h
theorem keys_inj : ∀ {ks ls : List (Key × V)}, (ks.map fun p => ofKey p.1) = (ls.map fun p => ofKey p.1) → ks.map (·.2) = ls.map (·.2) → ks = ls
  | [], [], _, _ => rfl
  | [], _ :: _, h, _ => by simp at h
  | _ :: _, [], h, _ => by simp at h
  | (k, v) :: ks, (l, u) :: ls, h, h2 => by
    simp only [List.map_cons, List.cons.injEq] at h h2
    rw [key_inj h.1, h2.1, keys_inj h.2 h2.2]
theorem ok_eqDk {G : Gam} : OkF G (r2 rEqDR) semEqDk := by
  intro W H xs vs Ol v Q w r hs m
  unfold semEqDk at hs
  split at hs
  · rename_i o ks us o' ls ws
    obtain ⟨x, y, O, O', rfl, r1, r2⟩ := r.inv2
    split at hs
    · rename_i hc
      cases hs
      obtain ⟨rfl, rfl, hf, nd⟩ := hc
      have fr : ∀ {x : V} {o : Bool} {O : List Addr}, Rep G W H x (.dct o .k ks us) O → ∃ a kvs O2, x = .ref a ∧ Rd H a (.dK kvs) ∧ ks = kvs.map (fun p => ofKey p.1) ∧ Reps G W H (kvs.map (·.2)) us O2 := by
        intro x o O r
        cases r with
        | dkO h hk q => exact ⟨_, _, _, rfl, .inl h, hk, q⟩
        | dkF h hk q => exact ⟨_, _, _, rfl, h.1, hk, q⟩
      obtain ⟨a, kvs, O1, rfl, e1, k1, q1⟩ := fr r1
      obtain ⟨b, lvs, O2, rfl, e2, k2, q2⟩ := fr r2
      obtain ⟨ev, fl⟩ := flat_all q1 q2 hf
      have e : kvs = lvs := keys_inj (k1.symm.trans k2) ev
      subst e
      have ndk : (kvs.map (·.1)).Nodup := by
        rw [k1] at nd
        rw [show (fun p : Key × V => ofKey p.1) = ofKey ∘ Prod.fst from rfl, ← List.map_map] at nd
        exact List.Pairwise.of_map ofKey (fun a b h e => h (congrArg ofKey e)) nd
      exact ⟨a, b, kvs, kvs, rfl, rfl, e1, e2, rfl, fun p hp => ⟨val_nodup ndk p hp, fl _ (List.mem_map.mpr ⟨p, hp, rfl⟩)⟩, m.same (.bl _)⟩
    · cases hs
  · cases hs
end VL
/-! VL, part XJ: l.pop(0) at the end of steps. -/
namespace VL
open PySem L2
/-- what is taken out of a list at the end of the steps -/
def mPopP (i : Nat) (r : List Stp) (f : List Val → Val → Option (Val × List Val)) (m : ME) : ME := fun ρ => match ρ[i]? with
  | some (some v) => (match getP r v with
    | some (.lst true ys) => (match m ρ with
      | .ok u _ => (match f ys u with
        | some (z, zs) => .ok z (ρ.set i (some (setP r v (.lst true zs))))
        | none => .bad)
      | .exc e ρ1 => .exc e ρ1
      | .bad => .bad)
    | _ => .bad)
  | _ => .bad
def fPop0 (ys : List Val) (u : Val) : Option (Val × List Val) := match u, ys with
  | .int i, y :: zs => if i = 0 ∧ y.fz = true then some (y, zs) else none
  | _, _ => none
theorem hu_g {k : Nat} {A : Around} (r : RoomG k A) : A.units + 1 < cLine := hu_of r.toRoom
theorem hu70 {k : Nat} {A : Around} (r : RoomG k A) : A.units + 70 < cLine := by have := r.un; omega
section
variable {G : Gam} {X : Cx} {E : WX} {o e : Expr} {i : Nat} {r : List Stp} {pos apos : Pos} {p s : Bool} {m : ME}
theorem reps_tr {W W' : Addr → Prop} {H H' : Hp} {xs : List V} {ys : List Val} {P : List Addr} (r : Reps G W H xs ys P) (tr : ∀ z u Oz, (∀ c ∈ Oz, c ∈ P) → Rep G W H z u Oz → Rep G W' H' z u Oz) : Reps G W' H' xs ys P := by
  induction ys generalizing xs P with
  | nil => cases r; exact .nil
  | cons v vs ih =>
    cases r with
    | cons r t => exact .cons (tr _ _ _ (fun c hc => List.mem_append_left _ hc) r) (ih t fun z u Oz hz => tr z u Oz fun c hc => List.mem_append_right _ (hz c hc))
theorem pop_pre {σ : L2.St} {H : Hp} {Q : VK} (hF : StpF G X.K r)
    (h : rd G E false true (mPopP i r fPop0 m) σ H Q) : tNav X.K i r σ H fun x H1 => tyV X.K "list" x H1 ∧ rd G E true true m σ H1 fun y H2 => rPopAt x [y] H2 Q := by
  obtain ⟨R, ρ, Os, rel, post⟩ := h
  unfold mPopP at post
  split at post
  rotate_left
  · exact post.elim
  rename_i v hv
  split at post
  rotate_left
  · exact post.elim
  rename_i ys hg
  have e0 : (fun a => R a ∨ a ∈ ([] : List Addr)) = R := setEq fun a => ⟨fun z => z.elim id (fun z => nomatch z), Or.inl⟩
  obtain ⟨x, y, Ow, hx, nav, rw', _, _, _⟩ := Rel.at_path (O := []) (e0.symm ▸ rel) (fun _ z => nomatch z) List.nodup_nil hF hv hg
  obtain ⟨b, xs, ey, eb⟩ : ∃ b xs, y = .ref b ∧ H b = some (.lst xs) := by
    cases rw' with
    | lstO h q => exact ⟨_, _, rfl, h⟩
  refine ⟨x, y, hx, nav, ?_, R, ρ, Os, rel, ?_⟩
  · subst ey
    exact .inl ⟨rfl, xs, .inl (.inl eb)⟩
  cases hm : m ρ with
  | bad => rw [hm] at post; exact post
  | exc e ρ1 => rw [hm] at post; exact post
  | ok u ρ1 =>
    rw [hm] at post
    dsimp only at post
    cases hf : fPop0 ys u with
    | none => rw [hf] at post; exact post.elim
    | some zz =>
    obtain ⟨z, zs⟩ := zz
    rw [hf] at post
    dsimp only at post
    obtain ⟨rfl, rfl, hfz⟩ : u = .int 0 ∧ ys = z :: zs ∧ z.fz = true := by
      unfold fPop0 at hf
      split at hf
      · split at hf
        · rename_i hc
          cases hf
          exact ⟨by rw [hc.1], rfl, hc.2⟩
        · cases hf
      · cases hf
    intro y2 H2 Os2 Ou rel2 rep2 nd2 keep2 pure2
    obtain ⟨rfl, rfl, same⟩ := pure2 rfl
    cases rep2
    have e1 : Rp R true [] = fun a => R a ∨ a ∈ ([] : List Addr) := setEq fun a => ⟨fun z => z.imp id fun z => z.2, fun z => z.imp id fun z => ⟨rfl, z⟩⟩
    rw [e1] at rel2
    obtain ⟨x', y', Ow2, hx', nav', rw2, ndw, sub, chg⟩ := Rel.at_path rel2 (fun _ z => nomatch z) List.nodup_nil hF hv hg
    rw [hx] at hx'
    cases hx'
    have ey' := Nav.det (nav.same same) nav'
    subst ey'
    subst ey
    cases rw2 with
    | @lstO _ xs2 _ P0 eb2 q =>
    cases q with
    | @cons x0 _ xs0 _ O1 O2 r1 r2 =>
    obtain rfl := r1.none_of_fz hfz
    refine ⟨b, _, 0, 0, x0, rfl, rfl, eb2, by decide, by decide, by simp [seqIndex?], rfl, ?_⟩
    have ndb := List.nodup_cons.mp ndw
    simp only [List.eraseIdx_cons_zero]
    obtain ⟨Os', r3, k3⟩ := chg b (.lst xs0) (.lst true zs) O2 rfl List.mem_cons_self (List.nodup_cons.mpr ⟨fun z => ndb.1 (by simpa using z), by simpa using ndb.2⟩) (fun c hc => .inl (List.mem_cons_of_mem _ (by simpa using hc))) fun W' tr =>
      .lstO upd_same (reps_tr r2 fun z u Oz hz => tr z u Oz fun c hc => ⟨.inl (List.mem_cons_of_mem _ (by simpa using hz c hc)), fun w => ndb.1 (by simpa [w] using hz c hc)⟩)
    have kz : Rep G (WW R Os') (upd H2 b (.lst xs0)) x0 z [] := r1.mono (fun a o ea nw => by
      obtain ⟨e2, n2⟩ := k3 a o ea (fun w => nw (.inr w)) (fun z => nomatch z)
      exact ⟨e2, fun w => w.elim (fun q => nw (.inl (.inl q))) n2⟩) fun _ h => nomatch h
    refine post x0 _ Os' [] (r3.weak fun a z => z.elim id fun z => nomatch z.2) ?_ (fun _ => List.nodup_nil) (fun a o ea nw => ?_) fun z => by cases z
    · exact kz.mono (fun a o ea nw => ⟨ea, fun w => nw (w.imp (fun z => z.elim id fun z => nomatch z.2) id)⟩) fun _ _ _ h => h
    · obtain ⟨e2, n1, n2⟩ := keep2 a o ea nw
      obtain ⟨e3, n3⟩ := k3 a o e2 n1 fun z => n2 ⟨rfl, z⟩
      exact ⟨e3, n3, fun z => nomatch z.2⟩
theorem ve_pop0 {o : Expr} (hF : StpF G X.K r) (ho : PE X o (tNav X.K i r)) (he : VE G X E true true e m) (hbase : attributeBase o "pop" X.env (eval o X.env) = eval o X.env := by rfl)
    (hfew : ((backTo pos (starEach [e] X.env)).all (fun x => !x.1) && (backToKw pos (keywordEach [] X.env)).all (fun x => x.1.isSome) && decide (([e] : List Expr).length + ([] : List Keyword).length + (if ([] : List Keyword).isEmpty then 0 else 1) < 30)) = true := by rfl)
    (hline : (apos.endLine == pos.line) = true := by rfl) (hs : starEach [e] X.env = (false, eval e X.env) :: starEach [] X.env := by rfl) (hp : (backTo pos (starEach [] X.env)).any (·.1) = false := by rfl) : VE G X E false true (.Call (.Attribute o "pop" apos) [e] [] pos) (mPopP i r fPop0 m) :=
  PE.pre (pe_bm PySem.F.plainAttrs_list PySem.F.slot_list_pop PySem.F.type_list_pop mt_popAt ho (pa_cons he pa_nil hs) hbase hfew hline hs hp) fun σ H Q h => pop_pre hF h
end
end VL
/-! VL, part XK: d[k] = v in a dict that holds what may be changed. -/
namespace VL
open PySem L2
def onceK (ks : List Val) (k : Val) : Bool := decide ((ks.filter fun z => decide (z = k)).length ≤ 1)
/-- d[k] = v, v of nobody, the dict in slot i may hold what is changed -/
def gPutQ (i : Nat) (mk : ME) : MG := fun v ρ => match mk ρ with
  | .ok kv ρ2 => if ρ2 = ρ ∧ isKey .k kv = true then (match ρ[i]? with
    | some (some (.dct true .k ks vs)) => if ks.length = vs.length ∧ ks.length < 16777216 then some (ρ.set i (some (dctOf (putD (ks.zip vs) kv v)))) else none
    | _ => none) else none
  | _ => none
/-- d[k] = e, e's value may be changed -/
def mPutO (i : Nat) (mk m : ME) : MS := fun ρ => match m ρ with
  | .ok v ρ1 => (match mk ρ1 with
    | .ok kv ρ2 => if ρ2 = ρ1 ∧ isKey .k kv = true then (match ρ1[i]? with
      | some (some (.dct true .k ks vs)) => if (ks.length = vs.length ∧ ks.length < 16777216) ∧ onceK ks kv = true then .nx (ρ1.set i (some (dctOf (putD (ks.zip vs) kv v)))) else .bad
      | _ => .bad) else .bad
    | _ => .bad)
  | .exc e ρ' => .exc e ρ'
  | .bad => .bad
section
variable {G : Gam} {X : Cx} {E : WX} {bs : List Bool} {σ0 : L2.St} {pos pos' : Pos} {p : Bool} {m : ME}
theorem any_keys {k : Key} : ∀ {kvs : List (Key × V)} {d : DL}, d.map (·.1) = kvs.map (fun q => ofKey q.1) → (d.any fun q => decide (q.1 = ofKey k)) = kvs.any fun q => decide (q.1 = k)
  | [], [], _ => rfl
  | [], _ :: _, e => by cases e
  | _ :: _, [], e => by cases e
  | q :: kvs, p :: d, e => by
    simp only [List.map_cons, List.cons.injEq] at e
    simp only [List.any_cons, any_keys e.2, e.1]
    congr 1
    by_cases h : q.1 = k
    · simp [h]
    · have h' : ¬ ofKey q.1 = ofKey k := fun z => h (ofKey_inj z)
      simp [h, h']
/-- a dict's values, one of them put -/
theorem reps_mapK {W W' : Addr → Prop} {H H' : Hp} {P0 O : List Addr} {k : Key} {y : V} {v : Val} (tr : ∀ z u Oz, (∀ b ∈ Oz, b ∈ P0 ∨ b ∈ O) → Rep G W H z u Oz → Rep G W' H' z u Oz) (ry : Rep G W H y v O) (ndO : O.Nodup) :
    ∀ {kvs : List (Key × V)} {d : DL} {P : List Addr}, d.map (·.1) = kvs.map (fun q => ofKey q.1) → Reps G W H (kvs.map (·.2)) (d.map (·.2)) P → (∀ b ∈ P, b ∈ P0) → P.Nodup → (∀ b ∈ P, b ∉ O) → (O = [] ∨ onceK (d.map (·.1)) (ofKey k) = true) →
      ∃ P', Reps G W' H' ((kvs.map fun q => if q.1 = k then (q.1, y) else q).map (·.2)) ((d.map fun q => if q.1 = ofKey k then (q.1, v) else q).map (·.2)) P' ∧ (∀ b ∈ P', b ∈ P ∨ b ∈ O) ∧ P'.Nodup
  | [], [], P, e, r, hs, nd, dj, ho => by cases r; exact ⟨[], .nil, fun b hb => (nomatch hb), List.nodup_nil⟩
  | [], _ :: _, P, e, r, hs, nd, dj, ho => by cases e
  | _ :: _, [], P, e, r, hs, nd, dj, ho => by cases e
  | q :: kvs, p :: d, P, e, r, hs, nd, dj, ho => by
    simp only [List.map_cons, List.cons.injEq] at e r
    cases r with
    | @cons _ _ _ _ O1 O2 r t =>
    obtain ⟨n1, n2, n3⟩ := List.nodup_append.mp nd
    have h2 : ∀ b ∈ O2, b ∈ P0 := fun b hb => hs b (List.mem_append_right _ hb)
    have ho2 : O = [] ∨ onceK (d.map (·.1)) (ofKey k) = true := ho.imp id fun z => by
      unfold onceK at z ⊢
      simp only [List.map_cons, List.filter_cons, decide_eq_true_eq] at z ⊢
      split at z
      · simp only [List.length_cons] at z; omega
      · exact z
    by_cases h : q.1 = k
    · have h' : p.1 = ofKey k := by rw [e.1, h]
      simp only [List.map_cons, if_pos h, if_pos h']
      rcases ho with z | z
      · obtain ⟨P', q1, q2, q3⟩ := reps_mapK tr ry ndO e.2 t h2 n2 (fun b hb => dj b (List.mem_append_right _ hb)) ho2
        subst z
        exact ⟨[] ++ P', .cons (tr _ _ _ (fun b hb => .inr hb) ry) q1, fun b hb => (q2 b (by simpa using hb)).imp (List.mem_append_right _) id, by simpa using q3⟩
      · have hz : (d.any fun q => decide (q.1 = ofKey k)) = false := by
          unfold onceK at z
          simp only [List.map_cons, List.filter_cons, decide_eq_true_eq, h', if_true, List.length_cons] at z
          have z0 : ((d.map (·.1)).filter fun z => decide (z = ofKey k)) = [] := List.length_eq_zero_iff.mp (by omega)
          rw [List.filter_eq_nil_iff] at z0
          rw [List.any_eq_false]
          intro w hw
          exact z0 w.1 (List.mem_map_of_mem hw)
        have hz2 : (kvs.any fun q => decide (q.1 = k)) = false := by rw [← any_keys e.2]; exact hz
        have m1 : (d.map fun q => if q.1 = ofKey k then (q.1, v) else q) = d := by
          rw [List.any_eq_false] at hz
          conv => rhs; rw [← List.map_id d]
          exact List.map_congr_left fun w hw => by have := hz w hw; simp only [decide_eq_true_eq] at this; rw [if_neg this]; rfl
        have m2 : (kvs.map fun q => if q.1 = k then (q.1, y) else q) = kvs := by
          rw [List.any_eq_false] at hz2
          conv => rhs; rw [← List.map_id kvs]
          exact List.map_congr_left fun w hw => by have := hz2 w hw; simp only [decide_eq_true_eq] at this; rw [if_neg this]; rfl
        rw [m1, m2]
        have t' := reps_tr t fun z u Oz hz => tr z u Oz fun c hc => .inl (h2 c (hz c hc))
        refine ⟨O ++ O2, .cons (tr _ _ _ (fun b hb => .inr hb) ry) t', fun b hb => ?_, List.nodup_append.mpr ⟨ndO, n2, fun a ha b hb e => dj b (List.mem_append_right _ hb) (e ▸ ha)⟩⟩
        rcases List.mem_append.mp hb with z | z
        · exact .inr z
        · exact .inl (List.mem_append_right _ z)
    · have h' : ¬ p.1 = ofKey k := fun z => h (ofKey_inj (e.1.symm.trans z))
      simp only [List.map_cons, if_neg h, if_neg h']
      obtain ⟨P', q1, q2, q3⟩ := reps_mapK tr ry ndO e.2 t h2 n2 (fun b hb => dj b (List.mem_append_right _ hb)) ho2
      refine ⟨O1 ++ P', .cons (tr _ _ _ (fun b hb => .inl (hs b (List.mem_append_left _ hb))) r) q1, fun b hb => ?_, List.nodup_append.mpr ⟨n1, q3, fun a ha b hb e => ?_⟩⟩
      · rcases List.mem_append.mp hb with z | z
        · exact .inl (List.mem_append_left _ z)
        · exact (q2 b z).imp (List.mem_append_right _) id
      · subst e
        exact (q2 a hb).elim (fun z => n3 a ha a z rfl) fun z => dj a (List.mem_append_left _ ha) z
theorem reps_putK {W W' : Addr → Prop} {H H' : Hp} {P O : List Addr} {k : Key} {y : V} {v : Val} {kvs : List (Key × V)} {d : DL} (tr : ∀ z u Oz, (∀ b ∈ Oz, b ∈ P ∨ b ∈ O) → Rep G W H z u Oz → Rep G W' H' z u Oz) (ry : Rep G W H y v O) (ndO : O.Nodup)
    (e : d.map (·.1) = kvs.map (fun q => ofKey q.1)) (r : Reps G W H (kvs.map (·.2)) (d.map (·.2)) P) (nd : P.Nodup) (dj : ∀ b ∈ P, b ∉ O) (ho : O = [] ∨ onceK (d.map (·.1)) (ofKey k) = true) :
    ∃ P', Reps G W' H' ((putK kvs k y).map (·.2)) ((putD d (ofKey k) v).map (·.2)) P' ∧ (∀ b ∈ P', b ∈ P ∨ b ∈ O) ∧ P'.Nodup := by
  unfold putK putD
  rw [any_keys e]
  by_cases a : (kvs.any fun q => decide (q.1 = k)) = true
  · rw [if_pos a, if_pos a]
    exact reps_mapK tr ry ndO e r (fun b hb => hb) nd dj ho
  · rw [if_neg a, if_neg a]
    have t := reps_tr r fun z u Oz hz => tr z u Oz fun c hc => .inl (hz c hc)
    refine ⟨P ++ O, ?_, fun b hb => List.mem_append.mp hb, List.nodup_append.mpr ⟨nd, ndO, fun a ha b hb e => dj a ha (e ▸ hb)⟩⟩
    rw [List.map_append, List.map_append]
    simpa using t.append (.cons (tr _ _ _ (fun b hb => .inr hb) ry) .nil)
theorem keys_putK {k : Key} {y : V} {v : Val} {kvs : List (Key × V)} {d : DL} (e : d.map (·.1) = kvs.map (fun q => ofKey q.1)) : (putD d (ofKey k) v).map (·.1) = (putK kvs k y).map (fun q => ofKey q.1) := by
  unfold putK putD
  rw [any_keys e]
  by_cases a : (kvs.any fun q => decide (q.1 = k)) = true
  · rw [if_pos a, if_pos a]
    have e1 : (d.map fun q => if q.1 = ofKey k then (q.1, v) else q).map (·.1) = d.map (·.1) := by
      rw [List.map_map]; exact List.map_congr_left fun w _ => by simp only [Function.comp]; split <;> rfl
    have e2 : (kvs.map fun q => if q.1 = k then (q.1, y) else q).map (fun q => ofKey q.1) = kvs.map (fun q => ofKey q.1) := by
      rw [List.map_map]; exact List.map_congr_left fun w _ => by simp only [Function.comp]; split <;> rfl
    rw [e1, e2, e]
  · rw [if_neg a, if_neg a, List.map_append, List.map_append, e]
    rfl
theorem vgd_putQ {i : Nat} {o ix : Expr} {mk : ME} {sp2 : Bool} (hu : X.A.units + 1 < cLine) (ho : PE X o (tVar i)) (hi : VE G X (fun _ _ _ _ => False) true sp2 ix mk)
    (ha : ∀ v, assign (.Subscript o ix pos') X.env v = (do
      let ov ← holding [v] (eval o X.env)
      let iv ← holding [v, ov] (eval ix X.env)
      standAt pos'
      holding [v, ov, iv] (setItem ov iv v)
      release [v, ov, iv] []) := by intro _; rfl) : VGd G X bs σ0 (.Subscript o ix pos') (gPutQ i mk) := by
  refine PG.pre (pg_sub ho hi (set_dict hu) ha) fun y σ H Q ⟨R, ρ, Os, v, hr, rel, rep, pin, post⟩ => ?_
  unfold gPutQ at post
  cases hmk : mk ρ with
  | bad => rw [hmk] at post; exact post.elim
  | exc e ρ2 => rw [hmk] at post; exact post.elim
  | ok kv ρ2 =>
  rw [hmk] at post
  dsimp only at post
  by_cases hp : ρ2 = ρ ∧ isKey .k kv = true
  rotate_left
  · rw [if_neg hp] at post; exact post.elim
  rw [if_pos hp] at post
  obtain ⟨rfl, hkey⟩ := hp
  split at post
  rotate_left
  · exact post.elim
  rename_i ρ' hgv
  split at hgv
  rotate_left
  · cases hgv
  rename_i ks vs hv
  split at hgv
  rotate_left
  · cases hgv
  rename_i hc
  cases hgv
  obtain ⟨hl, hlen⟩ := hc
  obtain ⟨x, hx, rv⟩ := rel.rep i _ hv
  refine ⟨x, hx, R, ρ2, Os, rel, ?_⟩
  rw [hmk]
  intro kx H2 Os2 Ok rel2 rk ndk k2 pure
  obtain ⟨_, rfl, same⟩ := pure rfl
  have rel3 : Rel G R H2 σ ρ2 Os2 := rel2.weak fun a z => .inl z
  obtain ⟨kk, rfl, rfl⟩ := isKey_k hkey rk
  obtain ⟨x', hx', rv3⟩ := rel3.rep i _ hv
  rw [hx] at hx'
  cases hx'
  have rep3 : Rep G (WW R Os2) H2 y v [] := rep.mono (fun a o e nw => ⟨same a o e, nw⟩) fun a z => (nomatch z)
  generalize hOi : Os2 i = Oi at rv3
  cases rv3 with
  | @dkO a kvs _ _ P ea hk q =>
    refine ⟨a, _, rfl, DPut.k ea ?_, ?_⟩
    · have : kvs.length = ks.length := by rw [hk, List.length_map]
      rw [this, sizeLine_eq]; omega
    have e0 : R = fun a => R a ∨ a ∈ ([] : List Addr) := setEq fun a => ⟨.inl, fun z => z.elim id fun z => nomatch z⟩
    obtain ⟨z1, z2⟩ := zip_maps hl
    have hnd := rel3.nd i
    rw [hOi] at hnd
    obtain ⟨nd1, nd2⟩ := List.nodup_cons.mp hnd
    have ek : (ks.zip vs).map (·.1) = kvs.map (fun q => ofKey q.1) := by rw [z1, hk]
    have qq : Reps G (WW R Os2) H2 (kvs.map (·.2)) ((ks.zip vs).map (·.2)) P := by rw [z2]; exact q
    obtain ⟨P', _, hP', ndP'⟩ := reps_putK (k := kk) (fun z u Oz _ r => r) rep3 List.nodup_nil ek qq nd2 (fun b _ z => nomatch z) (.inl rfl)
    obtain ⟨r2, k3⟩ := Rel.root (O := []) (P := P) (P' := P') (ob' := .dK (putK kvs kk y)) (w := dctOf (putD (ks.zip vs) (ofKey kk) v)) (e0 ▸ rel3) (fun a z => nomatch z) hv hx hOi ea hP' ndP' fun tr same2 => by
      refine .dkO same2 (keys_putK ek) ?_
      exact reps_tr ‹_› fun z u Oz hz r => tr z u Oz (fun c hc => hP' c (hz c hc)) (e0 ▸ r)
    refine post σ _ _ pin rfl r2 fun b o e nw => ?_
    obtain ⟨e4, n3⟩ := k3 b o (same b o e) nw fun z => nomatch z
    exact ⟨e4, n3, id⟩
theorem vs_putO {i : Nat} {o e ix : Expr} {mi : ME} {sp2 : Bool} (hu : X.A.units + 1 < cLine) (ho : PE X o (tVar i)) (hi : VE G X E true sp2 ix mi) (he : VE G X E p true e m) (hs : swapsWithSole [.Subscript o ix pos'] e pos.line X.env = pure false := by rfl) (hw : swappedStores [.Subscript o ix pos'] e X.env = pure none := by rfl)
    (h1 : (assignEach [.Subscript o ix pos'] X.env).map (·.2) = [assign (.Subscript o ix pos') X.env] := by rfl)
    (ha : ∀ v, assign (.Subscript o ix pos') X.env v = (do
      let ov ← holding [v] (eval o X.env)
      let iv ← holding [v, ov] (eval ix X.env)
      standAt pos'
      holding [v, ov, iv] (setItem ov iv v)
      release [v, ov, iv] []) := by intro _; rfl) : VS G X E bs σ0 (.Assign [.Subscript o ix pos'] e pos) (mPutO i mi m) := by
  refine PS.pre (ps_asg he (pg_sub ho hi (set_dict hu) ha) hs hw h1) fun D σ H ⟨R, ρ, Os, rel, pin, post⟩ => ⟨R, ρ, Os, rel, ?_⟩
  refine PostS.post (s := true) (f := fun v ρ1 => match mi ρ1 with
    | .ok kv ρ2 => if ρ2 = ρ1 ∧ isKey .k kv = true then (match ρ1[i]? with
      | some (some (.dct true .k ks vs)) => if (ks.length = vs.length ∧ ks.length < 16777216) ∧ onceK ks kv = true then .nx (ρ1.set i (some (dctOf (putD (ks.zip vs) kv v)))) else .bad
      | _ => .bad) else .bad
    | _ => .bad) pin post fun v ρ1 y H1 Os1 O _ post rel1 rep nd k => ?_
  have e0 : Rp R true O = fun a => R a ∨ a ∈ O := setEq fun a => ⟨fun z => z.imp id fun z => z.2, fun z => z.imp id fun z => ⟨rfl, z⟩⟩
  rw [e0] at rel1 rep
  have nO : ∀ a ∈ O, ¬ R a := fun a ha z => let ⟨o, e, nw⟩ := rel.hr a z; (k a o e nw).2.2 ⟨rfl, ha⟩
  cases hmi : mi ρ1 with
  | bad => rw [hmi] at post; exact post.elim
  | exc ee ρ2 => rw [hmi] at post; exact post.elim
  | ok kv ρ2 =>
  rw [hmi] at post
  dsimp only at post
  by_cases hp : ρ2 = ρ1 ∧ isKey .k kv = true
  rotate_left
  · rw [if_neg hp] at post; exact post.elim
  rw [if_pos hp] at post
  obtain ⟨rfl, hkey⟩ := hp
  split at post
  rotate_left
  · exact post.elim
  rename_i ks vs hv
  by_cases hc : (ks.length = vs.length ∧ ks.length < 16777216) ∧ onceK ks kv = true
  rotate_left
  · rw [if_neg hc] at post; exact post.elim
  rw [if_pos hc] at post
  obtain ⟨⟨hl, hlen⟩, honce⟩ := hc
  obtain ⟨x, hx, rv⟩ := rel1.rep i _ hv
  refine ⟨x, hx, fun a => R a ∨ a ∈ O, ρ2, Os1, rel1, ?_⟩
  rw [hmi]
  intro kx H2 Os2 Ok rel2 rk ndk k2 pure
  obtain ⟨_, rfl, same⟩ := pure rfl
  have rel3 : Rel G (fun a => R a ∨ a ∈ O) H2 σ ρ2 Os2 := rel2.weak fun a z => .inl z
  obtain ⟨kk, rfl, rfl⟩ := isKey_k hkey rk
  obtain ⟨x', hx', rv3⟩ := rel3.rep i _ hv
  rw [hx] at hx'
  cases hx'
  have rep3 : Rep G (WW (fun a => R a ∨ a ∈ O) Os2) H2 y v O := rep.mono (fun a o e nw => ⟨same a o e, nw⟩) fun a _ o e => same a o e
  generalize hOi : Os2 i = Oi at rv3
  cases rv3 with
  | @dkO a kvs _ _ P ea hk q =>
    refine ⟨a, _, rfl, DPut.k ea ?_, ?_⟩
    · have : kvs.length = ks.length := by rw [hk, List.length_map]
      rw [this, sizeLine_eq]; omega
    obtain ⟨z1, z2⟩ := zip_maps hl
    have hnd := rel3.nd i
    rw [hOi] at hnd
    obtain ⟨nd1, nd2⟩ := List.nodup_cons.mp hnd
    have djP : ∀ b ∈ P, b ∉ O := fun b hb z => rel3.dr i b (by rw [hOi]; exact List.mem_cons_of_mem _ hb) (.inr z)
    have ek : (ks.zip vs).map (·.1) = kvs.map (fun q => ofKey q.1) := by rw [z1, hk]
    have qq : Reps G (WW (fun a => R a ∨ a ∈ O) Os2) H2 (kvs.map (·.2)) ((ks.zip vs).map (·.2)) P := by rw [z2]; exact q
    obtain ⟨P', _, hP', ndP'⟩ := reps_putK (k := kk) (fun z u Oz _ r => r) rep3 (nd rfl) ek qq nd2 djP (.inr (by rw [z1]; exact honce))
    obtain ⟨r2, k3⟩ := Rel.root (P := P) (P' := P') (ob' := .dK (putK kvs kk y)) (w := dctOf (putD (ks.zip vs) (ofKey kk) v)) rel3 nO hv hx hOi ea hP' ndP' fun tr same2 => by
      refine .dkO same2 (keys_putK ek) ?_
      exact reps_tr ‹_› fun z u Oz hz r => tr z u Oz (fun c hc => hP' c (hz c hc)) r
    refine post σ _ _ pin r2 fun b o e nw => ?_
    obtain ⟨e1, n1, n2⟩ := k b o e nw
    obtain ⟨e2, n3⟩ := k3 b o (same b o e1) n1 fun z => n2 ⟨rfl, z⟩
    exact ⟨e2, n3, id⟩
end
end VL
/-! VL, part YA: own exceptions: an __init__ that says super().__init__('..') first. -/
namespace VL
open PySem PySem.Spec PyProof.Rows L2
/-- what the written part says of an __init__ with super() -/
structure SupI (P : Program) (K : PySem.W.Frag) (C D f cda cc : Addr) (B ini newId : String) (bmB : List Value) (fd : FuncData) (ar : PySem.Arg) : Prop where
  kf : PySem.W.KxsFacts B ini
  fb : ExcBaseFacts B newId ini bmB
  fn : ∃ oc od osl, K.lookup f = some ⟨oc, od, .func fd, osl⟩
  par : (fd.params.posonlyargs ++ fd.params.args).head? = some ar
  code : ∃ ccl cdd vs ccs file tf, K.lookup cda = some ⟨ccl, cdd, .fields vs, ccs⟩ ∧ vs[2]? = some (.str file tf) ∧ ((P.main.file : Str) == file) = true
  cell : ∃ cl cld csl, K.lookup cc = some ⟨cl, cld, .cell (some (.ref D)), csl⟩
  cls : ∃ cdD, PySem.W.clsIn K D = some cdD
  sub : PySem.W.mroIn K C (.ref D) = some true
  top : (P.main.scope.names.lookup ("super" : Str)).isSome = false
  sup : PySem.W.ks_superIn K C D "__init__" = some (some (.builtin ini))
  isB : PySem.W.subIn K (.ref C) (.type B) = some true
  ini : PySem.W.excInitIn K C bmB newId = true
  stat : PySem.W.nsIn K PySem.cStatics "thirdparty.any" = some none
section
variable {X : Cx} {pins : List (Addr × Obj)} {σ : L2.St} {H : Hp} {s : Shared} {a C D f cda cc : Addr} {B ini newId : String} {bmB : List Value} {fd : FuncData} {ar : PySem.Arg} {i : Nat} {m : Str} {j : Nat} {body : List Stmt} {p0 p1 p2 p3 p4 p5 : Pos} {pl : Sem Bool} {E : Value → Shared → Prop}
theorem at_superinit (T : SupI X.prog X.K C D f cda cc B ini newId bmB fd ar) (I : Inv X pins σ H s) (ea : H a = some (exo a C none)) (hx : X.ex = [])
    (hg : Gl X "super") (hm : X.mg "super" = none) (hkc : X.env.kindOf "__class__" = some .free) (hcells : X.env.cells.lookup ("__class__" : Str) = some cc) (hfu : X.env.func = some f) (hco : X.env.code = .ref cda)
    (hN : X.N[i]? = some ar.arg) (hσ : σ[i]? = some (some (.ref a))) (hka : X.env.kindOf ar.arg = some .local)
    (hi : interactive X.env = false) (hs : swapsWith (.Call (.Attribute (.Call (.Name "super" p0) [] [] p1) "__init__" p2) [.Constant (.str m) j p3] [] p4) none p5.line X.env = pure false)
    (he : eval (.Call (.Attribute (.Call (.Name "super" p0) [] [] p1) "__init__" p2) [.Constant (.str m) j p3] [] p4) X.env = (do
      let ov ← attributeBase (.Call (.Name "super" p0) [] [] p1) "__init__" X.env (eval (.Call (.Name "super" p0) [] [] p1) X.env)
      standAt p2.atName
      let (f, first) ← holding [ov] (getMethod ov "__init__" pl)
      callWith p4 f first (backTo p4 (starEach [.Constant (.str m) j p3] X.env)) [])) :
    _root_.PySem.wpAt (model X.prog X.w) X.A (.func body X.env) (exec (.Expr (.Call (.Attribute (.Call (.Name "super" p0) [] [] p1) "__init__" p2) [.Constant (.str m) j p3] [] p4) p5) X.env)
      (fun fl s' => fl = .next ∧ Inv X pins σ H s') E s := by
  refine ks_wpAt_Expr_any (ks_wpAt_MethodCall (pl := pl) ?_ he) hi hs
  obtain ⟨oc, od, osl, lk⟩ := T.fn
  obtain ⟨ccl, cdd, vs, ccs, file, tf, hcode, hvs, hfile⟩ := T.code
  obtain ⟨cl, cld, csl, hcell⟩ := T.cell
  obtain ⟨cdD, hD⟩ := T.cls
  have KX := I.kIn
  obtain ⟨mb, b1, b2⟩ := I.mod.blt
  obtain ⟨mm, hns, hlk⟩ := I.loc
  obtain ⟨u0, ru, lk0⟩ := hlk i ar.arg _ hN hσ (.inl hka)
  obtain rfl : u0 = Value.ref a := ru
  have hv : mm ar.arg = some (.ref a) := by
    rcases lk0 with ⟨_, z⟩ | ⟨z, _⟩
    · exact z
    · rw [hka] at z; rcases z with z | z <;> cases z
  obtain ⟨oD, hD1, hD2⟩ : ∃ oD, s.heap.get? D = some oD ∧ oD.data = .cls cdD := by
    unfold PySem.W.clsIn at hD
    split at hD
    · rename_i c d cd' sl ho
      cases hD
      exact ⟨_, KX _ _ ho, rfl⟩
    · cases hD
  obtain ⟨t1, hat⟩ := exo_at I.hok ea
  have cls1 : ∃ nm N' qn bs bm hdct sn sub ab col dd k0 k1 k2 k3 k5, s.heap.get? C = some (excClassObj nm qn C N' bs bm hdct sn sub ab col dd k0 k1 k2 k3 k5 newId) := by
    obtain ⟨nm, N', qn, bs, bm, hdct, sn, sub, ab, col, dd, k0, k1, k2, k3, k5, hC, _⟩ := PySem.W.excInit_of KX T.ini
    exact ⟨nm, N', qn, bs, bm, hdct, sn, sub, ab, col, dd, k0, k1, k2, k3, k5, hC⟩
  refine ks_wpAt_super_base hg hkc (by decide) hfu (KX _ _ lk) rfl T.par hco (KX _ _ hcode) rfl hvs hfile T.top ?_
  refine PySem.W.ks_loadName_global I.ok.kind hg (Calls.loadGlobal_builtin (by rw [I.ok.glob]; exact I.mod.glob.keeps I.bk) hm (by rw [I.ok.blt]; exact b1.keeps I.bk) ((b2 "super" (by decide)).trans PyProof.Rows.Boot.«super») ⟨rfl, ?_⟩)
  refine wpAny_loadName_free I.ok.kind hkc hcells ⟨_, KX _ _ hcell, rfl⟩ ?_
  refine wpAny_loadName_local I.ok.kind hka hns hv ?_
  obtain ⟨hh, g, dr, tk, os⟩ := s
  refine ks_wpAny_isType_cls hD1 hD2 ⟨rfl, ?_⟩
  refine ks_wpAny_call_super hD1 hD2 hat rfl (fun c e => by cases e) (PySem.W.looks_mroIn KX T.sub) (fun h' e k => ?_)
  have I2 : Inv X pins σ H ⟨h', g, dr, tk, os⟩ := I.kept k
  have KX2 := I2.kIn
  have hat2 := k _ _ hat
  have hCne : a ≠ C := by
    obtain ⟨nm, N', qn, bs, bm, hdct, sn, sub, ab, col, dd, k0, k1, k2, k3, k5, hC⟩ := cls1
    intro z
    subst z
    have hC' : hh.get? a = _ := hC
    rw [show hh.get? a = some _ from hat] at hC'
    cases hC'
  have II : PySem.W.InstAt h' a _ C none := ⟨hat2, rfl, rfl, trivial⟩
  obtain ⟨cdC, hcC⟩ : ∃ cd, PySem.W.clsIn X.K C = some cd := by
    have := T.sup
    unfold PySem.W.ks_superIn at this
    cases q : PySem.W.clsIn X.K C with
    | none => rw [q] at this; cases this
    | some cd => exact ⟨cd, rfl⟩
  have hsup := T.sup
  unfold PySem.W.ks_superIn at hsup
  rw [hcC] at hsup
  refine PySem.W.kxs_getMethod T.kf e (PySem.W.looks_opaque KX2 T.stat) (l₀ := cdC.mro) (fun A Q E s k q => wpAny_bind ((PySem.W.looks_clsIn KX2 hcC) A _ E s k (wpAny_pure q))) rfl KX2 hsup (II.type.andThen (PySem.W.looks_subIn KX2 T.isB)) hCne (by decide) ?_
  have k3 : ∀ b u, h'.get? b = some u → (h'.push (PySem.W.kxs_mw ini a)).get? b = some u := fun b u e => Heap.get?_push_of_some _ e
  have I3 : Inv X pins σ H ⟨h'.push (PySem.W.kxs_mw ini a), g, dr, tk + 1, os⟩ := I2.kept k3
  have hu3 : (h'.push (PySem.W.kxs_mw ini a)).get? h'.objs.size = some (PySem.W.kxs_mw ini a) := Heap.get?_push_at rfl rfl
  have Hu : H h'.objs.size = none := I2.hok.fresh (Nat.le_refl _)
  have I3p : Inv X ((h'.objs.size, PySem.W.kxs_mw ini a) :: pins) σ H ⟨h'.push (PySem.W.kxs_mw ini a), g, dr, tk + 1, os⟩ := I3.pins_of fun p hp => by
    rcases List.mem_cons.mp hp with rfl | hp
    · exact ⟨hu3, Hu, fun z => absurd I2.lt (by rw [← z]; exact Nat.lt_irrefl _), I2.nofs (Nat.le_refl _), fun v z => by cases z⟩
    · exact I3.pin p (List.mem_append_right _ hp)
  refine PySem.W.kxs_callWith (i := ini) (x := a) (by rfl) (PySem.Calls.evalArgs_plain ?_)
  have ha : PA X [.Constant (.str m) j p3] (tCons (tC (.str m)) tNil) := pa_cons pe_str pa_nil
  refine thn (ha.run p4 _ _ σ H (fun vs H1 => vs = [V.str m] ∧ H = H1) I3p ⟨rfl, rfl⟩) fun us s4 ⟨vs1, H1, I4, r4, ev, eH⟩ => ?_
  subst eH
  have hu4 := (I4.pin (h'.objs.size, PySem.W.kxs_mw ini a) (List.mem_append_right _ List.mem_cons_self)).1
  refine ⟨hu4, ?_⟩
  have I5 : Inv X pins σ H s4 := I4.pins_of fun p hp => I4.pin p (List.mem_append_right _ (List.mem_cons_of_mem _ hp))
  have hz : us.length ≤ sizeLine := by
    have e := r4.length
    rw [ev] at e
    rw [← e, sizeLine_eq]
    show 1 ≤ 16777216
    decide
  obtain ⟨t4, he4⟩ := exo_at I5.hok ea
  obtain ⟨nm, N', qn, bs, bm, hdct, sn, sub, ab, col, dd, k0, k1, k2, k3', k5, hC, hT⟩ := PySem.W.excInit_of I5.kIn T.ini
  obtain ⟨h4, g4, d4, tk4, os4⟩ := s4
  show wpAny (model X.prog X.w) X.A (call (.ref h'.objs.size) us) _ _ _
  refine wpAny_call (codeAny_of_tree ?_)
  show wpAny _ X.A.in1 (callAny (.ref h'.objs.size) ⟨us, []⟩) _ _ _
  simp only [callAny]
  refine wpAny_bind (wpAny_load hu4 ?_)
  simp only [PySem.W.kxs_mw, show (Value.type "method-wrapper" == Value.type "method" || Value.type "method-wrapper" == Value.type "builtin_function_or_method" || Value.type "method-wrapper" == Value.type "method-wrapper") = true by decide, if_true]
  refine PySem.W.KFB.if_so (by decide) ?_
  refine wpAny_bind (PySem.W.check_bound_init T.fb.toExcCallFacts hC he4 rfl ?_)
  refine wpAny_bind (wpAny_pure (wpAny_pure ?_))
  refine ⟨plainId_quiet T.fb.init.plain _, codeAny_builtin T.fb.initEntry ?_⟩
  refine PySem.W.exc_init_tree (cls := .ref C) (t0 := t4) (dv := none) (c2 := .none) (c3 := .none) (b4 := .bool false) he4 hz fun h5 k4 e5 _ => ?_
  have J := I5.write (t' := tk4) (x := a) (e := a) (o := exo a C none) (by rw [ea]; exact True.intro) (.inl rfl) k4 ⟨_, e5⟩ (exo_ok e5)
  have eu : upd H a (exo a C none) = H := by
    funext b
    by_cases hb : b = a
    · rw [hb, upd_same, ea]
    · rw [upd_ne hb]
  rw [eu] at J
  exact ⟨trivial, J⟩
end
end VL
/-! VL, part YB: the promise of such an __init__. -/
namespace VL
open PySem PySem.Spec PyProof.Rows L2
/-- the context of a def with one captured name -/
def cxE (CX : CXT) (P : Program) (w : World) (K : PySem.W.Frag) (mg : Str → Option Value) (base : Heap) (N : List Str) (qual : Str) (scope : Scope) (f : Addr) (cd : Value) (cl : List (Str × Addr)) (A : Around) (outer : List Env) (s : Shared) (H : Hp) (E : XK) : Cx :=
  let env := PySem.W.envX qual scope s.heap.objs.size f cd cl
  { cxOf CX P w K mg base N qual scope f cd A outer s H E with A := A.deeper env, env := env, stack := env :: outer, fn := fun _ => false, xe := fun e s' => wpAny (model P w) (A.deeper env) (leaving env e) (fun _ s'' => CX outer H s E e s'') (fun e' s'' => CX outer H s E e' s'') s' }
structure SeI (x0 x1 : Str) (sc : Scope) : Prop where
  kind : sc.kind = .function
  co : sc.isCoroutine = false
  gen : sc.isGenerator = false
  ne : x0 ≠ x1
  l0 : sc.names.lookup x0 = some .local
  l1 : sc.names.lookup x1 = some .local
  fr : sc.names.lookup ("__class__" : Str) = some .free
  sup : sc.names.lookup ("super" : Str) = some .globalImplicit
  nocell : ∀ y ∈ sc.names, y.2 ≠ .cell
  only : ∀ y, sc.names.lookup y = some .free → y = "__class__"
theorem inv_startE {CX : CXT} {P : Program} {w : World} {K : PySem.W.Frag} {mg : Str → Option Value} {base : Heap} {qual x0 x1 : Str} {scope : Scope} {f cc : Addr} {cd : Value} {A : Around} {outer : List Env} {s : Shared} {H : Hp} {E : XK} {v0 v1 : V} {u0 u1 : Value} {h1 : Heap} {tk : Nat} {cl : Value} {cld : Option Addr} {csl : Array (Option Value)} {cv : Option Value}
    (S : SeI x0 x1 scope) (hd : A.handled = none) (e0 : Env0 P w K mg base A outer s H) (hc : K.lookup cc = some ⟨cl, cld, .cell cv, csl⟩) (r0 : RelV v0 u0) (r1 : RelV v1 u1)
    (hns : h1.Ns s.heap.objs.size (fun x => ([(x0, u0), (x1, u1)] : List (Str × Value)).reverse.lookup x)) (hk : ∀ b o, s.heap.get? b = some o → h1.get? b = some o) :
    Inv (cxE CX P w K mg base [x0, x1] qual scope f cd [("__class__", cc)] A outer s H E) [] [some v0, some v1] H { s with heap := h1, toks := tk } := by
  have KX : K.In base := e0.mod.kin
  have hcb := KX _ _ hc
  have look1 : ∀ y c, ([(("__class__" : Str), cc)] : List (Str × Addr)).lookup y = some c → y = "__class__" ∧ c = cc := fun y c h => by
    simp only [List.lookup] at h
    split at h
    · rename_i q; cases h; exact ⟨by simpa using q, rfl⟩
    · cases h
  refine ⟨⟨e0.mod, S.kind, rfl, rfl, Nat.le_refl _, fun y z c h1 h2 => ?_, fun y hy => ?_, fun y c h => (nomatch h), fun _ => hd, Around.frames_deeper e0.frames, .inr ⟨rfl, rfl⟩, fun b z => (nomatch z), e0.bs, e0.bsz, (fun b _ _ z => nomatch z), fun b z => (nomatch z), e0.funs, e0.frf⟩,
    rfl, e0.bare, Un.kept hk, ⟨_, hns, fun i y v g1 g2 g3 => ?_⟩, fun y c h => ?_, e0.hok.fresh (Nat.le_refl _), fun y c h => ?_, fun p hp => (nomatch hp), e0.hok.kept hk, rfl⟩
  · exact (look1 y c h1).1.trans (look1 z c h2).1.symm
  · have hy : scope.names.lookup y = some .cell ∨ scope.names.lookup y = some .free := hy
    rcases hy with hy | hy
    · exact absurd rfl (S.nocell _ (PySem.mem_of_lookup hy))
    · rw [S.only y hy]; exact ⟨cc, rfl⟩
  · match i with
    | 0 =>
      have g1 : some x0 = some y := g1
      have g2 : some (some v0) = some (some v) := g2
      cases g1; cases g2
      refine ⟨u0, r0, .inl ⟨S.l0, ?_⟩⟩
      have e : (x0 == x1) = false := by simpa using S.ne
      simp [List.lookup, e]
    | 1 =>
      have g1 : some x1 = some y := g1
      have g2 : some (some v1) = some (some v) := g2
      cases g1; cases g2
      refine ⟨u1, r1, .inl ⟨S.l1, ?_⟩⟩
      simp [List.lookup]
    | i + 2 =>
      have g1 : (none : Option Str) = some y := g1
      cases g1
  · obtain ⟨_, rfl⟩ := look1 y c h
    exact ⟨_, _, hk _ _ (e0.bs _ _ hcb).1, rfl⟩
  · obtain ⟨_, rfl⟩ := look1 y c h
    exact (e0.bs _ _ hcb).2
/-- what such an __init__ promises: the field is set -/
def spE (K : PySem.W.Frag) (C : Addr) (F : Str) : Sp := fun vs H Q _ => ∃ a y, vs = [.ref a, y] ∧ H a = some (exo a C none) ∧ ∀ dx, H dx = none → dx ≠ a → Q .non (upd (upd H dx (exd dx [(F, y)])) a (exo a C (some dx)))
theorem initE_ok {CX : CXT} {P : Program} {w : World} {K : PySem.W.Frag} {mg : Str → Option Value} {base : Heap} {k : Nat} {f C D cda cc : Addr} {name qual x0 x1 F m : Str} {params : Arguments} {scope : Scope} {dV kV doc pm ct oc : Value} {an od : Option Addr} {osl : Array (Option Value)} {j : Nat} {p0 p1 p2 p3 p4 p5 q0 q1 q2 q3 : Pos} {pl : Sem Bool} {B ini newId : String} {bmB : List Value} {ar : PySem.Arg} {cl : Value} {cld : Option Addr} {csl : Array (Option Value)}
    {fd : FuncData} (hfd : fd = PySem.W.ksFn name qual params [.Expr (.Call (.Attribute (.Call (.Name "super" p0) [] [] p1) "__init__" p2) [.Constant (.str m) j p3] [] p4) p5, .Assign [.Attribute (.Name x0 q0) F q1] (.Name x1 q2) q3] scope dV kV doc pm an (.ref cda) ct cc)
    (lk : K.lookup f = some ⟨oc, od, .func fd, osl⟩) (hcd : PySem.W.codeIn K (.ref cda) qual = true) (S : SeI x0 x1 scope) (T : SupI P K C D f cda cc B ini newId bmB fd ar) (har : ar.arg = x0) (TC : OexC K C)
    (hno : PySem.W.findIn K (.ref C) F = some none) (hm : mg "super" = none) (hcell : K.lookup cc = some ⟨cl, cld, .cell (some (.ref D)), csl⟩)
    (hd0 : (x0 == ("__debug__" : Str)) = false) (hd1 : (x1 == ("__debug__" : Str)) = false) (hc0 : (x0 == ("__classdict__" : Str)) = false) (hc1 : (x1 == ("__classdict__" : Str)) = false)
    (hs1 : ∀ env : Env, swapsWith (.Call (.Attribute (.Call (.Name "super" p0) [] [] p1) "__init__" p2) [.Constant (.str m) j p3] [] p4) none p5.line env = pure false)
    (hs2 : ∀ env : Env, swapsWith (.Name x1 q2) (some (.Attribute (.Name x0 q0) F q1)) q3.line env = pure false)
    (he : ∀ env : Env, eval (.Call (.Attribute (.Call (.Name "super" p0) [] [] p1) "__init__" p2) [.Constant (.str m) j p3] [] p4) env = (do
      let ov ← attributeBase (.Call (.Name "super" p0) [] [] p1) "__init__" env (eval (.Call (.Name "super" p0) [] [] p1) env)
      standAt p2.atName
      let (f, first) ← holding [ov] (getMethod ov "__init__" pl)
      callWith p4 f first (backTo p4 (starEach [.Constant (.str m) j p3] env)) [])) :
    FnOk P w K mg base CX (k + 1) f fd [x0, x1] (spE K C F) := by
  subst hfd
  refine ⟨fun vs H Q E ⟨a, y, e, _⟩ => by rw [e]; rfl, fun A outer s H args us vs Q E hr e0 hb r hsp => ?_⟩
  obtain ⟨a, y, rfl, ea, hq⟩ := hsp
  obtain ⟨u0, us1, rfl, r0, r1⟩ : ∃ u0 us1, us = u0 :: us1 ∧ RelV (.ref a) u0 ∧ Vals [y] us1 := by
    cases r with | cons a b => exact ⟨_, _, rfl, a, b⟩
  obtain ⟨u1, rfl, ry⟩ : ∃ u1, us1 = [u1] ∧ RelV y u1 := by
    cases r1 with | cons a b => cases b; exact ⟨_, rfl, a⟩
  have here : ∀ (b : Addr) (o : Obj), base.get? b = some o → s.heap.get? b = some o := fun b o e => (e0.bs b o e).1
  have KX : K.In s.heap := e0.mod.kin.keeps here
  refine ks_codeAny_call_defAt hr.depth (KX _ _ lk) rfl (e0.mod.nolimit.keeps here) (PySem.W.codeRec_of KX hcd) rfl hb S.nocell (fun z hz => ?_) (fun h1 hns hk => ?_) S.co S.gen S.kind
  · simp at hz
    rcases hz with rfl | rfl
    · exact S.l0
    · exact S.l1
  have I := inv_startE (CX := CX) (qual := qual) (f := f) (cd := .ref cda) (E := E) (tk := s.toks + [(x0, u0), (x1, u1)].length) S hr.hd e0 hcell r0 ry hns hk
  refine ks_wpAt_execs_cons (ks_wpAt_mono (at_superinit (pl := pl) (i := 0) (a := a) T I ea rfl S.sup hm S.fr rfl rfl rfl (by rw [har]; rfl) rfl (by rw [har]; exact S.l0) I.quiet (hs1 _) (he _)) (fun fl s1 hh => ?_) fun _ _ z => z)
  obtain ⟨rfl, J⟩ := hh
  have P0 : PE (cxE CX P w K mg base [x0, x1] qual scope f (.ref cda) [("__class__", cc)] A outer s H E) (.Name x0 q0) (tVar 0) := pe_var rfl (.inl S.l0) hd0 hc0
  have P1 : PE (cxE CX P w K mg base [x0, x1] qual scope f (.ref cda) [("__class__", cc)] A outer s H E) (.Name x1 q2) (tVar 1) := pe_var rfl (.inl S.l1) hd1 hc1
  have st := (ps_ost (f := F) (p' := q1) (pos := q3) P0 P1 (hs2 _)).run [] s1 [some (.ref a), some y] H { nx := fun _ H' => Q .non H', rt := Q } J ⟨y, rfl, .ref a, rfl, a, C, rfl, TC, hno, .inl ⟨ea, fun dx n ne => hq dx n ne⟩⟩
  refine ks_wpAt_execs_cons (ks_wpAt_mono (wpAt_of_wpAny st) (fun fl s2 hh => ?_) fun _ _ z => z)
  cases fl with
  | next =>
    obtain ⟨σ', H', J2, q⟩ := hh
    refine wpAt_of_wpAny ?_
    show wpAny _ _ (execs [] _) _ _ _
    rw [execs_nil]
    exact wpAny_pure ⟨V.non, H', J2.os, J2.bare, J2.base, J2.hok, rfl, q⟩
  | ret u =>
    obtain ⟨v, σ', H', J2, rv, q⟩ := hh
    exact ⟨v, H', J2.os, J2.bare, J2.base, J2.hok, rv, q⟩
  | brk => obtain ⟨_, _, _, q⟩ := hh; exact q.elim
  | cont => obtain ⟨_, _, _, q⟩ := hh; exact q.elim
end VL
/-! VL, part YC: raise C(e), C such a class. -/
namespace VL
open PySem PySem.Spec PyProof.Rows L2
/-- raise C(e): the exception of the class n with one field -/
def mRaise (n : Nat) (F : Str) (m : ME) : MS := fun ρ => match m ρ with
  | .ok v ρ1 => if v.fz = true then .exc ⟨.fn n, [F], [v]⟩ ρ1 else .bad
  | .exc e ρ1 => .exc e ρ1
  | .bad => .bad
section
variable {G : Gam} {X : Cx} {E : WX} {bs : List Bool} {σ0 : L2.St} {p : Bool} {m : ME} {n k : Nat} {x F : Str} {C fI : Addr} {fd : FuncData} {ps : List Str} {e : Expr} {pn pos pos' : Pos}
theorem vs_raise (hc : X.calm = true) (tk : Takes X E) (TC : OexC X.K C) (iC : PySem.W.findIn X.K (.ref C) "__init__" = some (some (.ref fI))) (tI : PySem.W.typeIn X.K (.ref fI) = some (.type "function"))
    (F1 : FnOk X.prog X.w X.K X.mg X.base (L2.CX X.prog X.w) k fI fd ps (spE X.K C F)) (hr : Room (k + 1) X.A) (hb : Binds X.K fd ps []) (hg : Gl X x) (hm : X.mg x = some (.ref C)) (hC : G.fa n = some C) (he : VE G X E p true e m)
    (hdb : (x == ("__debug__" : Str)) = false := by decide) (hse : starEach [e] X.env = (false, eval e X.env) :: starEach [] X.env := by rfl) (hpl : (backTo pos (starEach [] X.env)).any (·.1) = false := by rfl) :
    VS G X E bs σ0 (.Raise (some (.Call (.Name x pn) [e] [] pos)) none pos') (mRaise n F m) := by
  have hx : Passes (L2.CX X.prog X.w) X (fun _ _ _ => False) := fun pins σ H s e s' I c => tk e s' (XE.of_call I (fun _ _ _ h => h.elim) c)
  refine PS.pre (ps_raise hc tk (pmk_oex (dvs := []) TC iC tI F1 hr hb .nil hx hg hm (pa_cons he pa_nil hse) hdb hse hpl)) fun D σ H ⟨R, ρ, Os, rel, pin, post⟩ => ?_
  refine ⟨R, ρ, Os, rel, ?_⟩
  refine PostS.post (s := true) (f := fun v ρ1 => if v.fz = true then .exc ⟨.fn n, [F], [v]⟩ ρ1 else .bad) pin post fun v ρ1 y H1 Os1 O _ post rel1 rep nd kp => ?_
  by_cases hf : v.fz = true
  rotate_left
  · rw [if_neg hf] at post; exact post.elim
  rw [if_pos hf] at post
  obtain rfl := rep.none_of_fz hf
  have rel2 : Rel G R H1 σ ρ1 Os1 := rel1.weak fun a z => .inl z
  have e1 : Rp R true [] = R := setEq fun a => ⟨(fun z => z.elim id fun z => absurd z.2 (by simp)), Or.inl⟩
  rw [e1] at rep
  unfold tNil
  refine ⟨by simp, fun a ha => ⟨a, y, rfl, upd_same, fun dx hdx hne => ⟨rfl, dx, [(F, y)], upd_same, ?_, ?_, ?_⟩⟩⟩
  · rw [upd_ne hne]; exact upd_same
  · rw [upd_ne hne] at hdx; exact hdx
  rw [upd_ne hne] at hdx
  have eh : upd (del (upd (upd (upd H1 a (exo a C none)) dx (exd dx [(F, y)])) a (exo a C (some dx))) a) dx (.xd [(F, y)]) = upd H1 dx (.xd [(F, y)]) := by
    funext z
    by_cases h1 : z = dx
    · subst h1; rw [upd_same, upd_same]
    · rw [upd_ne h1, upd_ne h1]
      by_cases h2 : z = a
      · subst h2; rw [del_same, ha]
      · rw [del_ne h2, upd_ne h2, upd_ne h1, upd_ne h2]
  rw [eh]
  have same : Same H1 (upd H1 dx (.xd [(F, y)])) := fun b o eb => by
    have : b ≠ dx := fun z => by rw [z, hdx] at eb; cases eb
    rw [upd_ne this]; exact eb
  have nW : ¬ WW R Os1 dx := fun z => by
    obtain ⟨o, eo⟩ := rel2.ww z
    rw [hdx] at eo; cases eo
  refine post (.ref C) (some dx) σ _ Os1 pin (rel2.grow same (fun a z => .inl z) fun a z => let ⟨o, e⟩ := rel2.rt a z; ⟨o, same a o e⟩) ⟨C, dx, [(F, y)], rfl, hC, rfl, upd_same, nW, rfl, .cons (O := []) (O' := []) (rep.mono (fun a o ea nw => ⟨same a o ea, nw⟩) fun _ h => nomatch h) .nil⟩ ?_
  exact (kp.imp (O' := fun _ => False) fun _ z => z.elim).grow same fun a z => z.elim
end
end VL
/-! VL, part YD: an exception held by a name: what is known of the hot ones, gained and given back. -/
namespace VL
open PySem PySem.Spec PyProof.Rows L2
/-- one more exception is held -/
def Gam.hott (G : Gam) (p : Addr × Value × Option Addr) : Gam := { G with hot := p :: G.hot }
mutual
def Val.nox : Val → Bool
  | .tup xs => noxs xs
  | .lst _ xs => noxs xs
  | .dct _ _ _ xs => noxs xs
  | .obj _ _ _ xs => noxs xs
  | .exn _ _ _ => false
  | .wdk _ xs => noxs xs
  | .wtp xs => noxs xs
  | _ => true
def noxs : List Val → Bool
  | [] => true
  | x :: xs => x.nox && noxs xs
end
mutual
theorem keyN_nox : ∀ (v : Val) (k : NestedKey), keyN v = some k → v.nox = true
  | .non, _, _ => rfl
  | .int _, _, _ => rfl
  | .str _, _, _ => rfl
  | .tup xs, k, h => by
    simp only [keyN] at h
    split at h
    · rename_i ks e; simp only [Val.nox]; exact keyNs_nox xs ks e
    · cases h
  | .bl _, _, h => by simp [keyN] at h
  | .ty _, _, h => by simp [keyN] at h
  | .cn _, _, h => by simp [keyN] at h
  | .lst _ _, _, h => by simp [keyN] at h
  | .dct _ _ _ _, _, h => by simp [keyN] at h
  | .obj _ _ _ _, _, h => by simp [keyN] at h
  | .exn _ _ _, _, h => by simp [keyN] at h
  | .scr _, _, h => by simp [keyN] at h
  | .wdk _ _, _, h => by simp [keyN] at h
  | .wtp _, _, h => by simp [keyN] at h
  | .fn _, _, h => by simp [keyN] at h
theorem keyNs_nox : ∀ (xs : List Val) (ks : List NestedKey), keyNs xs = some ks → noxs xs = true
  | [], _, _ => rfl
  | x :: xs, ks, h => by
    simp only [keyNs] at h
    split at h
    · rename_i k l e1 e2; simp only [noxs, keyN_nox x k e1, keyNs_nox xs l e2, Bool.and_self]
    · cases h
end
theorem keys_nox {α : Type} {f : α → NestedKey} : ∀ {ks : List Val} {xs : List α}, ks.map keyN = xs.map (fun x => some (f x)) → noxs ks = true
  | [], _, _ => rfl
  | k :: ks, [], h => by simp at h
  | k :: ks, x :: xs, h => by
    simp only [List.map_cons, List.cons.injEq] at h
    simp only [noxs, keyN_nox k _ h.1, keys_nox h.2, Bool.and_self]
section
variable {G : Gam} {W : Addr → Prop} {H : Hp} {q : Addr × Value × Option Addr}
mutual
theorem Rep.hott {x : V} {v : Val} {O : List Addr} (r : Rep G W H x v O) : Rep (G.hott q) W H x v O := by
  cases r with
  | non => exact .non
  | bl b => exact .bl b
  | int i => exact .int i
  | str x => exact .str x
  | ty n => exact .ty n
  | cn h => exact .cn h
  | fn h => exact .fn h
  | tup h r => exact .tup h r.hott
  | wtp h r => exact .wtp h r.hott
  | lstO h r => exact .lstO h r.hott
  | lstF h r => exact .lstF h r.hott
  | scr h => exact .scr h
  | wdk h hk r => exact .wdk h hk r.hott
  | dkO h hk r => exact .dkO h hk r.hott
  | dkF h hk r => exact .dkF h hk r.hott
  | dtO h hk r => exact .dtO h hk r.hott
  | dtF h hk r => exact .dtF h hk r.hott
  | dnO h hk hn r => exact .dnO h hk.hott hn r.hott
  | dnF h hk hn r => exact .dnF h hk.hott hn r.hott
  | objO h hc hn r => exact .objO h hc hn r.hott
  | objF h hc hn r => exact .objF h hc hn r.hott
  | exn hh hc h hn r => exact .exn (List.mem_cons_of_mem _ hh) hc h hn r.hott
theorem Reps.hott {xs : List V} {vs : List Val} {O : List Addr} (r : Reps G W H xs vs O) : Reps (G.hott q) W H xs vs O := by
  cases r with
  | nil => exact .nil
  | cons r t => exact .cons r.hott t.hott
end
mutual
theorem Rep.cold {x : V} {v : Val} {O : List Addr} (r : Rep (G.hott q) W H x v O) (h : v.nox = true) : Rep G W H x v O := by
  cases r with
  | non => exact .non
  | bl b => exact .bl b
  | int i => exact .int i
  | str x => exact .str x
  | ty n => exact .ty n
  | cn h' => exact .cn h'
  | fn h' => exact .fn h'
  | tup h' r => exact .tup h' (r.cold (by simpa [Val.nox] using h))
  | wtp h' r => exact .wtp h' (r.cold (by simpa [Val.nox] using h))
  | lstO h' r => exact .lstO h' (r.cold (by simpa [Val.nox] using h))
  | lstF h' r => exact .lstF h' (r.cold (by simpa [Val.nox] using h))
  | scr h' => exact .scr h'
  | wdk h' hk r => exact .wdk h' hk (r.cold (by simpa [Val.nox] using h))
  | dkO h' hk r => exact .dkO h' hk (r.cold (by simpa [Val.nox] using h))
  | dkF h' hk r => exact .dkF h' hk (r.cold (by simpa [Val.nox] using h))
  | dtO h' hk r => exact .dtO h' hk (r.cold (by simpa [Val.nox] using h))
  | dtF h' hk r => exact .dtF h' hk (r.cold (by simpa [Val.nox] using h))
  | dnO h' hk hn r => exact .dnO h' (hk.cold (keys_nox hn)) hn (r.cold (by simpa [Val.nox] using h))
  | dnF h' hk hn r => exact .dnF h' (hk.cold (keys_nox hn)) hn (r.cold (by simpa [Val.nox] using h))
  | objO h' hc hn r => exact .objO h' hc hn (r.cold (by simpa [Val.nox] using h))
  | objF h' hc hn r => exact .objF h' hc hn (r.cold (by simpa [Val.nox] using h))
  | exn hh hc h' hn r => simp [Val.nox] at h
theorem Reps.cold {xs : List V} {vs : List Val} {O : List Addr} (r : Reps (G.hott q) W H xs vs O) (h : noxs vs = true) : Reps G W H xs vs O := by
  cases r with
  | nil => exact .nil
  | cons r t =>
    simp only [noxs, Bool.and_eq_true] at h
    exact .cons (r.cold h.1) (t.cold h.2)
end
def noxE (ρ : VEnv) : Bool := ρ.all fun o => match o with
  | some v => v.nox
  | none => true
theorem noxE_at {ρ : VEnv} (h : noxE ρ = true) {i : Nat} {v : Val} (e : ρ[i]? = some (some v)) : v.nox = true := List.all_eq_true.mp h _ (List.mem_of_getElem? e)
theorem Rel.hott {R : Addr → Prop} {σ : L2.St} {ρ : VEnv} {Os : Nat → List Addr} (r : Rel G R H σ ρ Os) : Rel (G.hott q) R H σ ρ Os :=
  ⟨r.len, fun i v h => let ⟨x, e, k⟩ := r.rep i v h; ⟨x, e, k.hott⟩, r.nil, r.nd, r.dj, r.dr, r.rt⟩
theorem Rel.cold {R : Addr → Prop} {σ : L2.St} {ρ : VEnv} {Os : Nat → List Addr} (r : Rel (G.hott q) R H σ ρ Os) (h : noxE ρ = true) : Rel G R H σ ρ Os :=
  ⟨r.len, fun i v e => let ⟨x, e', k⟩ := r.rep i v e; ⟨x, e', k.cold (noxE_at h e)⟩, r.nil, r.nd, r.dj, r.dr, r.rt⟩
end
/-- behind the suite: the name is gone, nothing else holds the exception -/
def mGone (i : Nat) : RS → RS
  | .nx ρ => if noxE (ρ.set i none) = true then .nx (ρ.set i none) else .bad
  | .rt v ρ => if v.nox = true ∧ noxE (ρ.set i none) = true then .rt v (ρ.set i none) else .bad
  | _ => .bad
/-- try: .. except C as n: .. (n in slot i, C the class number c) -/
def mTryAs (c i : Nat) (mb ms : MS) : MS := fun ρ => match mb ρ with
  | .exc e ρ1 => (match e.cls with
    | .fn k => if k = c then (if ρ1[i]? = some none then mGone i (ms (ρ1.set i (some (.exn c e.fs e.xs)))) else .bad) else .exc e ρ1
    | _ => .bad)
  | r => r
section
variable {G : Gam} {X : Cx} {E : WX} {bs : List Bool} {σ0 : L2.St} {x n : Str} {i c : Nat} {C : Addr} {body suite : List Stmt} {b₀ : Stmt} {np pos pos' : Pos} {mb ms : MS}
theorem vs_try_as (hs : X.stack = X.env :: X.outer) (hf : X.env.frame = some X.env.locals) (hN : X.N.Nodup) (hi : X.N[i]? = some n) (hln : X.env.kindOf n = some .local) (hc : Names X x (.ref C)) (tk : Takes X E) (hbs : bs[i]? ≠ some true)
    (hC : G.fa c = some C) (hyes : PySem.W.exmOne X.K (.ref C) (.ref C) = some true) (hno : ∀ k C', k ≠ c → G.fa k = some C' → PySem.W.exmOne X.K (.ref C') (.ref C) = some false)
    (hb : ∀ (W : WX) (pn : List (Addr × Obj)) (xe : Value → Shared → Prop), Takes (X.tr pn xe) W → PassesOwn (model X.prog X.w) X.A X.env xe → VSs G (X.tr pn xe) W bs σ0 body mb)
    (hsu : ∀ (a : Addr) (oe : Obj) (cls : Value) (d : Option Addr) (pn : List (Addr × Obj)), Zc cls d oe → (∃ vs, oe.data = .fields vs) → VSs (G.hott (a, cls, d)) (X.suite a ((a, oe) :: pn)) (fun _ _ _ _ => False) bs σ0 (b₀ :: suite) ms) :
    VS G X E bs σ0 (.Try body [.ExceptHandler (some (.Name x np)) (some n) (b₀ :: suite) pos'] [] [] pos) (mTryAs c i mb ms) := by
  refine PS.pre (ps_try_as (i := i) hs hf hN hi hln hc tk hb hsu) fun D σ H ⟨R, ρ, Os, rel, pin, post⟩ => ⟨R, ρ, Os, rel, pin, ?_⟩
  unfold mTryAs at post
  cases hm : mb ρ with
  | bad => rw [hm] at post; exact post
  | nx ρ1 => rw [hm] at post; exact post
  | rt v ρ1 => rw [hm] at post; exact post
  | bk ρ1 => rw [hm] at post; exact post
  | ct ρ1 => rw [hm] at post; exact post
  | exc e ρ1 =>
    rw [hm] at post
    dsimp only at post
    intro cl d σ1 H1 Os1 pin1 rel1 rx k1
    cases hcls : e.cls with
    | fn k =>
      rw [hcls] at post
      dsimp only at post
      have rx' := rx
      unfold RepX at rx'
      rw [hcls] at rx'
      obtain ⟨C', dd, fs, rfl, hk, rfl, h4, h5, h6, h7⟩ := rx'
      by_cases hkc : k = c
      · rw [if_pos hkc] at post
        subst hkc
        rw [hC] at hk
        cases hk
        refine ⟨true, hyes, fun _ a ha => ?_, fun z => by cases z⟩
        by_cases hi0 : ρ1[i]? = some none
        rotate_left
        · rw [if_neg hi0] at post; exact post.elim
        rw [if_pos hi0] at post
        have hil : i < ρ1.length := (List.getElem?_eq_some_iff.mp hi0).1
        have r0 : Rep (G.hott (a, .ref C, some dd)) (WW R Os1) H1 (.ref a) (.exn k e.fs e.xs) [] := .exn List.mem_cons_self hC ⟨h4, h5⟩ h6 h7.hott
        have relh : Rel (G.hott (a, .ref C, some dd)) R H1 σ1 ρ1 Os1 := rel1.hott
        have e0 : R = fun a => R a ∨ a ∈ ([] : List Addr) := setEq fun a => ⟨.inl, fun z => z.elim id fun z => nomatch z⟩
        have rel2 := Rel.put (i := i) (O := []) (e0 ▸ relh) (e0 ▸ r0) List.nodup_nil hil (fun a z => nomatch z)
        have kp2 : KeepE H Os H1 (fun j => if j = i then [] else Os1 j) fun _ => False := fun b o eb nb => by
          obtain ⟨e1, n1, n2⟩ := k1 b o eb nb
          refine ⟨e1, fun ⟨j, hj⟩ => ?_, n2⟩
          by_cases hji : j = i
          · simp only [hji, if_true] at hj; cases hj
          · simp only [hji, if_false] at hj; exact n1 ⟨j, hj⟩
        have gone : ∀ {H' : Hp} {Os' : Nat → List Addr} {O : Addr → Prop}, KeepE H Os H' Os' O → KeepE H Os H' (fun j => if j = i then [] else Os' j) O := fun kk b o eb nb => by
          obtain ⟨e1, n1, n2⟩ := kk b o eb nb
          refine ⟨e1, fun ⟨j, hj⟩ => ?_, n2⟩
          by_cases hji : j = i
          · simp only [hji, if_true] at hj; cases hj
          · simp only [hji, if_false] at hj; exact n1 ⟨j, hj⟩
        refine ⟨R, _, _, rel2, pin1.set hbs, ?_⟩
        cases hms : ms (ρ1.set i (some (.exn k e.fs e.xs))) with
        | bad => rw [hms] at post; exact post.elim
        | exc e3 ρ3 => rw [hms] at post; exact post.elim
        | bk ρ3 => rw [hms] at post; exact post.elim
        | ct ρ3 => rw [hms] at post; exact post.elim
        | nx ρ3 =>
          rw [hms] at post
          dsimp only [mGone] at post
          by_cases hx : noxE (ρ3.set i none) = true
          rotate_left
          · rw [if_neg hx] at post; exact post.elim
          rw [if_pos hx] at post
          exact fun σ' H' Os' p3 r3 k3 => post (σ'.set i none) H' _ (p3.set hbs) ((r3.drop1 i).cold hx) (gone (kp2.trans k3))
        | rt v ρ3 =>
          rw [hms] at post
          dsimp only [mGone] at post
          by_cases hx : v.nox = true ∧ noxE (ρ3.set i none) = true
          rotate_left
          · rw [if_neg hx] at post; exact post.elim
          rw [if_pos hx] at post
          intro y σ' H' Os' O p3 r3 rp3 nd3 k3
          have wk : ∀ a, WW (Rp R true O) (fun j => if j = i then [] else Os' j) a → WW (Rp R true O) Os' a := fun a z => z.imp id fun ⟨j, hj⟩ => by
            by_cases hji : j = i
            · simp only [hji, if_true] at hj; cases hj
            · simp only [hji, if_false] at hj; exact ⟨j, hj⟩
          exact post y (σ'.set i none) H' _ O (p3.set hbs) ((r3.drop1 i).cold hx.2) ((rp3.cold hx.1).weakW wk) nd3 (gone (kp2.trans k3))
      · rw [if_neg hkc] at post
        refine ⟨false, hno k C' hkc hk, (fun z => by cases z), fun _ => ?_⟩
        exact post (.ref C') (some dd) σ1 H1 Os1 pin1 rel1 rx k1
    | _ => rw [hcls] at post; exact post.elim
end
end VL
/-! VL, part YE: a field of the exception that is held by a name. -/
namespace VL
open PySem PySem.Spec PyProof.Rows L2
def mExf (cs : List Nat) (i : Nat) (f : Str) : ME := fun ρ => match ρ[i]? with
  | some (some (.exn n fs xs)) => if n ∈ cs then (match (fs.zip xs).lookup f with
    | some v => .ok v ρ
    | none => .bad) else .bad
  | _ => .bad
/-- what must be known of the classes -/
def XfF (G : Gam) (K : PySem.W.Frag) (cs : List Nat) (f : Str) : Prop := ∀ n C, n ∈ cs → G.fa n = some C → XfC K C ∧ PySem.W.findIn K (.ref C) f = some none
section
variable {G : Gam} {X : Cx} {E : WX}
theorem reps_look {W : Addr → Prop} {H : Hp} {f : Str} {v : Val} : ∀ {fs : List (Str × V)} {xs : List Val}, Reps G W H (fs.map (·.2)) xs [] → ((fs.map (·.1)).zip xs).lookup f = some v → ∃ x, fs.lookup f = some x ∧ Rep G W H x v []
  | [], xs, r, h => by cases r; cases h
  | (g, y) :: fs, xs, r, h => by
    cases xs with
    | nil => cases r
    | cons u us =>
      simp only [List.map_cons] at r
      obtain ⟨z, zs, e, r1, r2⟩ := r.inv0
      cases e
      simp only [List.map_cons, List.zip_cons_cons, List.lookup_cons] at h ⊢
      cases hg : f == g with
      | true => rw [hg] at h; cases h; exact ⟨_, rfl, r1⟩
      | false => rw [hg] at h; exact reps_look r2 h
theorem ve_exf {a : Addr} {oe : Obj} {cls : Value} {d : Option Addr} {pn : List (Addr × Obj)} {cs : List Nat} {i : Nat} {f x : Str} {np pos : Pos} (hG : G.hot = []) (F : XfF G X.K cs f) (hz : Zc cls d oe) (hf : ∃ vs, oe.data = .fields vs)
    (he : PE (X.suite a ((a, oe) :: pn)) (.Name x np) (tVar i)) (hb : attributeBase (.Name x np) f X.env (eval (.Name x np) X.env) = eval (.Name x np) X.env := by rfl) :
    VE (G.hott (a, cls, d)) (X.suite a ((a, oe) :: pn)) E true true (.Attribute (.Name x np) f pos) (mExf cs i f) := by
  have key : ∀ {σ : L2.St} {H : Hp} {Q : VK}, rd (G.hott (a, cls, d)) E true true (mExf cs i f) σ H Q → ∃ C n, cls = .ref C ∧ n ∈ cs ∧ G.fa n = some C ∧ tXf a cls d C f (tVar i) σ H Q := by
    intro σ H Q ⟨R, ρ, Os, rel, post⟩
    unfold mExf at post
    split at post
    rotate_left
    · exact post.elim
    rename_i n fs xs hv
    by_cases hn : n ∈ cs
    rotate_left
    · rw [if_neg hn] at post; exact post.elim
    rw [if_pos hn] at post
    cases hl : (fs.zip xs).lookup f with
    | none => rw [hl] at post; exact post.elim
    | some v =>
      rw [hl] at post
      dsimp only at post
      obtain ⟨y, hy, ry⟩ := rel.rep i _ hv
      generalize hO : Os i = Oi at ry
      cases ry with
      | @exn a' C dd fs' _ _ _ hh hc h hnm r =>
        have hh' : (a', Value.ref C, some dd) ∈ (a, cls, d) :: G.hot := hh
        rw [hG] at hh'
        have := List.mem_singleton.mp hh'
        simp only [Prod.mk.injEq] at this
        obtain ⟨e1, e2, e3⟩ := this
        subst e1
        subst hnm
        obtain ⟨z, lz, rz⟩ := reps_look r hl
        refine ⟨C, n, e2.symm, hn, hc, .ref a', hy, rfl, e2.symm, dd, fs', z, e3.symm, h.1, lz, ?_⟩
        refine post z H Os [] (rel.weak fun b w => w.elim id fun w => nomatch w.2) (rz.weakW fun b w => w.imp (fun w => w.elim id fun w => nomatch w.2) id) (fun _ => List.nodup_nil) (fun b o e nw => ⟨e, nw, fun w => nomatch w.2⟩) fun _ => ⟨rfl, rfl, fun _ _ e => e⟩
  by_cases hk : ∃ C n, cls = .ref C ∧ n ∈ cs ∧ G.fa n = some C
  · obtain ⟨C, n, rfl, hn, hc⟩ := hk
    obtain ⟨T, hno⟩ := F n C hn hc
    exact PE.pre (pe_xf (X := X) T hno hz hf he hb) fun σ H Q h => by
      obtain ⟨C', n', e, _, _, t⟩ := key h
      cases e
      exact t
  · exact ⟨fun pins s σ H Q I h => by obtain ⟨C', n', e1, e2, e3, _⟩ := key h; exact absurd ⟨C', n', e1, e2, e3⟩ hk⟩
end
end VL
/-! VL, part YF: try .. except C: .. (no name); try .. except C1: .. except C2: .. (no names). -/
namespace VL
open PySem PySem.Spec PyProof.Rows L2
/-- what the suite leaves -/
def mOut : RS → RS
  | .nx ρ => .nx ρ
  | .rt v ρ => .rt v ρ
  | _ => .bad
/-- try: .. except C: .. (C the class number c) -/
def mTryC (c : Nat) (mb ms : MS) : MS := fun ρ => match mb ρ with
  | .exc e ρ1 => (match e.cls with
    | .fn k => if k = c then mOut (ms ρ1) else .exc e ρ1
    | _ => .bad)
  | r => r
section
variable {G : Gam} {X : Cx} {E : WX} {bs : List Bool} {σ0 : L2.St} {x n : Str} {i c : Nat} {C : Addr} {body suite : List Stmt} {b₀ : Stmt} {np pos pos' : Pos} {mb ms : MS}
theorem vs_try_only (hs : X.stack = X.env :: X.outer) (hf : X.env.frame = some X.env.locals) (hc : Names X x (.ref C)) (tk : Takes X E)
    (hC : G.fa c = some C) (hyes : PySem.W.exmOne X.K (.ref C) (.ref C) = some true) (hno : ∀ k C', k ≠ c → G.fa k = some C' → PySem.W.exmOne X.K (.ref C') (.ref C) = some false)
    (hb : ∀ (W : WX) (pn : List (Addr × Obj)) (xe : Value → Shared → Prop), Takes (X.tr pn xe) W → PassesOwn (model X.prog X.w) X.A X.env xe → VSs G (X.tr pn xe) W bs σ0 body mb)
    (hsu : ∀ (a : Addr) (oe : Obj) (cls : Value) (d : Option Addr) (pn : List (Addr × Obj)), Zc cls d oe → (∃ vs, oe.data = .fields vs) → VSs G (X.suite a ((a, oe) :: pn)) (fun _ _ _ _ => False) bs σ0 (b₀ :: suite) ms) :
    VS G X E bs σ0 (.Try body [.ExceptHandler (some (.Name x np)) none (b₀ :: suite) pos'] [] [] pos) (mTryC c mb ms) := by
  refine PS.pre (ps_try_only hs hf hc tk hb hsu) fun D σ H ⟨R, ρ, Os, rel, pin, post⟩ => ⟨R, ρ, Os, rel, pin, ?_⟩
  unfold mTryC at post
  cases hm : mb ρ with
  | bad => rw [hm] at post; exact post
  | nx ρ1 => rw [hm] at post; exact post
  | rt v ρ1 => rw [hm] at post; exact post
  | bk ρ1 => rw [hm] at post; exact post
  | ct ρ1 => rw [hm] at post; exact post
  | exc e ρ1 =>
    rw [hm] at post
    dsimp only at post
    intro cl d σ1 H1 Os1 pin1 rel1 rx k1
    cases hcls : e.cls with
    | fn k =>
      rw [hcls] at post
      dsimp only at post
      have rx' := rx
      unfold RepX at rx'
      rw [hcls] at rx'
      obtain ⟨C', dd, fs, rfl, hk, rfl, h4, h5, h6, h7⟩ := rx'
      by_cases hkc : k = c
      · rw [if_pos hkc] at post
        subst hkc
        rw [hC] at hk
        cases hk
        refine ⟨true, hyes, fun _ a ha => ⟨R, ρ1, Os1, rel1, pin1, ?_⟩, fun z => by cases z⟩
        cases hms : ms ρ1 with
        | bad => rw [hms] at post; exact post.elim
        | exc e3 ρ3 => rw [hms] at post; exact post.elim
        | bk ρ3 => rw [hms] at post; exact post.elim
        | ct ρ3 => rw [hms] at post; exact post.elim
        | nx ρ3 =>
          rw [hms] at post
          exact fun σ' H' Os' p3 r3 k3 => post σ' H' _ p3 r3 (k1.trans k3)
        | rt v ρ3 =>
          rw [hms] at post
          exact fun y σ' H' Os' O p3 r3 rp3 nd3 k3 => post y σ' H' _ O p3 r3 rp3 nd3 (k1.trans k3)
      · rw [if_neg hkc] at post
        refine ⟨false, hno k C' hkc hk, (fun z => by cases z), fun _ => ?_⟩
        exact post (.ref C') (some dd) σ1 H1 Os1 pin1 rel1 rx k1
    | _ => rw [hcls] at post; exact post.elim
end
end VL
/-! VL, part YG: what must be known of such a class, as a test of the part of the heap that the head shows. -/
namespace VL
open PySem PySem.Spec PyProof.Rows L2
def veBm : List Value := [.type "ValueError", .type "Exception", .type "BaseException", .type "object"]
/-- an own class over ValueError -/
def oexB (K : PySem.W.Frag) (C : Addr) : Bool := (match K.lookup C with
  | some ⟨.type "type", _, .cls cd, sl⟩ => (match cd.mro, sl.toList with
    | .ref C' :: bm, [_, _, _, _, some (.builtin n), _] => C' == C && n == "ValueError.__new__" && !cd.hasDel && cd.hasDict && PySem.HandSPX.refsVE bm
    | _, _ => false)
  | _ => false) && (decide (PySem.W.findIn K (.ref C) "__setattr__" = some (some (.builtin "object.__setattr__"))) && (decide (PySem.W.subIn K (.ref C) (.type "BaseException") = some true) && (decide (PySem.W.typeIn K (.ref C) = some (.type "type")) && PySem.W.keepIn K (.ref C))))
theorem oexB_ok {K : PySem.W.Frag} {C : Addr} (h : oexB K C = true) : OexC K C := by
  unfold oexB at h
  simp only [Bool.and_eq_true, decide_eq_true_eq] at h
  obtain ⟨q, h1, h2, h3, h4⟩ := h
  refine ⟨?_, h1, h2, h3, h4⟩
  split at q
  · rename_i dd cd sl ho
    split at q
    · rename_i C' bm k0 k1 k2 k3 n k5 hm hs
      simp only [Bool.and_eq_true, beq_iff_eq, Bool.not_eq_true'] at q
      obtain ⟨⟨⟨⟨rfl, rfl⟩, hdel⟩, hdict⟩, ht⟩ := q
      obtain ⟨nm, bs, mro, ns, qn, hd, sn, sub, ab, col, del⟩ := cd
      dsimp only at hm hdel hdict
      subst hm hdel hdict
      have hsl : sl = #[k0, k1, k2, k3, some (.builtin "ValueError.__new__"), k5] := by
        obtain ⟨l⟩ := sl
        simp only at hs
        rw [hs]
      subst hsl
      exact ⟨nm, qn, ns, bs, bm, sn, sub, ab, col, dd, k0, k1, k2, k3, k5, ho, ht⟩
    · cases q
  · cases q
/-- the class at C, its __init__ at f with the text file, sets the field F -/
def excB (C : PySem.W.Frag → Addr) (f : PySem.W.Frag → Addr) (F file : Str) (K : PySem.W.Frag) : Bool :=
  oexB K (C K) && (decide (PySem.W.findIn K (.ref (C K)) "__init__" = some (some (.ref (f K)))) && (decide (PySem.W.typeIn K (.ref (f K)) = some (.type "function")) && (decide (PySem.W.findIn K (.ref (C K)) F = some none) &&
  ((match K.lookup (f K) with
    | some ⟨_, _, .func fd, _⟩ => (match fd.code, fd.closure with
      | .ref cda, [(_, cc)] => (match K.lookup cda, K.lookup cc with
        | some ⟨_, _, .fields vs, _⟩, some ⟨_, _, .cell (some (.ref D)), _⟩ => D == C K && (match (vs[2]? : Option Value) with
          | some (Value.str y _) => decide (y = file)
          | _ => false)
        | _, _ => false)
      | _, _ => false)
    | _ => false) && ((PySem.W.clsIn K (C K)).isSome && (decide (PySem.W.mroIn K (C K) (.ref (C K)) = some true) && (decide (PySem.W.ks_superIn K (C K) (C K) "__init__" = some (some (.builtin "ValueError.__init__"))) && (decide (PySem.W.subIn K (.ref (C K)) (.type "ValueError") = some true) &&
  (PySem.W.excInitIn K (C K) veBm "ValueError.__new__" && decide (PySem.W.nsIn K PySem.cStatics "thirdparty.any" = some none))))))))))
structure ExcC (K : PySem.W.Frag) (C f : Addr) (F file : Str) : Prop where
  oex : OexC K C
  iC : PySem.W.findIn K (.ref C) "__init__" = some (some (.ref f))
  tI : PySem.W.typeIn K (.ref f) = some (.type "function")
  no : PySem.W.findIn K (.ref C) F = some none
  fn : ∃ oc od osl fd cda x cc ccl cdd vs ccs cl cld csl tf, K.lookup f = some ⟨oc, od, .func fd, osl⟩ ∧ fd.code = .ref cda ∧ fd.closure = [(x, cc)] ∧ K.lookup cda = some ⟨ccl, cdd, .fields vs, ccs⟩ ∧ vs[2]? = some (.str file tf) ∧ K.lookup cc = some ⟨cl, cld, .cell (some (.ref C)), csl⟩
  cls : ∃ cdD, PySem.W.clsIn K C = some cdD
  sub : PySem.W.mroIn K C (.ref C) = some true
  sup : PySem.W.ks_superIn K C C "__init__" = some (some (.builtin "ValueError.__init__"))
  isB : PySem.W.subIn K (.ref C) (.type "ValueError") = some true
  ini : PySem.W.excInitIn K C veBm "ValueError.__new__" = true
  stat : PySem.W.nsIn K PySem.cStatics "thirdparty.any" = some none
theorem excB_ok {C f : PySem.W.Frag → Addr} {F file : Str} {K : PySem.W.Frag} (h : excB C f F file K = true) : ExcC K (C K) (f K) F file := by
  unfold excB at h
  simp only [Bool.and_eq_true, decide_eq_true_eq] at h
  obtain ⟨h1, h2, h3, h4, q, h5, h6, h7, h8, h9, h10⟩ := h
  refine ⟨oexB_ok h1, h2, h3, h4, ?_, Option.isSome_iff_exists.mp h5, h6, h7, h8, h9, h10⟩
  split at q
  · rename_i oc od fd osl ho
    split at q
    · rename_i cda x cc hcd hcl
      split at q
      · rename_i ccl cdd vs ccs cl cld D csl e1 e2
        simp only [Bool.and_eq_true, beq_iff_eq] at q
        obtain ⟨rfl, q⟩ := q
        split at q
        · rename_i y tf e3
          simp only [decide_eq_true_eq] at q
          subst q
          exact ⟨oc, od, osl, fd, cda, x, cc, ccl, cdd, vs, ccs, cl, cld, csl, tf, ho, hcd, hcl, e1, e3, e2⟩
        · cases q
      · cases q
    · cases q
  · cases q
/-- the promise of such an __init__, from the test and the def as it stands -/
theorem excE_ok {CX : CXT} {P : Program} {w : World} {K : PySem.W.Frag} {mg : Str → Option Value} {base : Heap} {d : VDef} {k : Nat} {C : Addr} {F file x0 x1 m : Str} {ar : PySem.Arg} {j : Nat} {p0 p1 p2 p3 p4 p5 q0 q1 q2 q3 : Pos} {pl : Sem Bool}
    (raw : d.seen K = d.shape ∧ d.good K = true) (hcell : d.cell = true) (hdfl : d.dfl = []) (hbody : d.body = [.Expr (.Call (.Attribute (.Call (.Name "super" p0) [] [] p1) "__init__" p2) [.Constant (.str m) j p3] [] p4) p5, .Assign [.Attribute (.Name x0 q0) F q1] (.Name x1 q2) q3])
    (S : SeI x0 x1 d.scope) (T : ExcC K C (d.ad K) F file) (hP : ((P.main.file : Str) == file) = true ∧ (P.main.scope.names.lookup ("super" : Str)).isSome = false) (hm : mg "super" = none)
    (hpar : (d.params.posonlyargs ++ d.params.args).head? = some ar) (har : ar.arg = x0)
    (hbind : ∀ (kV doc pm : Value) (an : Option Addr) (cdv ct : Value) (cc : Addr) (us : List Value), us.length = 2 → bindArgs (PySem.W.ksFn d.name d.qual d.params d.body d.scope .none kV doc pm an cdv ct cc) ⟨us, []⟩ = pure ([x0, x1].zip us))
    (hd0 : (x0 == ("__debug__" : Str)) = false) (hd1 : (x1 == ("__debug__" : Str)) = false) (hc0 : (x0 == ("__classdict__" : Str)) = false) (hc1 : (x1 == ("__classdict__" : Str)) = false)
    (hs1 : ∀ env : Env, swapsWith (.Call (.Attribute (.Call (.Name "super" p0) [] [] p1) "__init__" p2) [.Constant (.str m) j p3] [] p4) none p5.line env = pure false)
    (hs2 : ∀ env : Env, swapsWith (.Name x1 q2) (some (.Attribute (.Name x0 q0) F q1)) q3.line env = pure false)
    (he : ∀ env : Env, eval (.Call (.Attribute (.Call (.Name "super" p0) [] [] p1) "__init__" p2) [.Constant (.str m) j p3] [] p4) env = (do
      let ov ← attributeBase (.Call (.Name "super" p0) [] [] p1) "__init__" env (eval (.Call (.Name "super" p0) [] [] p1) env)
      standAt p2.atName
      let (f, first) ← holding [ov] (getMethod ov "__init__" pl)
      callWith p4 f first (backTo p4 (starEach [.Constant (.str m) j p3] env)) [])) :
    ∃ fd, FnOk P w K mg base CX (k + 1) (d.ad K) fd [x0, x1] (spE K C F) ∧ Binds K fd [x0, x1] [] := by
  obtain ⟨e, g⟩ := raw
  obtain ⟨oc, od, osl, fd, cda, x, cc, ccl, cdd, vs, ccs, cl, cld, csl, tf, ho, hcd, hcl, e1, e3, e2⟩ := T.fn
  unfold VDef.seen at e
  unfold VDef.good at g
  rw [ho] at e g
  obtain ⟨n1, n2, n3, n4, n5, n6, n7, n8, n9, n10, n11, n12, n13, n14, n15⟩ := fd
  simp only [VDef.shape, hcell, if_true, Option.some.injEq, Prod.mk.injEq] at e
  dsimp only at hcd hcl
  subst hcd hcl
  obtain ⟨h1, h2, h3, h4, h5, h6, h7, h8⟩ := e
  simp only [List.map_cons, List.map_nil, List.cons.injEq, Prod.mk.injEq, and_true] at h7
  subst h1 h2 h3 h4 h5 h6 h7 h8
  simp only [Bool.and_eq_true] at g
  obtain ⟨_, k1, k3, k4⟩ := g
  have hdv : VDef.dvs K d = [] := by unfold VDef.dvs; rw [hdfl]; rfl
  rw [hdv] at k3
  have hnone : n8 = .none := by
    cases n8 <;> first | rfl | exact absurd k3 (by simp [He.dflB])
  subst hnone
  refine ⟨PySem.W.ksFn d.name d.qual d.params d.body d.scope .none n9 n10 n11 n12 (.ref cda) n14 cc, ?_, Binds.all fun us hl => hbind _ _ _ _ _ _ _ us hl⟩
  rw [hbody] at ho ⊢
  refine initE_ok (pl := pl) (cda := cda) (B := "ValueError") (ini := "ValueError.__init__") (newId := "ValueError.__new__") (bmB := veBm) (D := C) rfl ho k1 S ⟨PySem.W.kxs_ValueError, PySem.F.excBase_ValueError, ⟨_, _, _, ho⟩, hpar, ⟨_, _, _, _, _, _, e1, e3, hP.1⟩, ⟨_, _, _, e2⟩, T.cls, T.sub, hP.2, T.sup, T.isB, T.ini, T.stat⟩ har T.oex T.no hm e2 hd0 hd1 hc0 hc1 hs1 hs2 he
end VL
namespace VL
open PySem PySem.Spec PyProof.Rows L2
/-- what must be known of the program itself -/
def PFile (P : Program) (file : Str) : Prop := ((P.main.file : Str) == file) = true ∧ (P.main.scope.names.lookup ("super" : Str)).isSome = false
theorem seI_of {x0 x1 : Str} {sc : Scope} (h1 : sc.kind = .function) (h2 : sc.isCoroutine = false) (h3 : sc.isGenerator = false) (h4 : x0 ≠ x1) (h5 : sc.names.lookup x0 = some .local) (h6 : sc.names.lookup x1 = some .local)
    (h7 : sc.names.lookup ("__class__" : Str) = some .free) (h8 : sc.names.lookup ("super" : Str) = some .globalImplicit) (h9 : ∀ y ∈ sc.names, y.2 ≠ .cell) (h10 : ∀ y ∈ sc.names, y.2 = .free → y.1 = "__class__") : SeI x0 x1 sc :=
  ⟨h1, h2, h3, h4, h5, h6, h7, h8, h9, fun y hy => h10 _ (PySem.mem_of_lookup hy) rfl⟩
end VL
namespace VL
open PySem PySem.Spec PyProof.Rows L2
/-- the class number c is caught by `except x`, no other one of the list is -/
structure ExmC (K : PySem.W.Frag) (L : List Str) (c : Nat) (x : Str) : Prop where
  yes : PySem.W.exmOne K (.ref (He.ga K x)) (.ref (He.ga K x)) = some true
  no : ∀ n C, n ≠ c → (L[n]?).map (He.ga K) = some C → PySem.W.exmOne K (.ref C) (.ref (He.ga K x)) = some false
def tExm (L : List Str) (c : Nat) (x : Str) : Ftest := fun K => decide (PySem.W.exmOne K (.ref (He.ga K x)) (.ref (He.ga K x)) = some true) && (List.range L.length).all fun n => n == c || (match (L[n]?).map (He.ga K) with
  | some C => decide (PySem.W.exmOne K (.ref C) (.ref (He.ga K x)) = some false)
  | none => true)
theorem exm_ok {K : PySem.W.Frag} {L : List Str} {c : Nat} {x : Str} (h : tExm L c x K = true) : ExmC K L c x := by
  unfold tExm at h
  simp only [Bool.and_eq_true, decide_eq_true_eq] at h
  refine ⟨h.1, fun n C hn hC => ?_⟩
  have hl : n < L.length := by
    by_cases q : n < L.length
    · exact q
    · rw [List.getElem?_eq_none (by omega)] at hC; cases hC
  have := List.all_eq_true.mp h.2 n (List.mem_range.mpr hl)
  rw [hC] at this
  simp only [Bool.or_eq_true, beq_iff_eq, decide_eq_true_eq] at this
  exact this.resolve_left hn
def tXfc (L : List Str) (cs : List Nat) (f : Str) : Ftest := fun K => cs.all fun n => match (L[n]?).map (He.ga K) with
  | some C => xfB K C && decide (PySem.W.findIn K (.ref C) f = some none)
  | none => true
theorem xf_ok {G : Gam} {K : PySem.W.Frag} {L : List Str} {cs : List Nat} {f : Str} (h : tXfc L cs f K = true) (hg : ∀ n C, G.fa n = some C → (L[n]?).map (He.ga K) = some C) : XfF G K cs f := fun n C hn hC => by
  have := List.all_eq_true.mp h n hn
  rw [hg n C hC] at this
  simp only [Bool.and_eq_true, decide_eq_true_eq] at this
  exact ⟨xfB_ok this.1, this.2⟩
end VL
/-! VL, part YH: {}. -/
namespace VL
open PySem PySem.Spec PyProof.Rows L2
section
variable {G : Gam} {X : Cx} {E : WX} {pos : Pos}
theorem ve_dct0 : VE G X E true true (.Dict [] [] pos) (mDct [] []) := by
  refine PE.pre pe_dnewK fun σ H Q ⟨R, ρ, Os, rel, post⟩ => fun a ha => ?_
  have rel2 : Rel G (Rp R true [a]) (upd H a (.dK [])) σ ρ Os := by
    have r := rel.root0 (o0 := .dK []) ha
    have e : Rp R true [a] = fun b => R b ∨ b = a := setEq fun b => ⟨(fun z => z.imp id fun z => List.mem_singleton.mp z.2), fun z => z.imp id fun z => ⟨rfl, List.mem_singleton.mpr z⟩⟩
    rw [e]; exact r
  refine post (.ref a) _ Os [a] rel2 (.dkO upd_same rfl .nil) (fun _ => by simp) (fun b o eb nw => ?_) fun _ => ⟨rfl, rfl, fun b o eb => ?_⟩
  · have hb : b ≠ a := fun z => by rw [z, ha] at eb; cases eb
    exact ⟨by rw [upd_ne hb]; exact eb, nw, fun z => hb (List.mem_singleton.mp z.2)⟩
  · have hb : b ≠ a := fun z => by rw [z, ha] at eb; cases eb
    rw [upd_ne hb]; exact eb
end
end VL
namespace VL
open PySem PySem.Spec PyProof.Rows L2
/-- repr of plain data, or of an empty dict -/
def semReprE : List Val → Option Val
  | [.dct _ .k [] []] => some (.str "{}")
  | l => semRepr l
def rReprE (K : PySem.W.Frag) : List V → Hp → VK → Prop := fun xs H Q => rReprD K xs H Q ∨ ∃ d, xs = [.ref d] ∧ Rd H d (.dK []) ∧ Q (.str "{}") H
section
variable {G : Gam} {X : Cx}
theorem call_reprE (hK : X.K = G.K) (hg : X.A.guards = some []) (hu : X.A.units + 70 < cLine) : CallR X (.builtin "repr") (rReprE G.K) := by
  refine CallR.or (call_reprD hK hg hu) ?_
  intro pins s σ H xs us Q I r h
  obtain ⟨d, rfl, hd, q⟩ := h
  obtain ⟨u, rfl, rx⟩ := vals1 r
  cases (show u = Value.ref d from rx)
  obtain ⟨z, hne, vs, rel, dd⟩ := dk_rd I.hok hd
  cases rel
  have rd : Reads s.heap (.ref d) (.dict []) [d] := by
    obtain ⟨o, es, ep, ho, hx, hdt, _, hp, _⟩ := dd
    have he : es.toList = [] := List.length_eq_zero_iff.mp hp.length
    exact .dict (as := []) (bs := []) ho hx.1 hdt (by rw [he]; exact .nil) (by rw [he]; exact .nil)
  have e : (PyData.dict []).shown = ("{}" : Str) := by decide +kernel
  refine PySem.repr_of_reads' rd (by rfl) (fun _ hm => ?_) hg (by show X.A.units + ((PyData.dict []).depth + 1) < cLine; simp [PyData.depth, PyData.depthKv]; omega) (fun _ _ e => e) (fun h' u tk k => ?_) (by rw [e]; decide)
  · rw [List.mem_singleton.mp hm] at hne; simp at hne
  · rw [e]; exact ⟨.str "{}", H, I.kept k, ⟨u, rfl⟩, q⟩
theorem ok_reprE : OkF G (rReprE G.K) semReprE := by
  intro W H xs vs Ol v Q w r hs m
  unfold semReprE at hs
  split at hs
  · obtain ⟨x, O, rfl, r1⟩ := r.inv1
    cases hs
    cases r1 with
    | @dkO a kvs _ _ P ea hk q =>
      have : kvs = [] := by cases kvs with | nil => rfl | cons p l => cases hk
      subst this
      exact .inr ⟨a, rfl, .inl ea, m.same (.str _)⟩
    | @dkF a kvs _ _ ea hk q =>
      have : kvs = [] := by cases kvs with | nil => rfl | cons p l => cases hk
      subst this
      exact .inr ⟨a, rfl, ea.1, m.same (.str _)⟩
  · exact .inl (ok_repr W H xs vs Ol v Q w r hs m)
end
end VL
/-! VL, part YI: isinstance of the exception that a name holds (it has fields). -/
namespace VL
open PySem PySem.Spec PyProof.Rows L2
section
variable {G : Gam} {X : Cx}
def rIsX (K : PySem.W.Frag) (D a dd : Addr) : List V → Hp → VK → Prop := fun xs H Q => (∃ fs, H dd = some (.xd fs)) ∧ rIsE K D a xs H Q
theorem call_isX {a D dd : Addr} {oe : Obj} {pn : List (Addr × Obj)} (C : L2.ExcC X.K D) (hz : Zc (.ref D) (some dd) oe) (hf : ∃ vs, oe.data = .fields vs) : CallR (X.suite a ((a, oe) :: pn)) (.builtin "isinstance") (rIsX X.K D a dd) := by
  intro pins s σ H xs us Q I r h
  obtain ⟨⟨fs, hdd⟩, c, cv, b, rfl, hcv, e, q⟩ := h
  obtain ⟨u0, us1, rfl, ra, r1⟩ : ∃ u0 us1, us = u0 :: us1 ∧ RelV (.ref a) u0 ∧ Vals [c] us1 := by
    cases r with | cons x y => exact ⟨_, _, rfl, x, y⟩
  obtain ⟨u1, rfl, rc⟩ : ∃ u1, us1 = [u1] ∧ RelV c u1 := by
    cases r1 with | cons x y => cases y; exact ⟨_, rfl, x⟩
  cases (show u0 = Value.ref a from ra)
  obtain rfl := hcv u1 rc
  have at_ := (I.pin (a, oe) (List.mem_append_left _ List.mem_cons_self)).1
  obtain ⟨mA, hns, _⟩ : ObjOk X.prog X.w H s.heap dd (.xd fs) := I.hok dd _ hdd
  obtain ⟨od, hod, _⟩ := lookIn_ns hns
  obtain ⟨vs, hv⟩ := hf
  have J : PySem.W.InstAt s.heap a oe D (some od) := ⟨at_, hz.1, by unfold PySem.W.notCls; rw [hv] <;> rfl, by rw [hz.2]; exact hod⟩
  refine PySem.W.kia_one (PySem.W.kitx_exc (by obtain ⟨cd, hc, _⟩ := PySem.W.any_some C.hd; rw [hc]; rfl) C.hg C.hk C.hs C.ha C.hn C.ht C.hm) I.kIn J e (fun z => nomatch z) fun tk => ⟨.bl b, H, I.kept (t' := tk) fun _ _ z => z, rfl, q⟩
end
end VL
namespace VL
open PySem PySem.Spec PyProof.Rows L2
def semIsx (cs : List Nat) (tn : List ((Nat × Nat) × Bool)) (tt : List ((Nat × String) × Bool)) : List Val → Option Val
  | [.exn n _ _, .fn k] => if n ∈ cs then (match tn.lookup (n, k) with
    | some b => some (.bl b)
    | none => none) else none
  | [.exn n _ _, .ty t] => if n ∈ cs then (match tt.lookup (n, t) with
    | some b => some (.bl b)
    | none => none) else none
  | _ => none
structure IsxF (G : Gam) (K : PySem.W.Frag) (cs : List Nat) (tn : List ((Nat × Nat) × Bool)) (tt : List ((Nat × String) × Bool)) : Prop where
  ex : ∀ n D, n ∈ cs → G.fa n = some D → L2.ExcC K D
  fn : ∀ n D k C b, n ∈ cs → G.fa n = some D → G.fa k = some C → tn.lookup (n, k) = some b → PySem.W.kitOne K (.ref D) (.ref C) = some b
  ty : ∀ n D t b, n ∈ cs → G.fa n = some D → tt.lookup (n, t) = some b → PySem.W.kitOne K (.ref D) (.type t) = some b
theorem isx_call {G : Gam} {X : Cx} {cs : List Nat} {tn : List ((Nat × Nat) × Bool)} {tt : List ((Nat × String) × Bool)} {a : Addr} {cls : Value} {d : Option Addr} {oe : Obj} {pn : List (Addr × Obj)} (hG : G.hot = []) (F : IsxF G X.K cs tn tt) (hz : Zc cls d oe) (hf : ∃ vs, oe.data = .fields vs) :
    ∃ r, CallR (X.suite a ((a, oe) :: pn)) (.builtin "isinstance") r ∧ OkF (G.hott (a, cls, d)) r (semIsx cs tn tt) := by
  have hot : ∀ {W : Addr → Prop} {H : Hp} {x : V} {n : Nat} {ns : List Str} {vs : List Val} {O : List Addr}, Rep (G.hott (a, cls, d)) W H x (.exn n ns vs) O → ∃ D dd fs, x = .ref a ∧ cls = .ref D ∧ d = some dd ∧ G.fa n = some D ∧ H dd = some (.xd fs) := by
    intro W H x n ns vs O r
    cases r with
    | @exn a' D dd fs _ _ _ hh hc h hnm r =>
      have hh' : (a', Value.ref D, some dd) ∈ (a, cls, d) :: G.hot := hh
      rw [hG] at hh'
      have e := List.mem_singleton.mp hh'
      simp only [Prod.mk.injEq] at e
      obtain ⟨e1, e2, e3⟩ := e
      subst e1
      exact ⟨D, dd, fs, rfl, e2.symm, e3.symm, hc, h.1⟩
  by_cases hk : ∃ D dd n, cls = .ref D ∧ d = some dd ∧ n ∈ cs ∧ G.fa n = some D
  · obtain ⟨D, dd, n0, rfl, rfl, hn0, hD0⟩ := hk
    refine ⟨_, call_isX (F.ex n0 D hn0 hD0) hz hf, ?_⟩
    intro W H xs vs Ol v Q w r hs m
    unfold semIsx at hs
    split at hs
    · rename_i n ns ws k
      obtain ⟨x, y, O, O', rfl, r1, r2⟩ := r.inv2
      obtain ⟨D', dd', fs, rfl, e1, e2, hD, hx⟩ := hot r1
      cases e1; cases e2
      cases r2 with
      | fn hc =>
        split at hs
        · rename_i hn
          cases hl : tn.lookup (n, k) with
          | none => rw [hl] at hs; cases hs
          | some b => rw [hl] at hs; cases hs; exact ⟨⟨fs, hx⟩, _, _, b, rfl, fun u hu => hu, F.fn n D k _ b hn hD hc hl, m.same (.bl _)⟩
        · cases hs
    · rename_i n ns ws t
      obtain ⟨x, y, O, O', rfl, r1, r2⟩ := r.inv2
      obtain ⟨D', dd', fs, rfl, e1, e2, hD, hx⟩ := hot r1
      cases e1; cases e2
      cases r2 with
      | ty =>
        split at hs
        · rename_i hn
          cases hl : tt.lookup (n, t) with
          | none => rw [hl] at hs; cases hs
          | some b => rw [hl] at hs; cases hs; exact ⟨⟨fs, hx⟩, _, _, b, rfl, fun u hu => hu, F.ty n D t b hn hD hl, m.same (.bl _)⟩
        · cases hs
    · cases hs
  · refine ⟨fun _ _ _ => False, fun pins s σ H xs us Q I r h => h.elim, ?_⟩
    intro W H xs vs Ol v Q w r hs m
    unfold semIsx at hs
    split at hs
    · obtain ⟨x, y, O, O', rfl, r1, r2⟩ := r.inv2
      obtain ⟨D', dd', fs, rfl, e1, e2, hD, hx⟩ := hot r1
      split at hs
      · rename_i hn; exact absurd ⟨D', dd', _, e1, e2, hn, hD⟩ hk
      · cases hs
    · obtain ⟨x, y, O, O', rfl, r1, r2⟩ := r.inv2
      obtain ⟨D', dd', fs, rfl, e1, e2, hD, hx⟩ := hot r1
      split at hs
      · rename_i hn; exact absurd ⟨D', dd', _, e1, e2, hn, hD⟩ hk
      · cases hs
    · cases hs
end VL
namespace VL
open PySem PySem.Spec PyProof.Rows L2
theorem mem_lookup {α β : Type} [BEq α] [LawfulBEq α] {k : α} {b : β} : ∀ {l : List (α × β)}, l.lookup k = some b → (k, b) ∈ l
  | [], h => by cases h
  | (a, c) :: l, h => by
    simp only [List.lookup_cons] at h
    cases q : k == a with
    | true => rw [q] at h; cases h; rw [eq_of_beq q]; exact List.mem_cons_self
    | false => rw [q] at h; exact List.mem_cons_of_mem _ (mem_lookup h)
def excTB (K : PySem.W.Frag) (D : Addr) : Bool := decide (PySem.W.findIn K (.ref D) "__getattribute__" = some (some (.builtin "BaseException.__getattribute__"))) && (decide (PySem.W.findIn K (.ref D) "__getattr__" = some none) && (decide (PySem.W.subIn K (.ref D) (.type "BaseException") = some true) && (PySem.W.hasDictIn K D &&
  (decide (PySem.W.findIn K (.ref D) "__class__" = some (some (.builtin "object.__class__"))) && (decide (PySem.W.specialIn K (.builtin "object.__class__") "__get__" = some (some (.builtin "getset_descriptor.__get__"))) && (decide (PySem.W.takesIn K (.builtin "object.__class__") = some true) && decide (PySem.W.mroIn K D (.type "object") = some true)))))))
theorem excTB_ok {K : PySem.W.Frag} {D : Addr} (h : excTB K D = true) : L2.ExcC K D := by
  unfold excTB at h
  simp only [Bool.and_eq_true, decide_eq_true_eq] at h
  exact ⟨h.1, h.2.1, h.2.2.1, h.2.2.2.1, h.2.2.2.2.1, h.2.2.2.2.2.1, h.2.2.2.2.2.2.1, h.2.2.2.2.2.2.2⟩
def tIsx (L : List Str) (cs : List Nat) (tn : List ((Nat × Nat) × Bool)) (tt : List ((Nat × String) × Bool)) : Ftest := fun K =>
  (cs.all fun n => match (L[n]?).map (He.ga K) with
    | some D => excTB K D
    | none => true) && ((tn.all fun p => match (L[p.1.1]?).map (He.ga K), (L[p.1.2]?).map (He.ga K) with
    | some D, some C => decide (PySem.W.kitOne K (.ref D) (.ref C) = some p.2)
    | _, _ => true) && (tt.all fun p => match (L[p.1.1]?).map (He.ga K) with
    | some D => decide (PySem.W.kitOne K (.ref D) (.type p.1.2) = some p.2)
    | none => true))
theorem isx_ok {G : Gam} {K : PySem.W.Frag} {L : List Str} {cs : List Nat} {tn : List ((Nat × Nat) × Bool)} {tt : List ((Nat × String) × Bool)} (h : tIsx L cs tn tt K = true) (hg : ∀ n C, G.fa n = some C → (L[n]?).map (He.ga K) = some C) : IsxF G K cs tn tt := by
  unfold tIsx at h
  simp only [Bool.and_eq_true] at h
  obtain ⟨h1, h2, h3⟩ := h
  refine ⟨fun n D hn hD => ?_, fun n D k C b hn hD hC hl => ?_, fun n D t b hn hD hl => ?_⟩
  · have := List.all_eq_true.mp h1 n hn
    rw [hg n D hD] at this
    exact excTB_ok this
  · have := List.all_eq_true.mp h2 _ (mem_lookup hl)
    simp only [hg n D hD, hg k C hC, decide_eq_true_eq] at this
    exact this
  · have := List.all_eq_true.mp h3 _ (mem_lookup hl)
    simp only [hg n D hD, decide_eq_true_eq] at this
    exact this
end VL
/-! VL, part Z: the functions run, by simp. -/
namespace VL
open PySem L2
section
variable {ρ : VEnv} {m m1 m2 m3 : ME} {a b : MS} {i j : Nat} {ms : List ME}
@[simp] theorem z_evalM0 : evalM [] ρ = .ok [] ρ := rfl
@[simp] theorem z_evalM1 : evalM (m :: ms) ρ = match m ρ with
    | .ok v ρ1 => (match evalM ms ρ1 with
      | .ok vs ρ2 => .ok (v :: vs) ρ2
      | .exc e ρ2 => .exc e ρ2
      | .bad => .bad)
    | .exc e ρ1 => .exc e ρ1
    | .bad => .bad := rfl
@[simp] theorem z_fun {sem : List Val → Option Val} : mFun sem ms ρ = match evalM ms ρ with
  | .ok vs ρ' => (match sem vs with
    | some v => .ok v ρ'
    | none => .bad)
  | .exc e ρ' => .exc e ρ'
  | .bad => .bad := rfl
@[simp] theorem z_var : mVar i ρ = match ρ[i]? with
  | some (some v) => .ok v ρ
  | _ => .bad := rfl
@[simp] theorem z_c {v : Val} : mC v ρ = .ok v ρ := rfl
@[simp] theorem z_stab : mStab m ρ = match m ρ with
  | .ok v ρ' => if v.fz = true then .ok v ρ' else .bad
  | .exc e ρ' => .exc e ρ'
  | .bad => .bad := rfl
@[simp] theorem z_frz : mFrz i ρ = match ρ[i]? with
  | some (some v) => .ok v.frz (ρ.set i (some v.frz))
  | _ => .bad := rfl
@[simp] theorem z_fz : mFz m ρ = match m ρ with
  | .ok v ρ' => .ok v.frz ρ'
  | .exc e ρ' => .exc e ρ'
  | .bad => .bad := rfl
@[simp] theorem z_not : mNot m ρ = match m ρ with
  | .ok (.bl b) ρ' => .ok (.bl (!b)) ρ'
  | .ok _ _ => .bad
  | .exc e ρ' => .exc e ρ'
  | .bad => .bad := rfl
@[simp] theorem z_and : mAnd m1 m2 ρ = match m1 ρ with
  | .ok (.bl b) ρ' => if b = true then m2 ρ' else .ok (.bl false) ρ'
  | .ok _ _ => .bad
  | .exc e ρ' => .exc e ρ'
  | .bad => .bad := rfl
@[simp] theorem z_or : mOr m1 m2 ρ = match m1 ρ with
  | .ok (.bl b) ρ' => if b = true then .ok (.bl true) ρ' else m2 ρ'
  | .ok _ _ => .bad
  | .exc e ρ' => .exc e ρ'
  | .bad => .bad := rfl
@[simp] theorem z_if : mIf m1 m2 m3 ρ = match m1 ρ with
  | .ok (.bl b) ρ' => if b = true then m2 ρ' else m3 ρ'
  | .ok _ _ => .bad
  | .exc e ρ' => .exc e ρ'
  | .bad => .bad := rfl
@[simp] theorem z_lst : mLst ms ρ = match evalM ms ρ with
  | .ok vs ρ' => .ok (.lst true vs) ρ'
  | .exc e ρ' => .exc e ρ'
  | .bad => .bad := rfl
@[simp] theorem z_tup : mTup ms ρ = match evalM ms ρ with
  | .ok vs ρ' => .ok (.tup vs) ρ'
  | .exc e ρ' => .exc e ρ'
  | .bad => .bad := rfl
@[simp] theorem z_next : mNext ρ = .nx ρ := rfl
@[simp] theorem z_seq : mSeq a b ρ = match a ρ with
  | .nx ρ' => b ρ'
  | r => r := rfl
@[simp] theorem z_drop : mDrop m ρ = match m ρ with
  | .ok _ ρ' => .nx ρ'
  | .exc e ρ' => .exc e ρ'
  | .bad => .bad := rfl
@[simp] theorem z_ret : mRet m ρ = match m ρ with
  | .ok v ρ' => .rt v ρ'
  | .exc e ρ' => .exc e ρ'
  | .bad => .bad := rfl
@[simp] theorem z_ifs : mIfS m a b ρ = match m ρ with
  | .ok (.bl t) ρ' => if t = true then a ρ' else b ρ'
  | .ok _ _ => .bad
  | .exc e ρ' => .exc e ρ'
  | .bad => .bad := rfl
@[simp] theorem z_set : mSet i m ρ = match m ρ with
  | .ok v ρ' => if i < ρ'.length then .nx (ρ'.set i (some v)) else .bad
  | .exc e ρ' => .exc e ρ'
  | .bad => .bad := rfl
@[simp] theorem z_par : mPar i j m1 m2 ρ = match evalM [m1, m2] ρ with
  | .ok [v, w] ρ' => if i < ρ'.length ∧ j < ρ'.length then .nx ((ρ'.set i (some v)).set j (some w)) else .bad
  | .ok _ _ => .bad
  | .exc e ρ' => .exc e ρ'
  | .bad => .bad := rfl
@[simp] theorem z_setF {cs : List Nat} {f : Str} : mSetF cs i f m ρ = match m ρ with
  | .ok v ρ1 => (match ρ1[i]? with
    | some (some (.obj true n fs xs)) => if n ∈ cs ∧ fs.length < 1000 then .nx (ρ1.set i (some (.obj true n (putFn f fs) (putFv f v fs xs)))) else .bad
    | _ => .bad)
  | .exc e ρ' => .exc e ρ'
  | .bad => .bad := rfl
@[simp] theorem z_putL {mi : ME} : mPutL i mi m ρ = match m ρ with
  | .ok v ρ1 => (match mi ρ1 with
    | .ok (.int k) ρ2 => if ρ2 = ρ1 then (match ρ2[i]? with
      | some (some (.lst true xs)) => (match ixN xs.length k with
        | some j => .nx (ρ2.set i (some (.lst true (xs.set j v))))
        | none => .bad)
      | _ => .bad) else .bad
    | _ => .bad)
  | .exc e ρ' => .exc e ρ'
  | .bad => .bad := rfl
@[simp] theorem z_call {mf : MF} {as : List Arg} : mCall mf as ρ = if refsOk ρ as = true then (match evalM ((vals as).map Op.m) ρ with
  | .ok vs ρ1 => (match fill as ρ1 vs with
    | some (us, ρ2) => (match mf us with
      | .ok v fs => .ok v (back as fs ρ2)
      | .exc e fs => .exc e (back as fs ρ2)
      | .bad => .bad)
    | none => .bad)
  | .exc e ρ1 => .exc e ρ1
  | .bad => .bad) else .bad := rfl
end
section
variable {a b : Int} {x y : Str} {o : Bool} {xs ys : List Val} {ns : List Int} {c : Bool} {u v : Val}
@[simp] theorem z_add : semAdd [.int a, .int b] = some (.int (a + b)) := rfl
@[simp] theorem z_addS : semAdd [.str x, .str y] = if x.length + y.length ≤ 16777216 then some (.str (x ++ y)) else none := rfl
@[simp] theorem z_addL {p : Bool} : semAdd [.lst o xs, .lst p ys] = if xs.length + ys.length ≤ 16777216 ∧ fzs xs = true ∧ fzs ys = true then some (.lst true (xs ++ ys)) else none := rfl
@[simp] theorem z_sub : semSub [.int a, .int b] = some (.int (a - b)) := rfl
@[simp] theorem z_mul : semMul [.int a, .int b] = if mulOk a b then some (.int (a * b)) else none := rfl
@[simp] theorem z_div : semDiv [.int a, .int b] = if divOk b then some (.int (a / b)) else none := rfl
@[simp] theorem z_mod : semMod [.int a, .int b] = if 0 < b then some (.int (a % b)) else none := rfl
@[simp] theorem z_pow : semPow [.int a, .int b] = if powOk a b then some (.int (a ^ b.toNat)) else none := rfl
@[simp] theorem z_neg : semNeg [.int a] = some (.int (-a)) := rfl
@[simp] theorem z_cmp {f : Int → Int → Bool} : semCmp f [.int a, .int b] = some (.bl (f a b)) := rfl
@[simp] theorem z_lenL : semLen [.lst o xs] = some (.int xs.length) := rfl
@[simp] theorem z_lenT : semLen [.tup xs] = some (.int xs.length) := rfl
@[simp] theorem z_lenW : semLen [.wtp xs] = some (.int xs.length) := rfl
@[simp] theorem z_lenS : semLen [.scr ns] = some (.int ns.length) := rfl
@[simp] theorem z_int : semInt [.int a] = some (.int a) := rfl
@[simp] theorem z_intB : semInt [.bl c] = some (.int (if c then 1 else 0)) := rfl
@[simp] theorem z_str : semStr [.int a] = if a.natAbs.log2 < 1920 then some (.str (toString a)) else none := rfl
@[simp] theorem z_max : semMax2 [.int a, .int b] = some (.int (if b > a then b else a)) := rfl
@[simp] theorem z_min : semMin2 [.int a, .int b] = some (.int (if b < a then b else a)) := rfl
@[simp] theorem z_ixS : semIx [.scr ns, .int a] = match atI ns a with
    | some n => some (.int n)
    | none => none := rfl
@[simp] theorem z_ixL : semIx [.lst o xs, .int a] = match atI xs a with
    | some v => if v.fz = true then some v else none
    | none => none := rfl
@[simp] theorem z_ixT : semIx [.tup xs, .int a] = match atI xs a with
    | some v => if v.fz = true then some v else none
    | none => none := rfl
@[simp] theorem z_fzI : (Val.int a).fz = true := rfl
@[simp] theorem z_fzB : (Val.bl c).fz = true := rfl
@[simp] theorem z_fzN : Val.non.fz = true := rfl
@[simp] theorem z_fzS : (Val.str x).fz = true := rfl
@[simp] theorem z_fzC : (Val.scr ns).fz = true := rfl
@[simp] theorem z_fzL : (Val.lst o xs).fz = (!o && fzs xs) := by simp only [Val.fz]
@[simp] theorem z_fzT : (Val.tup xs).fz = fzs xs := by simp only [Val.fz]
@[simp] theorem z_fzO {n : Nat} {fs : List Str} : (Val.obj o n fs xs).fz = (!o && fzs xs) := by simp only [Val.fz]
@[simp] theorem z_fzs0 : fzs [] = true := by simp only [fzs]
@[simp] theorem z_fzs1 : fzs (v :: xs) = (v.fz && fzs xs) := by simp only [fzs]
@[simp] theorem z_frI : (Val.int a).frz = .int a := by simp only [Val.frz]
@[simp] theorem z_frB : (Val.bl c).frz = .bl c := by simp only [Val.frz]
@[simp] theorem z_frN : Val.non.frz = .non := by simp only [Val.frz]
@[simp] theorem z_frS : (Val.str x).frz = .str x := by simp only [Val.frz]
@[simp] theorem z_frL : (Val.lst o xs).frz = .lst false (frzs xs) := by simp only [Val.frz]
@[simp] theorem z_frT : (Val.tup xs).frz = .tup (frzs xs) := by simp only [Val.frz]
@[simp] theorem z_frO {n : Nat} {fs : List Str} : (Val.obj o n fs xs).frz = .obj false n fs (frzs xs) := by simp only [Val.frz]
@[simp] theorem z_frzs0 : frzs [] = [] := by simp only [frzs]
@[simp] theorem z_frzs1 : frzs (v :: xs) = v.frz :: frzs xs := by simp only [frzs]
mutual
theorem frz_of_fz : ∀ {v : Val}, v.fz = true → v.frz = v
  | .non, _ => by simp
  | .bl _, _ => by simp
  | .int _, _ => by simp
  | .str _, _ => by simp
  | .ty _, _ => by simp only [Val.frz]
  | .cn _, _ => by simp only [Val.frz]
  | .tup xs, h => by simp only [Val.fz] at h; simp only [Val.frz, frzs_of_fzs h]
  | .lst o xs, h => by
    simp only [Val.fz, Bool.and_eq_true, Bool.not_eq_true'] at h
    simp only [Val.frz, frzs_of_fzs h.2, h.1]
  | .dct o d ks xs, h => by
    simp only [Val.fz, Bool.and_eq_true, Bool.not_eq_true'] at h
    simp only [Val.frz, frzs_of_fzs h.2, h.1]
  | .obj o C fs xs, h => by
    simp only [Val.fz, Bool.and_eq_true, Bool.not_eq_true'] at h
    simp only [Val.frz, frzs_of_fzs h.2, h.1]
  | .exn _ _ _, _ => by simp only [Val.frz]
  | .scr _, _ => by simp only [Val.frz]
  | .wdk _ _, _ => by simp only [Val.frz]
  | .wtp _, _ => by simp only [Val.frz]
  | .fn _, _ => by simp only [Val.frz]
theorem frzs_of_fzs : ∀ {vs : List Val}, fzs vs = true → frzs vs = vs
  | [], _ => by simp
  | v :: vs, h => by
    simp only [fzs, Bool.and_eq_true] at h
    simp only [frzs, frz_of_fz h.1, frzs_of_fzs h.2]
end
end
section
variable {ρ : VEnv} {as : List Arg} {i : Nat} {op : Op} {v : Val} {vs : List Val} {x : V}
@[simp] theorem z_v0 : vals [] = [] := rfl
@[simp] theorem z_v1 : vals (.v op :: as) = op :: vals as := rfl
@[simp] theorem z_v2 : vals (.r i :: as) = vals as := rfl
@[simp] theorem z_v3 : vals (.k x v :: as) = vals as := rfl
@[simp] theorem z_r0 : refsOk ρ [] = true := rfl
@[simp] theorem z_r1 : refsOk ρ (.v op :: as) = refsOk ρ as := rfl
@[simp] theorem z_r2 : refsOk ρ (.r i :: as) = (slotOk ρ i && refsOk ρ as) := rfl
@[simp] theorem z_r3 : refsOk ρ (.k x v :: as) = refsOk ρ as := rfl
@[simp] theorem z_slot : slotOk ρ i = match ρ[i]? with
  | some (some _) => true
  | _ => false := rfl
@[simp] theorem z_f0 : fill [] ρ [] = some ([], ρ) := rfl
@[simp] theorem z_f1 : fill (.v op :: as) ρ (v :: vs) = match fill as ρ vs with
    | some (us, ρ') => some (v :: us, ρ')
    | none => none := rfl
@[simp] theorem z_f2 : fill (.r i :: as) ρ vs = match ρ[i]? with
    | some (some v) => (match fill as (ρ.set i none) vs with
      | some (us, ρ') => some (v :: us, ρ')
      | none => none)
    | _ => none := rfl
@[simp] theorem z_f3 : fill (.k x v :: as) ρ vs = match fill as ρ vs with
    | some (us, ρ') => some (v :: us, ρ')
    | none => none := rfl
@[simp] theorem z_b0 {fs : VEnv} : back [] fs ρ = ρ := rfl
@[simp] theorem z_b1 {f : Option Val} {fs : VEnv} : back (.v op :: as) (f :: fs) ρ = back as fs ρ := by cases f <;> rfl
@[simp] theorem z_b2 {f : Val} {fs : VEnv} : back (.r i :: as) (some f :: fs) ρ = back as fs (ρ.set i (some f)) := rfl
@[simp] theorem z_b3 {f : Option Val} {fs : VEnv} : back (.k x v :: as) (f :: fs) ρ = back as fs ρ := by cases f <;> rfl
@[simp] theorem z_o0 : outs [] ρ = [] := rfl
@[simp] theorem z_o1 {b : Bool} {bs : List Bool} {f : Option Val} : outs (b :: bs) (f :: ρ) = (if b = true then f else none) :: outs bs ρ := rfl
end
section
variable {ρ : VEnv} {m : ME} {ms : List ME} {acc a b : Str}
@[simp] theorem z_j0 : mJoin [] acc ρ = .ok (.str acc) ρ := rfl
@[simp] theorem z_j1 : mJoin (m :: ms) acc ρ = match m ρ with
    | .ok (.str y) ρ1 => if (acc ++ y).length ≤ 16777216 then mJoin ms (acc ++ y) ρ1 else .bad
    | .ok _ _ => .bad
    | .exc e ρ1 => .exc e ρ1
    | .bad => .bad := rfl
theorem char_lt (c : Char) : c.toNat < 0x110000 := by
  have := c.valid
  unfold Char.toNat
  rcases this with h | h
  · have : c.val.toNat < 0xd800 := h
    omega
  · exact h.2
theorem strOk_of (s : String) : PyData.strOk (Str.ofString s) = true := by
  unfold PyData.strOk
  rw [← Array.all_toList, PyProof.Rows.signs_ofString, List.all_map, List.all_eq_true]
  exact fun c _ => decide_eq_true (char_lt c)
theorem strOk_app (h : PyData.strOk a = true) (h' : PyData.strOk b = true) : PyData.strOk (a ++ b) = true := by
  unfold PyData.strOk at *
  show (a.cps ++ b.cps).all _ = true
  simp only [Array.all_append, h, h', Bool.and_self]
theorem str_app_len : (a ++ b).length = a.length + b.length := by
  show (a.cps ++ b.cps).size = _
  simp [Str.length]
end
@[simp] theorem eq_int (a b : Int) : semEq [.int a, .int b] = some (.bl (decide (a = b))) := by
  simp [semEq, eqD, toD, SeqAt.shaped, PyData.eqv, PyData.canLay0, PyData.depth, Bool.beq_eq_decide_eq]
@[simp] theorem ne_int (a b : Int) : semNe [.int a, .int b] = some (.bl (!decide (a = b))) := by
  simp [semNe, eqD, toD, SeqAt.shaped, PyData.eqv, PyData.canLay0, PyData.depth, Bool.beq_eq_decide_eq]
@[simp] theorem eq_bl (a b : Bool) : semEq [.bl a, .bl b] = some (.bl (decide (a = b))) := by
  simp [semEq, eqD, toD, SeqAt.shaped, PyData.eqv, PyData.canLay0, PyData.depth, Bool.beq_eq_decide_eq]
@[simp] theorem ne_bl (a b : Bool) : semNe [.bl a, .bl b] = some (.bl (!decide (a = b))) := by
  simp [semNe, eqD, toD, SeqAt.shaped, PyData.eqv, PyData.canLay0, PyData.depth, Bool.beq_eq_decide_eq]
theorem eq_str {a b : Str} (h1 : PyData.strOk a = true) (h2 : PyData.strOk b = true) : semEq [.str a, .str b] = some (.bl (decide (a = b))) := by
  simp [semEq, eqD, toD, SeqAt.shaped, PyData.eqv, PyData.canLay0, PyData.depth, Bool.beq_eq_decide_eq, h1, h2]
@[simp] theorem z_asg {m : ME} {g : MG} {ρ : VEnv} : mAsg m g ρ = (match m ρ with
  | .ok v ρ' => (match g v ρ' with
    | some ρ2 => .nx ρ2
    | none => .bad)
  | .exc e ρ' => .exc e ρ'
  | .bad => .bad) := rfl
@[simp] theorem z_gV {i : Nat} {v : Val} {ρ : VEnv} : gV i v ρ = if i < ρ.length then some (ρ.set i (some v)) else none := rfl
@[simp] theorem z_gTup {g : MGs} {n : Nat} {vs : List Val} {ρ : VEnv} : gTupV g n (.tup vs) ρ = if vs.length = n then g vs ρ else none := rfl
@[simp] theorem z_gNil {ρ : VEnv} : gNilV [] ρ = some ρ := rfl
@[simp] theorem z_gCons {g : MG} {gs : MGs} {v : Val} {vs : List Val} {ρ : VEnv} : gConsV g gs (v :: vs) ρ = (match g v ρ with
  | some ρ' => gs vs ρ'
  | none => none) := rfl
end VL
/-! VL, part EV: reckoning step by step, nothing unfolded. -/
namespace VL
open PySem L2
section
variable {ρ ρ' ρ1 ρ2 : VEnv} {m m1 m2 m3 c : ME} {a b v w : Val} {p1 s1 p2 s2 p3 s3 : Bool} {i : Nat}
theorem E_var (h : ρ[i]? = some (some v)) : mVar i ρ = .ok v ρ := by simp [h]
theorem E_stab (h : ρ[i]? = some (some v)) (hf : v.fz = true) : mStab (mVar i) ρ = .ok v ρ := by simp [h, hf]
theorem E_c : mC v ρ = .ok v ρ := rfl
theorem E_fz (h : m ρ = .ok v ρ') (e : v.frz = w) : mFz m ρ = .ok w ρ' := by simp [h, e]
theorem E_f1 {sm : List Val → Option Val} (h1 : m1 ρ = .ok a ρ1) (e : sm [a] = some v) : mFun sm [m1] ρ = .ok v ρ1 := by simp [h1, e]
theorem E_f2 {sm : List Val → Option Val} (h1 : m1 ρ = .ok a ρ1) (h2 : m2 ρ1 = .ok b ρ2) (e : sm [a, b] = some v) : mFun sm [m1, m2] ρ = .ok v ρ2 := by simp [h1, h2, e]
theorem E_call1 {f : MF} {x : Option Val} (h1 : m1 ρ = .ok a ρ1) (e : f [a] = .ok v [x]) : mCall f [.v ⟨p1, s1, m1⟩] ρ = .ok v ρ1 := by simp [h1, e]
theorem E_call2 {f : MF} {x y : Option Val} (h1 : m1 ρ = .ok a ρ1) (h2 : m2 ρ1 = .ok b ρ2) (e : f [a, b] = .ok v [x, y]) : mCall f [.v ⟨p1, s1, m1⟩, .v ⟨p2, s2, m2⟩] ρ = .ok v ρ2 := by simp [h1, h2, e]
theorem E_call3 {f : MF} {x y z : Option Val} {d : Val} {ρ3 : VEnv} (h1 : m1 ρ = .ok a ρ1) (h2 : m2 ρ1 = .ok b ρ2) (h3 : m3 ρ2 = .ok d ρ3) (e : f [a, b, d] = .ok v [x, y, z]) : mCall f [.v ⟨p1, s1, m1⟩, .v ⟨p2, s2, m2⟩, .v ⟨p3, s3, m3⟩] ρ = .ok v ρ3 := by simp [h1, h2, h3, e]
theorem E_objC {n : Nat} {mn : Str} (h : m ρ = .ok v ρ') (o : objC n mn v = true) : mObjC n mn m ρ = .ok v ρ' := by simp [mObjC, h, o]
theorem E_orF (h1 : m1 ρ = .ok (.bl false) ρ1) (h2 : m2 ρ1 = .ok v ρ2) : mOr m1 m2 ρ = .ok v ρ2 := by simp [h1, h2]
theorem E_orT (h1 : m1 ρ = .ok (.bl true) ρ1) : mOr m1 m2 ρ = .ok (.bl true) ρ1 := by simp [h1]
theorem E_andT (h1 : m1 ρ = .ok (.bl true) ρ1) (h2 : m2 ρ1 = .ok v ρ2) : mAnd m1 m2 ρ = .ok v ρ2 := by simp [h1, h2]
theorem E_andF (h1 : m1 ρ = .ok (.bl false) ρ1) : mAnd m1 m2 ρ = .ok (.bl false) ρ1 := by simp [h1]
theorem E_not {k : Bool} (h1 : m1 ρ = .ok (.bl k) ρ1) : mNot m1 ρ = .ok (.bl !k) ρ1 := by simp [h1]
theorem E_ifT {A B : MS} (h : c ρ = .ok (.bl true) ρ1) : mIfS c A B ρ = A ρ1 := by simp [h]
theorem E_ifF {A B : MS} (h : c ρ = .ok (.bl false) ρ1) : mIfS c A B ρ = B ρ1 := by simp [h]
theorem E_set (h : m ρ = .ok v ρ') (hi : i < ρ'.length) (e : ρ'.set i (some v) = ρ2) : mSet i m ρ = .nx ρ2 := by simp [h, hi, e]
theorem E_ret (h : m ρ = .ok v ρ') : mRet m ρ = .rt v ρ' := by simp [h]
theorem E_seq {A B : MS} {r : RS} (h : A ρ = .nx ρ') (h2 : B ρ' = r) : mSeq A B ρ = r := by simp [h, h2]
theorem E_next : mNext ρ = .nx ρ := rfl
theorem E_par {j : Nat} (h1 : m1 ρ = .ok a ρ1) (h2 : m2 ρ1 = .ok b ρ2) (hi : i < ρ2.length) (hj : j < ρ2.length) (e : (ρ2.set i (some a)).set j (some b) = ρ') : mPar i j m1 m2 ρ = .nx ρ' := by simp [mPar, h1, h2, hi, hj, e]
theorem E_lst1 (h1 : m1 ρ = .ok a ρ1) : mLst [m1] ρ = .ok (.lst true [a]) ρ1 := by simp [h1]
theorem E_body {bs : List Bool} {N : Nat} {m : MS} {vs : List Val} {ρ0 : VEnv} (h0 : vs.map some ++ List.replicate (N - bs.length) none = ρ0) (h : m ρ0 = .rt w ρ') : mBody bs N m vs = .ok w (outs bs ρ') := by
  unfold mBody
  rw [h0, h]
theorem E_bodyN {bs : List Bool} {N : Nat} {m : MS} {vs : List Val} {ρ0 : VEnv} (h0 : vs.map some ++ List.replicate (N - bs.length) none = ρ0) (h : m ρ0 = .nx ρ') : mBody bs N m vs = .ok .non (outs bs ρ') := by
  unfold mBody
  rw [h0, h]
theorem E_drop (h : m ρ = .ok v ρ') : mDrop m ρ = .nx ρ' := by simp [h]
theorem E_call0 {f : MF} (e : f [] = .ok v []) : mCall f [] ρ = .ok v ρ := by simp [e]
end
end VL
/-! VL, part EW: more reckoning step by step. -/
namespace VL
open PySem L2
section
variable {ρ ρ' ρ1 ρ2 ρ3 : VEnv} {m m1 m2 m3 c : ME} {a b v w : Val} {p1 s1 p2 s2 p3 s3 : Bool} {i : Nat}
theorem E_asgD {g : MG} (h : m ρ = .ok v ρ1) (hf : v.fz = true) (e : g v ρ1 = some ρ2) : mAsgD m g ρ = .nx ρ2 := by
  unfold mAsgD
  simp only [h]
  rw [if_pos hf]
  simp only [e]
theorem E_putD {k : Val} {mk : ME} {ks vs : List Val} (hk : mk ρ = .ok k ρ) (ik : isKey .k k = true) (hρ : ρ[i]? = some (some (.dct true .k ks vs))) (hf : fzs vs = true) (hl : ks.length = vs.length) (h2 : ks.length < 1000) (e : dctOf (putD (ks.zip vs) k v) = w) (e2 : ρ.set i (some w) = ρ') : gPutD i mk v ρ = some ρ' := by
  have h3 : ks.length < 16777216 := by omega
  unfold gPutD
  simp only [hk, hρ]
  rw [if_pos ⟨trivial, ik⟩, if_pos ⟨hf, hl, h3⟩, e, e2]
theorem E_orV1 (h : m1 ρ = .ok v ρ1) (t : truB v = some true) : mOrV m1 m2 ρ = .ok v ρ1 := by
  unfold mOrV
  simp only [h, t]
theorem E_orV2 (h : m1 ρ = .ok v ρ1) (t : truB v = some false) (h2 : m2 ρ1 = .ok w ρ2) : mOrV m1 m2 ρ = .ok w ρ2 := by
  unfold mOrV
  simp only [h, t, h2]
theorem E_forN {g : MG} {body : MS} : forL g body [] ρ = .nx ρ := rfl
theorem E_forC {g : MG} {body : MS} {us : List Val} {r : RS} (h : g v ρ = some ρ1) (hb : body ρ1 = .nx ρ2) (t : forL g body us ρ2 = r) : forL g body (v :: us) ρ = r := by
  unfold forL
  simp only [h, hb, t]
theorem E_for {mi : MI} {g : MG} {body : MS} {us : List Val} {r : RS} (h : mi ρ = .ok us ρ1) (t : forL g body us ρ1 = r) : mFor mi g body ρ = r := by
  unfold mFor
  simp only [h, t]
theorem E_itL {xs : List Val} (h : m ρ = .ok (.lst false xs) ρ1) : mItemsL m ρ = .ok xs ρ1 := by
  unfold mItemsL
  simp only [h]
theorem E_gV (h : i < ρ.length) (e : ρ.set i (some v) = ρ') : gV i v ρ = some ρ' := by rw [z_gV, if_pos h, e]
theorem E_ifeT (h : c ρ = .ok (.bl true) ρ1) : mIf c m1 m2 ρ = m1 ρ1 := by simp [h]
theorem E_ifeF (h : c ρ = .ok (.bl false) ρ1) : mIf c m1 m2 ρ = m2 ρ1 := by simp [h]
theorem E_app {xs : List Val} (h : m ρ = .ok v ρ1) (h0 : ρ[i]? = some (some (.lst true xs))) (hl : xs.length < 1000000) (e : ρ.set i (some (.lst true (xs ++ [v]))) = ρ') : mDrop (mLop i [] fApp m) ρ = .nx ρ' := by
  have h2 : fApp xs v = some (xs ++ [v]) := if_pos (by omega)
  simp only [z_drop, mLop, h0, getP, h, h2, setP, e]
theorem E_par3 {j l : Nat} (h1 : m1 ρ = .ok a ρ1) (h2 : m2 ρ1 = .ok b ρ2) (h3 : m3 ρ2 = .ok v ρ3) (hi : i < ρ3.length) (hj : j < ρ3.length) (hl : l < ρ3.length) (e : ((ρ3.set i (some a)).set j (some b)).set l (some v) = ρ') : mPar3 i j l m1 m2 m3 ρ = .nx ρ' := by simp [mPar3, h1, h2, h3, hi, hj, hl, e]
theorem E_rng1 {n : Nat} (h : m ρ = .ok (.int (n : Int)) ρ1) (hn : n ≤ 1000000) : mRng1 m ρ = .ok ((List.range n).map fun i : Nat => Val.int (i : Int)) ρ1 := by
  unfold mRng1
  rw [h]
  show (if -(2 ^ 62) ≤ (n : Int) ∧ (n : Int) < 2 ^ 62 then _ else _) = _
  rw [if_pos ⟨by omega, by omega⟩]
  simp
theorem E_tup2 (h1 : m1 ρ = .ok a ρ1) (h2 : m2 ρ1 = .ok b ρ2) : mTup [m1, m2] ρ = .ok (.tup [a, b]) ρ2 := by simp [h1, h2]
theorem E_lst2 (h1 : m1 ρ = .ok a ρ1) (h2 : m2 ρ1 = .ok b ρ2) : mLst [m1, m2] ρ = .ok (.lst true [a, b]) ρ2 := by simp [h1, h2]
theorem E_lst3 (h1 : m1 ρ = .ok a ρ1) (h2 : m2 ρ1 = .ok b ρ2) (h3 : m3 ρ2 = .ok v ρ3) : mLst [m1, m2, m3] ρ = .ok (.lst true [a, b, v]) ρ3 := by simp [h1, h2, h3]
/-- a call that changes the name in slot i -/
theorem E_callR1 {f : MF} {a' : Val} (h0 : ρ[i]? = some (some a)) (e : f [a] = .ok v [some a']) (es : ρ.set i (some a') = ρ') : mCall f [.r i] ρ = .ok v ρ' := by simp [h0, e, es]
theorem E_callR2 {f : MF} {a' : Val} {y : Option Val} (h : m ρ = .ok b ρ1) (h0 : ρ1[i]? = some (some a)) (h00 : ∃ z, ρ[i]? = some (some z)) (e : f [a, b] = .ok v [some a', y]) (es : ρ1.set i (some a') = ρ') : mCall f [.r i, .v ⟨p1, s1, m⟩] ρ = .ok v ρ' := by
  obtain ⟨z, hz⟩ := h00
  simp [hz, h, h0, e, es]
end
/-! ### for the tactic -/
section
variable {ρ ρ' ρ1 ρ2 : VEnv} {m c : ME} {ms : List ME} {v w : Val} {vs us : List Val} {i : Nat}
theorem EM_nil : evalM [] ρ = .ok [] ρ := rfl
theorem EM_cons (h : m ρ = .ok v ρ1) (t : evalM ms ρ1 = .ok vs ρ2) : evalM (m :: ms) ρ = .ok (v :: vs) ρ2 := by simp [h, t]
theorem E_fun {sm : List Val → Option Val} (h : evalM ms ρ = .ok us ρ1) (e : sm us = some v) : mFun sm ms ρ = .ok v ρ1 := by simp [h, e]
def argMs : List Arg → List ME
  | [] => []
  | .v ⟨_, _, m⟩ :: as => m :: argMs as
  | .r _ :: as => argMs as
  | .k _ _ :: as => argMs as
theorem argMs_eq : ∀ as : List Arg, (vals as).map Op.m = argMs as
  | [] => rfl
  | .v ⟨_, _, m⟩ :: as => by simp [argMs, vals, argMs_eq as]
  | .r _ :: as => by simp [argMs, vals, argMs_eq as]
  | .k _ _ :: as => by simp [argMs, vals, argMs_eq as]
theorem E_callG {mf : MF} {as : List Arg} {fs : VEnv} (hr : refsOk ρ as = true) (h : evalM (argMs as) ρ = .ok us ρ1) (hf : fill as ρ1 us = some (vs, ρ2)) (e : mf vs = .ok v fs) (hb : back as fs ρ2 = ρ') : mCall mf as ρ = .ok v ρ' := by
  rw [← argMs_eq] at h
  simp only [z_call, hr, if_true, h, hf, e, hb]
theorem E_lstM (h : evalM ms ρ = .ok us ρ1) : mLst ms ρ = .ok (.lst true us) ρ1 := by simp [h]
theorem E_tupM (h : evalM ms ρ = .ok us ρ1) : mTup ms ρ = .ok (.tup us) ρ1 := by simp [h]
theorem E_dctM {ns : List Str} (h : evalM ms ρ = .ok us ρ1) : mDct ns ms ρ = .ok (.dct true .k (ns.map Val.str) us) ρ1 := by unfold mDct; rw [h]
theorem E_frz (h : ρ[i]? = some (some v)) (e : v.frz = w) (e2 : ρ.set i (some w) = ρ') : mFrz i ρ = .ok w ρ' := by simp [h, e, e2]
theorem E_mov (h : ρ[i]? = some (some v)) (e2 : ρ.set i none = ρ') : mMov i ρ = .ok v ρ' := by unfold mMov; rw [h, ← e2]
end
section
variable {ρ ρ' ρ1 ρ2 : VEnv} {m m1 m2 c : ME} {v w : Val} {i : Nat} {k l : Bool}
theorem E_orB (h1 : m1 ρ = .ok (.bl k) ρ1) (h2 : m2 ρ1 = .ok (.bl l) ρ1) : mOr m1 m2 ρ = .ok (.bl (k || l)) ρ1 := by cases k <;> simp [h1, h2]
theorem E_andB (h1 : m1 ρ = .ok (.bl k) ρ1) (h2 : m2 ρ1 = .ok (.bl l) ρ1) : mAnd m1 m2 ρ = .ok (.bl (k && l)) ρ1 := by cases k <;> simp [h1, h2]
theorem E_propR {C : Nat} {f : MF} {o : Bool} {fs : List Str} {xs : List Val} (h0 : ρ[i]? = some (some v)) (hf : f [v] = .ok w [some v]) (hv : v = .obj o C fs xs) : mPropR C f i ρ = .ok w ρ := by
  subst hv
  have hi := (List.getElem?_eq_some_iff.mp h0).1
  have hs : ρ.set i (some (.obj o C fs xs)) = ρ := by
    apply List.ext_getElem?
    intro j
    by_cases hj : i = j
    · subst hj; rw [List.getElem?_set_self hi, h0]
    · rw [List.getElem?_set_ne hj]
  unfold mPropR
  rw [h0]
  show (if C = C then mCall (mfNoX f) [.r i] ρ else .bad) = _
  simp [mfNoX, h0, hf, hs]
theorem E_methR0 {C : Nat} {mn : Str} {f : MF} {o : Bool} {fs : List Str} {xs : List Val} (h0 : ρ[i]? = some (some v)) (hf : f [v] = .ok w [some v]) (ho : objC C mn v = true) : mMethR C mn f i [] ρ = .ok w ρ := by
  have hi := (List.getElem?_eq_some_iff.mp h0).1
  have hs : ρ.set i (some v) = ρ := by
    apply List.ext_getElem?
    intro j
    by_cases hj : i = j
    · subst hj; rw [List.getElem?_set_self hi, h0]
    · rw [List.getElem?_set_ne hj]
  simp [mMethR, h0, ho, hf, hs]
theorem E_asg {g : MG} (h : m ρ = .ok v ρ1) (e : g v ρ1 = some ρ2) : mAsg m g ρ = .nx ρ2 := by simp [h, e]
end
/-! ### a block runs to its end -/
def Runs (m : MS) (ρ : VEnv) (I : VEnv → Prop) : Prop := ∃ ρ', m ρ = .nx ρ' ∧ I ρ'
section
variable {ρ ρ' ρ1 ρ2 : VEnv} {m c : ME} {v : Val} {A B : MS} {I J : VEnv → Prop}
theorem R_seq (h : A ρ = .nx ρ') (t : Runs B ρ' I) : Runs (mSeq A B) ρ I := let ⟨ρ2, e, i⟩ := t; ⟨ρ2, E_seq h e, i⟩
theorem R_seqK (h : Runs A ρ J) (t : ∀ ρ', J ρ' → Runs B ρ' I) : Runs (mSeq A B) ρ I := let ⟨_, e, j⟩ := h; R_seq e (t _ j)
theorem R_end (h : A ρ = .nx ρ') (i : I ρ') : Runs A ρ I := ⟨_, h, i⟩
theorem R_next (i : I ρ) : Runs mNext ρ I := ⟨_, rfl, i⟩
theorem R_ifT (h : c ρ = .ok (.bl true) ρ1) (t : Runs A ρ1 I) : Runs (mIfS c A B) ρ I := let ⟨ρ2, e, i⟩ := t; ⟨ρ2, (E_ifT h).trans e, i⟩
theorem R_ifF (h : c ρ = .ok (.bl false) ρ1) (t : Runs B ρ1 I) : Runs (mIfS c A B) ρ I := let ⟨ρ2, e, i⟩ := t; ⟨ρ2, (E_ifF h).trans e, i⟩
theorem R_mono (h : Runs A ρ J) (f : ∀ ρ', J ρ' → I ρ') : Runs A ρ I := let ⟨_, e, j⟩ := h; ⟨_, e, f _ j⟩
theorem R_set {i : Nat} (h : m ρ = .ok v ρ1) (hi : i < ρ1.length) (e : ρ1.set i (some v) = ρ2) (t : Runs B ρ2 I) : Runs (mSeq (mSet i m) B) ρ I := R_seq (E_set h hi e) t
theorem R_setE {i : Nat} (h : m ρ = .ok v ρ1) (hi : i < ρ1.length) (e : ρ1.set i (some v) = ρ2) (t : I ρ2) : Runs (mSet i m) ρ I := R_end (E_set h hi e) t
theorem R_guardF (h : c ρ = .ok (.bl false) ρ1) (t : Runs B ρ1 I) : Runs (mSeq (mIfS c A mNext) B) ρ I := R_seq ((E_ifF h).trans E_next) t
theorem R_guardFE (h : c ρ = .ok (.bl false) ρ1) (t : I ρ1) : Runs (mIfS c A mNext) ρ I := R_ifF h (R_next t)
theorem R_guardK {k : Bool} (h : c ρ = .ok (.bl k) ρ1) (hk : k = false) (t : Runs B ρ1 I) : Runs (mSeq (mIfS c A mNext) B) ρ I := by subst hk; exact R_guardF h t
theorem R_guardKE {k : Bool} (h : c ρ = .ok (.bl k) ρ1) (hk : k = false) (t : I ρ1) : Runs (mIfS c A mNext) ρ I := by subst hk; exact R_guardFE h t
theorem R_asg {g : MG} (h : m ρ = .ok v ρ1) (e : g v ρ1 = some ρ2) (t : Runs B ρ2 I) : Runs (mSeq (mAsg m g) B) ρ I := R_seq (E_asg h e) t
theorem R_drop (h : m ρ = .ok v ρ1) (t : Runs B ρ1 I) : Runs (mSeq (mDrop m) B) ρ I := R_seq (E_drop h) t
theorem E_notF (h : m ρ = .ok (.bl true) ρ1) : mNot m ρ = .ok (.bl false) ρ1 := E_not h
theorem E_notT (h : m ρ = .ok (.bl false) ρ1) : mNot m ρ = .ok (.bl true) ρ1 := E_not h
/-- for i in ..: the same thing holds ahead of each turn -/
theorem R_for {mi : MI} {g : MG} {body : MS} {us : List Val} (h : mi ρ = .ok us ρ1) (h0 : J ρ1) (hb : ∀ u ∈ us, ∀ ρ, J ρ → ∃ ρ2, g u ρ = some ρ2 ∧ Runs body ρ2 J) : Runs (mFor mi g body) ρ J := by
  have key : ∀ (us : List Val) (ρ : VEnv), (∀ u ∈ us, ∀ ρ, J ρ → ∃ ρ2, g u ρ = some ρ2 ∧ Runs body ρ2 J) → J ρ → ∃ ρ', forL g body us ρ = .nx ρ' ∧ J ρ' := by
    intro us
    induction us with
    | nil => exact fun ρ _ j => ⟨ρ, rfl, j⟩
    | cons u us ih =>
      intro ρ hb j
      obtain ⟨ρ2, e1, ρ3, e2, j3⟩ := hb u List.mem_cons_self ρ j
      obtain ⟨ρ4, e4, j4⟩ := ih ρ3 (fun v hv => hb v (List.mem_cons_of_mem _ hv)) j3
      exact ⟨ρ4, E_forC e1 e2 e4, j4⟩
  obtain ⟨ρ', e, j⟩ := key us ρ1 hb h0
  exact ⟨ρ', E_for h e, j⟩
/-- for i in range(n): what holds ahead of turn k -/
theorem R_forN {mi : MI} {g : MG} {body : MS} {n : Nat} {J : Nat → VEnv → Prop} (h : mi ρ = .ok ((List.range n).map fun i : Nat => Val.int (i : Int)) ρ1) (h0 : J 0 ρ1) (hb : ∀ k ρ, k < n → J k ρ → ∃ ρ2, g (.int (k : Int)) ρ = some ρ2 ∧ Runs body ρ2 (J (k + 1))) : Runs (mFor mi g body) ρ (J n) := by
  have key : ∀ (m : Nat) (ρ : VEnv), m ≤ n → J (n - m) ρ → ∃ ρ', forL g body (((List.range n).map fun i : Nat => Val.int (i : Int)).drop (n - m)) ρ = .nx ρ' ∧ J n ρ' := by
    intro m
    induction m with
    | zero =>
      intro ρ _ j
      refine ⟨ρ, ?_, j⟩
      rw [List.drop_eq_nil_of_le (by simp)]
      rfl
    | succ m ih =>
      intro ρ hm j
      obtain ⟨ρ2, e1, ρ3, e2, j3⟩ := hb (n - (m + 1)) ρ (by omega) j
      have e : n - (m + 1) + 1 = n - m := by omega
      rw [e] at j3
      obtain ⟨ρ4, e4, j4⟩ := ih ρ3 (by omega) j3
      refine ⟨ρ4, ?_, j4⟩
      rw [List.drop_eq_getElem_cons (by simp; omega)]
      rw [e]
      refine E_forC (ρ1 := ρ2) (ρ2 := ρ3) ?_ e2 e4
      simpa using e1
  obtain ⟨ρ', e, j⟩ := key n ρ1 (Nat.le_refl _) (by simpa using h0)
  rw [Nat.sub_self, List.drop_zero] at e
  exact ⟨ρ', E_for h e, j⟩
/-- a law's own loop: for k in range(max(1, min(c, len(script)))), then True -/
theorem law_runs {ns : List Int} {N : Nat} {body : MS} {c : Int} (hc : 1 ≤ c ∧ c ≤ 63) (hN : 2 ≤ N)
    (hb : ∀ (k : Nat) (xs : VEnv), k < c.toNat → xs.length = N - 2 → Runs body (some (.scr ns) :: some (.int (k : Int)) :: xs) fun ρ => ρ[0]? = some (some (.scr ns)) ∧ ρ.length = N) :
    mBody [false] N (mSeq (mFor (mRng1 (mFun semMax2 [(mC (.int 1)), (mFun semMin2 [(mC (.int c)), (mFun semLen [(mVar 0)])])])) (gV 1) body) (mRet (mC (.bl true)))) [.scr ns] = .ok (.bl true) [none] := by
  obtain ⟨n, hn⟩ : ∃ n : Int, (if 1 < if (ns.length : Int) < c then (ns.length : Int) else c then if (ns.length : Int) < c then (ns.length : Int) else c else 1) = n := ⟨_, rfl⟩
  have hb2 : 0 ≤ n ∧ n ≤ c := by
    subst hn
    split <;> (try split) <;> omega
  let ρ0 : VEnv := some (.scr ns) :: List.replicate (N - 1) none
  have e1 : mRng1 (mFun semMax2 [(mC (.int 1)), (mFun semMin2 [(mC (.int c)), (mFun semLen [(mVar 0)])])]) ρ0 = .ok ((List.range n.toNat).map fun i : Nat => Val.int (i : Int)) ρ0 := by
    have e2 : mFun semMax2 [(mC (.int 1)), (mFun semMin2 [(mC (.int c)), (mFun semLen [(mVar 0)])])] ρ0 = .ok (.int n) ρ0 := by
      refine E_f2 E_c (E_f2 E_c (E_f1 (E_var rfl) rfl) rfl) ?_
      rw [← hn]; rfl
    unfold mRng1
    rw [e2]
    show (if -(2 ^ 62) ≤ n ∧ n < 2 ^ 62 then _ else _) = _
    rw [if_pos ⟨by omega, by omega⟩]
  have r := R_for (ρ := ρ0) (J := fun ρ => ρ[0]? = some (some (.scr ns)) ∧ ρ.length = N) (g := gV 1) (body := body) e1 ⟨rfl, by simp [ρ0]; omega⟩ fun u hu ρ ⟨h0, hl⟩ => by
    obtain ⟨k, hk, rfl⟩ := List.mem_map.mp hu
    have hk := List.mem_range.mp hk
    match ρ, h0, hl with
    | x0 :: x1 :: xs, h0, hl =>
      simp at h0
      subst h0
      exact ⟨_, E_gV (by simp) rfl, hb k xs (by omega) (by simp at hl; omega)⟩
    | [x0], _, hl => simp at hl; omega
    | [], _, hl => simp at hl; omega
  obtain ⟨ρ', e, h0, hl⟩ := r
  match ρ', h0, hl with
  | x0 :: xs, h0, hl =>
    refine E_body (ρ0 := ρ0) (ρ' := x0 :: xs) ?_ (E_seq e (E_ret E_c))
    simp [ρ0]
  | [], h0, _ => simp at h0
end
/-! ### == of plain data -/
def scD : Val → Bool
  | .non => true | .bl _ => true | .int _ => true | .str x => PyData.strOk x
  | _ => false
/-- plain data, so deep at most -/
def plD : Nat → Val → Bool
  | 0, v => scD v
  | n + 1, .tup xs => xs.all (plD n)
  | n + 1, .lst _ xs => xs.all (plD n)
  | _ + 1, v => scD v
/-- no True or False in it -/
def nbD : Nat → Val → Bool
  | 0, .bl _ => false
  | 0, _ => true
  | n + 1, .tup xs => xs.all (nbD n)
  | n + 1, .lst _ xs => xs.all (nbD n)
  | _ + 1, .bl _ => false
  | _ + 1, _ => true
theorem toD_sc {v : Val} (h : scD v = true) : ∃ d, toD v = some d ∧ d.canLay0 = true ∧ d.depth = 0 := by
  cases v <;> simp [scD] at h
  · exact ⟨_, rfl, by simp [PyData.canLay0], by simp [PyData.depth]⟩
  · exact ⟨_, rfl, by simp [PyData.canLay0], by simp [PyData.depth]⟩
  · exact ⟨_, rfl, by simp [PyData.canLay0], by simp [PyData.depth]⟩
  · exact ⟨_, rfl, by simpa [PyData.canLay0] using h, by simp [PyData.depth]⟩
theorem toDs_pl {P : Val → Bool} {n : Nat} (h : ∀ v, P v = true → ∃ d, toD v = some d ∧ d.canLay0 = true ∧ d.depth ≤ n) : ∀ {xs : List Val}, xs.all P = true → ∃ ds, toDs xs = some ds ∧ PyData.canLayAll0 ds = true ∧ PyData.depthAll ds ≤ n
  | [], _ => ⟨[], rfl, by simp [PyData.canLayAll0], by simp [PyData.depthAll]⟩
  | x :: xs, hx => by
    simp only [List.all_cons, Bool.and_eq_true] at hx
    obtain ⟨d, e1, e2, e3⟩ := h x hx.1
    obtain ⟨ds, f1, f2, f3⟩ := toDs_pl h hx.2
    exact ⟨d :: ds, by simp [toDs, e1, f1], by simp [PyData.canLayAll0, e2, f2], by simp [PyData.depthAll]; omega⟩
theorem toD_pl : ∀ {n : Nat} {v : Val}, plD n v = true → ∃ d, toD v = some d ∧ d.canLay0 = true ∧ d.depth ≤ n
  | 0, v, h => let ⟨d, a, b, c⟩ := toD_sc (v := v) (by simpa [plD] using h); ⟨d, a, b, by omega⟩
  | n + 1, v, h => by
    cases v with
    | tup xs =>
      obtain ⟨ds, a, b, c⟩ := toDs_pl (P := plD n) (fun v hv => toD_pl hv) (by simpa [plD] using h)
      exact ⟨.tuple ds, by simp [toD, a], by simpa [PyData.canLay0] using b, by simp [PyData.depth]; omega⟩
    | lst o xs =>
      obtain ⟨ds, a, b, c⟩ := toDs_pl (P := plD n) (fun v hv => toD_pl hv) (by simpa [plD] using h)
      exact ⟨.list ds, by simp [toD, a], by simpa [PyData.canLay0] using b, by simp [PyData.depth]; omega⟩
    | _ =>
      obtain ⟨d, a, b, c⟩ := toD_sc (by simpa [plD] using h)
      exact ⟨d, a, b, by omega⟩
mutual
theorem toD_frz : ∀ v : Val, toD v.frz = toD v
  | .tup xs => by simp [Val.frz, toD, toDs_frz xs]
  | .lst o xs => by simp [Val.frz, toD, toDs_frz xs]
  | .non => by simp [Val.frz] | .bl _ => by simp [Val.frz] | .int _ => by simp [Val.frz] | .str _ => by simp [Val.frz] | .ty _ => by simp [Val.frz] | .cn _ => by simp [Val.frz]
  | .dct _ _ _ _ => by simp [Val.frz, toD] | .obj _ _ _ _ => by simp [Val.frz, toD] | .exn _ _ _ => by simp [Val.frz]
  | .scr _ => by simp [Val.frz] | .wdk _ _ => by simp [Val.frz] | .wtp _ => by simp [Val.frz] | .fn _ => by simp [Val.frz]
theorem toDs_frz : ∀ xs : List Val, toDs (frzs xs) = toDs xs
  | [] => by simp [frzs]
  | x :: xs => by simp [frzs, toDs, toD_frz x, toDs_frz xs]
end
theorem shaped_of {d : PyData} {n : Nat} (h : d.canLay0 = true) (h2 : d.depth ≤ n) (hn : n ≤ 64) : SeqAt.shaped d = true := by
  simp [SeqAt.shaped, h]; omega
/-- equal trees are equal -/
theorem eqD_same {n : Nat} (hn : n ≤ 64) {a b : Val} (h : plD n a = true) (e : a.frz = b.frz) : eqD a b = some true := by
  obtain ⟨d, e1, e2, e3⟩ := toD_pl h
  have e4 : toD b = some d := by rw [← toD_frz b, ← e, toD_frz a, e1]
  simp [eqD, e1, e4, shaped_of e2 e3 hn, SeqAt.eqv_refl d e2]
/-! what equal data stands for -/
mutual
theorem eqv_back : ∀ (n : Nat) (v w : Val) (d e : PyData), toD v = some d → toD w = some e → nbD n v = true → nbD n w = true → plD n v = true → PyData.eqv d e = true → v.frz = w.frz
  | n, v, w, d, e, h1, h2, b1, b2, p1, q => by
    cases v with
    | tup xs =>
      cases n with
      | zero => simp [plD, scD] at p1
      | succ n =>
      simp only [toD] at h1
      split at h1 <;> simp at h1
      rename_i ds hds
      subst h1
      cases w <;> simp [toD] at h2 <;> (try (subst h2; simp [PyData.eqv] at q))
      all_goals (split at h2 <;> simp at h2; subst h2)
      · rename_i ys _ es hes
        simp only [PyData.eqv] at q
        have := eqvs_back n xs ys ds es hds hes (by simpa [nbD] using b1) (by simpa [nbD] using b2) (by simpa [plD] using p1) q
        simp [Val.frz, this]
      · simp [PyData.eqv] at q
    | lst o xs =>
      cases n with
      | zero => simp [plD, scD] at p1
      | succ n =>
      simp only [toD] at h1
      split at h1 <;> simp at h1
      rename_i ds hds
      subst h1
      cases w <;> simp [toD] at h2 <;> (try (subst h2; simp [PyData.eqv] at q))
      all_goals (split at h2 <;> simp at h2; subst h2)
      · simp [PyData.eqv] at q
      · rename_i ys _ es hes
        simp only [PyData.eqv] at q
        have := eqvs_back n xs ys ds es hds hes (by simpa [nbD] using b1) (by simpa [nbD] using b2) (by simpa [plD] using p1) q
        simp [Val.frz, this]
    | bl b => cases n <;> simp [nbD] at b1
    | _ =>
      first
      | (simp [toD] at h1; done)
      | (simp [toD] at h1
         try subst h1
         cases w <;> simp [toD] at h2 <;> (try (split at h2 <;> simp at h2)) <;> (try subst h2) <;> simp [PyData.eqv] at q <;> (try (subst q; rfl)) <;> (try rfl) <;> (cases n <;> simp [nbD] at b2))
theorem eqvs_back : ∀ (n : Nat) (xs ys : List Val) (ds es : List PyData), toDs xs = some ds → toDs ys = some es → xs.all (nbD n) = true → ys.all (nbD n) = true → xs.all (plD n) = true → PyData.eqvAll ds es = true → frzs xs = frzs ys
  | n, [], [], _, _, _, _, _, _, _, _ => rfl
  | n, [], y :: ys, ds, es, h1, h2, _, _, _, q => by
    simp [toDs] at h1; subst h1
    simp only [toDs] at h2
    split at h2 <;> simp at h2
    subst h2; simp [PyData.eqvAll] at q
  | n, x :: xs, [], ds, es, h1, h2, _, _, _, q => by
    simp [toDs] at h2; subst h2
    simp only [toDs] at h1
    split at h1 <;> simp at h1
    subst h1; simp [PyData.eqvAll] at q
  | n, x :: xs, y :: ys, ds, es, h1, h2, b1, b2, p1, q => by
    simp only [toDs] at h1 h2
    split at h1 <;> simp at h1
    split at h2 <;> simp at h2
    subst h1; subst h2
    simp only [PyData.eqvAll, Bool.and_eq_true] at q
    simp only [List.all_cons, Bool.and_eq_true] at b1 b2 p1
    have a1 := eqv_back n x y _ _ (by assumption) (by assumption) b1.1 b2.1 p1.1 q.1
    have a2 := eqvs_back n xs ys _ _ (by assumption) (by assumption) b1.2 b2.2 p1.2 q.2
    simp [frzs, a1, a2]
end
/-- == of plain data without True and False: the trees are equal -/
theorem eqD_iff {n : Nat} (hn : n ≤ 64) {a b : Val} (h1 : plD n a = true) (h2 : plD n b = true) (b1 : nbD n a = true) (b2 : nbD n b = true) : ∃ c, eqD a b = some c ∧ (c = true ↔ a.frz = b.frz) := by
  obtain ⟨d, e1, e2, e3⟩ := toD_pl h1
  obtain ⟨e, f1, f2, f3⟩ := toD_pl h2
  refine ⟨PyData.eqv d e, by simp [eqD, e1, f1, shaped_of e2 e3 hn, shaped_of f2 f3 hn], fun q => eqv_back n a b d e e1 f1 b1 b2 h1 q, fun q => ?_⟩
  have e4 : toD b = some d := by rw [← toD_frz b, ← q, toD_frz a, e1]
  rw [e4] at f1
  cases f1
  exact SeqAt.eqv_refl d e2
theorem semEq_same {n : Nat} (hn : n ≤ 64) {a b : Val} (h : plD n a = true) (e : a.frz = b.frz) : semEq [a, b] = some (.bl true) := by simp [semEq, eqD_same hn h e]
theorem semNe_same {n : Nat} (hn : n ≤ 64) {a b : Val} (h : plD n a = true) (e : a.frz = b.frz) : semNe [a, b] = some (.bl false) := by simp [semNe, eqD_same hn h e]
end VL
set_option maxHeartbeats 0
/-! Each def of the program as a function on trees, and the proof that it computes it: printed by gen.py. -/
namespace Gb
open PySem L2 VL
def top (i : Nat) : Stmt := PySem.Challenge.pw_gatheredbells_k02_no_shares.main.body.getD i (.Pass ⟨0, 0, 0, 0⟩)
def clsNames : List Str := ["Share"]
def fnNames : List Str := ["InvalidNumber", "BellError"]
def gam (K : PySem.W.Frag) (w : World) : Gam := ⟨K, clsAt clsNames K, fun n => (fnNames[n]?).map (He.ga K), [], w⟩
def sub (n m : Nat) : Bool := [(0, 0), (1, 1), (2, 1), (2, 2)].contains (n, m)
def d_InvalidNumber_init : VDef := { ad := fun K => He.ma K (He.ga K "InvalidNumber") "__init__", name := "__init__", qual := "InvalidNumber.__init__", params := defArgs (inClass (top 2) 0), body := defBody (inClass (top 2) 0), scope := defScope (inClass (top 2) 0), cell := true }
def d_Share_bottom : VDef := { ad := fun K => getr K (He.ma K (He.ga K "Share") "bottom") 0, name := "bottom", qual := "Share.bottom", params := defArgs (inClass (top 7) 2), body := defBody (inClass (top 7) 2), scope := defScope (inClass (top 7) 2), dfl := [], kwd := [] }
theorem sc_Share_bottom : FnScope ["self"] ["self"] d_Share_bottom.scope := ⟨rfl, rfl, rfl, by decide +kernel, rfl, by decide +kernel, by decide +kernel⟩
def d_is_integer : VDef := { ad := fun K => He.ga K "is_integer", name := "is_integer", qual := "is_integer", params := defArgs (top 4), body := defBody (top 4), scope := defScope (top 4), dfl := [], kwd := [] }
theorem sc_is_integer : FnScope ["value"] ["value"] d_is_integer.scope := ⟨rfl, rfl, rfl, by decide +kernel, rfl, by decide +kernel, by decide +kernel⟩
def d_is_number : VDef := { ad := fun K => He.ga K "is_number", name := "is_number", qual := "is_number", params := defArgs (top 8), body := defBody (top 8), scope := defScope (top 8), dfl := [], kwd := [] }
theorem sc_is_number : FnScope ["value"] ["value"] d_is_number.scope := ⟨rfl, rfl, rfl, by decide +kernel, rfl, by decide +kernel, by decide +kernel⟩
def d_over_of : VDef := { ad := fun K => He.ga K "over_of", name := "over_of", qual := "over_of", params := defArgs (top 9), body := defBody (top 9), scope := defScope (top 9), dfl := [], kwd := [] }
theorem sc_over_of : FnScope ["value"] ["value"] d_over_of.scope := ⟨rfl, rfl, rfl, by decide +kernel, rfl, by decide +kernel, by decide +kernel⟩
def d_under_of : VDef := { ad := fun K => He.ga K "under_of", name := "under_of", qual := "under_of", params := defArgs (top 10), body := defBody (top 10), scope := defScope (top 10), dfl := [], kwd := [] }
theorem sc_under_of : FnScope ["value"] ["value"] d_under_of.scope := ⟨rfl, rfl, rfl, by decide +kernel, rfl, by decide +kernel, by decide +kernel⟩
def d_Share_eq : VDef := { ad := fun K => He.ma K (He.ga K "Share") "__eq__", name := "__eq__", qual := "Share.__eq__", params := defArgs (inClass (top 7) 9), body := defBody (inClass (top 7) 9), scope := defScope (inClass (top 7) 9), dfl := [], kwd := [] }
theorem sc_Share_eq : FnScope ["self", "other"] ["self", "other"] d_Share_eq.scope := ⟨rfl, rfl, rfl, by decide +kernel, rfl, by decide +kernel, by decide +kernel⟩
def d_common : VDef := { ad := fun K => He.ga K "common", name := "common", qual := "common", params := defArgs (top 6), body := defBody (top 6), scope := defScope (top 6), dfl := [], kwd := [] }
theorem sc_common : FnScope ["one", "other"] ["one", "other"] d_common.scope := ⟨rfl, rfl, rfl, by decide +kernel, rfl, by decide +kernel, by decide +kernel⟩
def d_Share_init : VDef := { ad := fun K => He.ma K (He.ga K "Share") "__init__", name := "__init__", qual := "Share.__init__", params := defArgs (inClass (top 7) 0), body := defBody (inClass (top 7) 0), scope := defScope (inClass (top 7) 0), dfl := [.int 1], kwd := [] }
theorem sc_Share_init : FnScope ["self", "top", "bottom", "divisor"] ["self", "top", "bottom"] d_Share_init.scope := ⟨rfl, rfl, rfl, by decide +kernel, rfl, by decide +kernel, by decide +kernel⟩
def d_draw : VDef := { ad := fun K => He.ga K "_law_draw", name := "_law_draw", qual := "_law_draw", params := defArgs (top 13), body := defBody (top 13), scope := defScope (top 13), dfl := [], kwd := [] }
theorem sc_draw : FnScope ["_law_stream_here", "_law_count", "_law_result"] ["_law_stream_here", "_law_count"] d_draw.scope := ⟨rfl, rfl, rfl, by decide +kernel, rfl, by decide +kernel, by decide +kernel⟩
def d_Share_is_more : VDef := { ad := fun K => He.ma K (He.ga K "Share") "is_more", name := "is_more", qual := "Share.is_more", params := defArgs (inClass (top 7) 10), body := defBody (inClass (top 7) 10), scope := defScope (inClass (top 7) 10), dfl := [], kwd := [] }
theorem sc_Share_is_more : FnScope ["self", "other"] ["self", "other"] d_Share_is_more.scope := ⟨rfl, rfl, rfl, by decide +kernel, rfl, by decide +kernel, by decide +kernel⟩
def d_not_more : VDef := { ad := fun K => He.ga K "_law_not_more", name := "_law_not_more", qual := "_law_not_more", params := defArgs (top 15), body := defBody (top 15), scope := defScope (top 15), dfl := [], kwd := [] }
theorem sc_not_more : FnScope ["_law_share", "_law_thing", "e"] ["_law_share", "_law_thing"] d_not_more.scope := ⟨rfl, rfl, rfl, by decide +kernel, rfl, by decide +kernel, by decide +kernel⟩
def d_refused : VDef := { ad := fun K => He.ga K "_law_refused", name := "_law_refused", qual := "_law_refused", params := defArgs (top 14), body := defBody (top 14), scope := defScope (top 14), dfl := [], kwd := [] }
theorem sc_refused : FnScope ["_law_top", "_law_bottom", "e"] ["_law_top", "_law_bottom"] d_refused.scope := ⟨rfl, rfl, rfl, by decide +kernel, rfl, by decide +kernel, by decide +kernel⟩
def d_stream : VDef := { ad := fun K => He.ga K "_law_stream", name := "_law_stream", qual := "_law_stream", params := defArgs (top 12), body := defBody (top 12), scope := defScope (top 12), dfl := [], kwd := [] }
theorem sc_stream : FnScope ["_law_script", "_law_k", "_law_cell", "_law_size", "_law_mixed"] ["_law_script", "_law_k"] d_stream.scope := ⟨rfl, rfl, rfl, by decide +kernel, rfl, by decide +kernel, by decide +kernel⟩
def d_law : VDef := { ad := fun K => He.ga K "law", name := "law", qual := "law", params := defArgs (top 16), body := defBody (top 16), scope := defScope (top 16), dfl := [], kwd := [] }
theorem sc_law : FnScope ["_law_script", "_law_odd", "_law_k", "_law_stream_here", "_law_good", "_law_thing", "_law_other", "_law_bottom"] ["_law_script"] d_law.scope := ⟨rfl, rfl, rfl, by decide +kernel, rfl, by decide +kernel, by decide +kernel⟩
theorem boot_len : bootBuiltins "len" = some (.builtin "len") := by decide +kernel
theorem boot_min : bootBuiltins "min" = some (.builtin "min") := by decide +kernel
theorem boot_max : bootBuiltins "max" = some (.builtin "max") := by decide +kernel
theorem boot_repr : bootBuiltins "repr" = some (.builtin "repr") := by decide +kernel
theorem boot_isinstance : bootBuiltins "isinstance" = some (.builtin "isinstance") := by decide +kernel
theorem boot_int : bootBuiltins "int" = some (.type "int") := by decide +kernel
theorem boot_bool : bootBuiltins "bool" = some (.type "bool") := by decide +kernel
theorem boot_ValueError : bootBuiltins "ValueError" = some (.type "ValueError") := by decide +kernel
/-- what the walks ask of the text -/
structure Txt (K : PySem.W.Frag) (mg : Str → Option Value) (w : World) : Prop where
  n_len : mg "len" = none
  n_min : mg "min" = none
  n_max : mg "max" = none
  n_range : mg "range" = none
  g_stream : mg "_law_stream" = some (.ref (He.ga K "_law_stream"))
  g_draw : mg "_law_draw" = some (.ref (He.ga K "_law_draw"))
  n_repr : mg "repr" = none
  g_refused : mg "_law_refused" = some (.ref (He.ga K "_law_refused"))
  mk_Share : Mk K (He.ga K "Share") (He.ma K (He.ga K "Share") "__init__")
  g_Share : mg "Share" = some (.ref (He.ga K "Share"))
  g_not_more : mg "_law_not_more" = some (.ref (He.ga K "_law_not_more"))
  pr_Share_bottom : PropOf K (He.ga K "Share") "bottom" (He.ma K (He.ga K "Share") "bottom") (getr K (He.ma K (He.ga K "Share") "bottom") 0)
  cl_Share : Cls K (He.ga K "Share")
  eq_Share : OwnEq K (He.ga K "Share") (He.ma K (He.ga K "Share") "__eq__")
  g_is_number : mg "is_number" = some (.ref (He.ga K "is_number"))
  g_over_of : mg "over_of" = some (.ref (He.ga K "over_of"))
  na_Share_over : NoAttr K (He.ga K "Share") "over"
  g_under_of : mg "under_of" = some (.ref (He.ga K "under_of"))
  na_Share_under : NoAttr K (He.ga K "Share") "under"
  n_isinstance : mg "isinstance" = none
  g_is_integer : mg "is_integer" = some (.ref (He.ga K "is_integer"))
  n_int : mg "int" = none
  n_bool : mg "bool" = none
  mt_Share_is_more : Meth K (He.ga K "Share") "is_more" (He.ma K (He.ga K "Share") "is_more")
  g_InvalidNumber : mg "InvalidNumber" = some (.ref (He.ga K "InvalidNumber"))
  ey_InvalidNumber : ExmC K fnNames 0 "InvalidNumber"
  xf_value : XfF (gam K w) K [0] "value"
  n_super : mg "super" = none
  ex_InvalidNumber : ExcC K ((He.ga K "InvalidNumber")) (He.ma K (He.ga K "InvalidNumber") "__init__") "value" "/claim/cut.py"
  g_BellError : mg "BellError" = some (.ref (He.ga K "BellError"))
  ix_InvalidNumber_BellError : IsxF (gam K w) K [0] [((0, 1), true)] []
  n_ValueError : mg "ValueError" = none
  ix_InvalidNumber_ValueError : IsxF (gam K w) K [0] [] [((0, "ValueError"), true)]
  g_common : mg "common" = some (.ref (He.ga K "common"))
  g_law : mg "law" = some (.ref (He.ga K "law"))
  isi : IsiFacts (gam K w) sub
theorem isi_facts {K : PySem.W.Frag} {mg : Str → Option Value} {w : World} (T : Txt K mg w) : IsiFacts (gam K w) sub := T.isi
theorem fld_over {K : PySem.W.Frag} {mg : Str → Option Value} {w : World} (T : Txt K mg w) : FldF (gam K w) K [0] "over" := by
  intro n hn C hC
  simp only [List.mem_cons, List.not_mem_nil, or_false] at hn
  subst hn
  · have e : He.ga K "Share" = C := Option.some.inj hC
    subst e
    exact ⟨T.cl_Share, T.na_Share_over⟩
theorem fld_under {K : PySem.W.Frag} {mg : Str → Option Value} {w : World} (T : Txt K mg w) : FldF (gam K w) K [0] "under" := by
  intro n hn C hC
  simp only [List.mem_cons, List.not_mem_nil, or_false] at hn
  subst hn
  · have e : He.ga K "Share" = C := Option.some.inj hC
    subst e
    exact ⟨T.cl_Share, T.na_Share_under⟩
theorem dfl_stream_2 {K : PySem.W.Frag} {w : World} : DflL (gam K w) [] := by
  intro q hq; cases hq
theorem bnd_stream_2 {K : PySem.W.Frag} {fd : FuncData} (F : FunV K d_stream fd) : ∃ ds, Vals (([] : List (V × Val)).map (·.1)) ds ∧ Binds K fd ["_law_script", "_law_k"] ds := by
  exact ⟨[], .nil, F.bindsN fun _ _ _ _ _ _ us hl => match us, hl with | [_, _], _ => rfl⟩
theorem dfl_draw_2 {K : PySem.W.Frag} {w : World} : DflL (gam K w) [] := by
  intro q hq; cases hq
theorem bnd_draw_2 {K : PySem.W.Frag} {fd : FuncData} (F : FunV K d_draw fd) : ∃ ds, Vals (([] : List (V × Val)).map (·.1)) ds ∧ Binds K fd ["_law_stream_here", "_law_count"] ds := by
  exact ⟨[], .nil, F.bindsN fun _ _ _ _ _ _ us hl => match us, hl with | [_, _], _ => rfl⟩
theorem dfl_refused_2 {K : PySem.W.Frag} {w : World} : DflL (gam K w) [] := by
  intro q hq; cases hq
theorem bnd_refused_2 {K : PySem.W.Frag} {fd : FuncData} (F : FunV K d_refused fd) : ∃ ds, Vals (([] : List (V × Val)).map (·.1)) ds ∧ Binds K fd ["_law_top", "_law_bottom"] ds := by
  exact ⟨[], .nil, F.bindsN fun _ _ _ _ _ _ us hl => match us, hl with | [_, _], _ => rfl⟩
theorem dfl_not_more_2 {K : PySem.W.Frag} {w : World} : DflL (gam K w) [] := by
  intro q hq; cases hq
theorem bnd_not_more_2 {K : PySem.W.Frag} {fd : FuncData} (F : FunV K d_not_more fd) : ∃ ds, Vals (([] : List (V × Val)).map (·.1)) ds ∧ Binds K fd ["_law_share", "_law_thing"] ds := by
  exact ⟨[], .nil, F.bindsN fun _ _ _ _ _ _ us hl => match us, hl with | [_, _], _ => rfl⟩
theorem dfl_Share_init_3 {K : PySem.W.Frag} {w : World} : DflL (gam K w) [] := by
  intro q hq; cases hq
theorem bnd_Share_init_3 {K : PySem.W.Frag} {fd : FuncData} (F : FunV K d_Share_init fd) : ∃ ds, Vals (([] : List (V × Val)).map (·.1)) ds ∧ Binds K fd ["self", "top", "bottom"] ds := by
  obtain ⟨ds, v, b⟩ := F.binds1 (ps := ["self", "top", "bottom"]) 3 1 (List.cons_ne_nil _ _) rfl fun _ _ _ _ _ _ _ us its h1 h2 => match us, its, h1, h2 with | [_, _, _], [_], _, _ => ⟨_, rfl, rfl⟩
  exact ⟨ds, v, b⟩
theorem dfl_Share_bottom_1 {K : PySem.W.Frag} {w : World} : DflL (gam K w) [] := by
  intro q hq; cases hq
theorem bnd_Share_bottom_1 {K : PySem.W.Frag} {fd : FuncData} (F : FunV K d_Share_bottom fd) : ∃ ds, Vals (([] : List (V × Val)).map (·.1)) ds ∧ Binds K fd ["self"] ds := by
  exact ⟨[], .nil, F.bindsN fun _ _ _ _ _ _ us hl => match us, hl with | [_], _ => rfl⟩
theorem dfl_Share_init_2 {K : PySem.W.Frag} {w : World} : DflL (gam K w) [(.int 1, .int 1)] := by
  intro q hq W H
  simp only [List.mem_cons, List.not_mem_nil, or_false] at hq
  subst hq
  · exact .int _
theorem bnd_Share_init_2 {K : PySem.W.Frag} {fd : FuncData} (F : FunV K d_Share_init fd) : ∃ ds, Vals (([(.int 1, .int 1)] : List (V × Val)).map (·.1)) ds ∧ Binds K fd ["self", "top", "bottom"] ds := by
  obtain ⟨ds, v, b⟩ := F.binds1 (ps := ["self", "top", "bottom"]) 2 0 (List.cons_ne_nil _ _) rfl fun _ _ _ _ _ _ _ us its h1 h2 => match us, its, h1, h2 with | [_, _], [_], _, _ => ⟨_, rfl, rfl⟩
  exact ⟨ds, v, b⟩
theorem dfl_Share_eq_2 {K : PySem.W.Frag} {w : World} : DflL (gam K w) [] := by
  intro q hq; cases hq
theorem bnd_Share_eq_2 {K : PySem.W.Frag} {fd : FuncData} (F : FunV K d_Share_eq fd) : ∃ ds, Vals (([] : List (V × Val)).map (·.1)) ds ∧ Binds K fd ["self", "other"] ds := by
  exact ⟨[], .nil, F.bindsN fun _ _ _ _ _ _ us hl => match us, hl with | [_, _], _ => rfl⟩
theorem dfl_is_number_1 {K : PySem.W.Frag} {w : World} : DflL (gam K w) [] := by
  intro q hq; cases hq
theorem bnd_is_number_1 {K : PySem.W.Frag} {fd : FuncData} (F : FunV K d_is_number fd) : ∃ ds, Vals (([] : List (V × Val)).map (·.1)) ds ∧ Binds K fd ["value"] ds := by
  exact ⟨[], .nil, F.bindsN fun _ _ _ _ _ _ us hl => match us, hl with | [_], _ => rfl⟩
theorem dfl_over_of_1 {K : PySem.W.Frag} {w : World} : DflL (gam K w) [] := by
  intro q hq; cases hq
theorem bnd_over_of_1 {K : PySem.W.Frag} {fd : FuncData} (F : FunV K d_over_of fd) : ∃ ds, Vals (([] : List (V × Val)).map (·.1)) ds ∧ Binds K fd ["value"] ds := by
  exact ⟨[], .nil, F.bindsN fun _ _ _ _ _ _ us hl => match us, hl with | [_], _ => rfl⟩
theorem dfl_under_of_1 {K : PySem.W.Frag} {w : World} : DflL (gam K w) [] := by
  intro q hq; cases hq
theorem bnd_under_of_1 {K : PySem.W.Frag} {fd : FuncData} (F : FunV K d_under_of fd) : ∃ ds, Vals (([] : List (V × Val)).map (·.1)) ds ∧ Binds K fd ["value"] ds := by
  exact ⟨[], .nil, F.bindsN fun _ _ _ _ _ _ us hl => match us, hl with | [_], _ => rfl⟩
theorem dfl_is_integer_1 {K : PySem.W.Frag} {w : World} : DflL (gam K w) [] := by
  intro q hq; cases hq
theorem bnd_is_integer_1 {K : PySem.W.Frag} {fd : FuncData} (F : FunV K d_is_integer fd) : ∃ ds, Vals (([] : List (V × Val)).map (·.1)) ds ∧ Binds K fd ["value"] ds := by
  exact ⟨[], .nil, F.bindsN fun _ _ _ _ _ _ us hl => match us, hl with | [_], _ => rfl⟩
theorem dfl_Share_is_more_2 {K : PySem.W.Frag} {w : World} : DflL (gam K w) [] := by
  intro q hq; cases hq
theorem bnd_Share_is_more_2 {K : PySem.W.Frag} {fd : FuncData} (F : FunV K d_Share_is_more fd) : ∃ ds, Vals (([] : List (V × Val)).map (·.1)) ds ∧ Binds K fd ["self", "other"] ds := by
  exact ⟨[], .nil, F.bindsN fun _ _ _ _ _ _ us hl => match us, hl with | [_, _], _ => rfl⟩
theorem dfl_common_2 {K : PySem.W.Frag} {w : World} : DflL (gam K w) [] := by
  intro q hq; cases hq
theorem bnd_common_2 {K : PySem.W.Frag} {fd : FuncData} (F : FunV K d_common fd) : ∃ ds, Vals (([] : List (V × Val)).map (·.1)) ds ∧ Binds K fd ["one", "other"] ds := by
  exact ⟨[], .nil, F.bindsN fun _ _ _ _ _ _ us hl => match us, hl with | [_, _], _ => rfl⟩
theorem exc_InvalidNumber {P : Program} {w : World} {K : PySem.W.Frag} {mg : Str → Option Value} {base : Heap} (T : Txt K mg w) (hP : PFile P "/claim/cut.py") (raw : d_InvalidNumber_init.seen K = d_InvalidNumber_init.shape ∧ d_InvalidNumber_init.good K = true) : ∃ fd, FnOk P w K mg base (L2.CX P w) 1 (d_InvalidNumber_init.ad K) fd ["self", "value"] (spE K ((He.ga K "InvalidNumber")) "value") ∧ Binds K fd ["self", "value"] [] :=
  excE_ok (k := 0) raw rfl rfl rfl (seI_of rfl rfl rfl (by decide) (by rfl) (by rfl) (by rfl) (by rfl) (by decide) (by decide)) T.ex_InvalidNumber hP T.n_super rfl rfl (fun _ _ _ _ _ _ _ us h => match us, h with | [_, _], _ => rfl) (by decide) (by decide) (by decide) (by decide) (fun _ => rfl) (fun _ => rfl) (fun _ => rfl)
def m_Share_bottom : MS :=
    (mRet (mFun (semFld [0] "under") [(mVar 0)]))
def f_Share_bottom : MF := mBody [true] 1 m_Share_bottom
theorem ok_Share_bottom {P : Program} {w : World} {K : PySem.W.Frag} {mg : Str → Option Value} {base : Heap} (T : Txt K mg w) (F : ∃ fd, FunV K d_Share_bottom fd)  : Ok P w K mg base (gam K w) d_Share_bottom 1 ["self"] f_Share_bottom := by
  refine ok_of F sc_Share_bottom rfl fun cdv A outer s H E hr tk hp σ0 => ?_
  exact (vss_one (vs_ret (ve_fld (cs := [0]) (fld_under T) (ve_var (pv 0)))))
def m_is_integer : MS :=
    (mRet (mAnd (mFun (semIsi sub) [(mVar 0), (mC (.ty "int"))]) (mNot (mFun (semIsi sub) [(mVar 0), (mC (.ty "bool"))]))))
def f_is_integer : MF := mBody [false] 1 m_is_integer
theorem ok_is_integer {P : Program} {w : World} {K : PySem.W.Frag} {mg : Str → Option Value} {base : Heap} (T : Txt K mg w) (F : ∃ fd, FunV K d_is_integer fd)  : Ok P w K mg base (gam K w) d_is_integer 1 ["value"] f_is_integer := by
  refine ok_of F sc_is_integer rfl fun cdv A outer s H E hr tk hp σ0 => ?_
  exact (vss_one (vs_ret (ve_and (ve_callB call_isi (ok_isi (isi_facts T)) (by rfl) T.n_isinstance boot_isinstance (va_cons (ve_var (pv 0)) (va_cons (ve_c (pe_bltn (by rfl) T.n_int boot_int (by rfl)) (fun _ _ => .ty _)) va_nil))) (ve_one (ve_not (ve_callB call_isi (ok_isi (isi_facts T)) (by rfl) T.n_isinstance boot_isinstance (va_cons (ve_var (pv 0)) (va_cons (ve_c (pe_bltn (by rfl) T.n_bool boot_bool (by rfl)) (fun _ _ => .ty _)) va_nil))))))))
def m_is_number : MS :=
    (mRet (mOr (mFun (semIsi sub) [(mVar 0), (mC (.cn 0))]) (mCall f_is_integer [.v ⟨true, true, (mStab (mVar 0))⟩])))
def f_is_number : MF := mBody [false] 1 m_is_number
theorem ok_is_number {P : Program} {w : World} {K : PySem.W.Frag} {mg : Str → Option Value} {base : Heap} (T : Txt K mg w) (F : ∃ fd, FunV K d_is_number fd) (h_is_integer : Ok P w K mg base (gam K w) d_is_integer 1 ["value"] f_is_integer) : Ok P w K mg base (gam K w) d_is_number 2 ["value"] f_is_number := by
  obtain ⟨fd_is_integer, F_is_integer, G_is_integer⟩ := h_is_integer
  obtain ⟨ds_is_integer_1, v_is_integer_1, b_is_integer_1⟩ := bnd_is_integer_1 F_is_integer
  cases v_is_integer_1
  have v_is_integer_1 : Vals (([] : List (V × Val)).map (·.1)) [] := .nil
  refine ok_of F sc_is_number rfl fun cdv A outer s H E hr tk hp σ0 => ?_
  exact (vss_one (vs_ret (ve_or (ve_callB call_isi (ok_isi (isi_facts T)) (by rfl) T.n_isinstance boot_isinstance (va_cons (ve_var (pv 0)) (va_cons (ve_c (pe_glob (by rfl) T.g_Share (by rfl)) (fun _ _ => .cn (by rfl))) va_nil))) (ve_one (ve_call (cal_fn G_is_integer (hr.mono (by first | decide | omega)) b_is_integer_1 v_is_integer_1 tk) (by rfl) T.g_is_integer F_is_integer.kp (vg_v (ve_stab (ve_var (pv 0))) vg_nil) dfl_is_integer_1)))))
def m_over_of : MS :=
    (mRet (mIf (mFun (semIsi sub) [(mVar 0), (mC (.cn 0))]) (mFun (semFld [0] "over") [(mVar 0)]) (mStab (mVar 0))))
def f_over_of : MF := mBody [false] 1 m_over_of
theorem ok_over_of {P : Program} {w : World} {K : PySem.W.Frag} {mg : Str → Option Value} {base : Heap} (T : Txt K mg w) (F : ∃ fd, FunV K d_over_of fd)  : Ok P w K mg base (gam K w) d_over_of 1 ["value"] f_over_of := by
  refine ok_of F sc_over_of rfl fun cdv A outer s H E hr tk hp σ0 => ?_
  exact (vss_one (vs_ret (ve_if (vt_val (ve_callB call_isi (ok_isi (isi_facts T)) (by rfl) T.n_isinstance boot_isinstance (va_cons (ve_var (pv 0)) (va_cons (ve_c (pe_glob (by rfl) T.g_Share (by rfl)) (fun _ _ => .cn (by rfl))) va_nil)))) (ve_fld (cs := [0]) (fld_over T) (ve_var (pv 0))) (ve_stab (ve_var (pv 0))))))
def m_under_of : MS :=
    (mRet (mIf (mFun (semIsi sub) [(mVar 0), (mC (.cn 0))]) (mFun (semFld [0] "under") [(mVar 0)]) (mC (.int 1))))
def f_under_of : MF := mBody [false] 1 m_under_of
theorem ok_under_of {P : Program} {w : World} {K : PySem.W.Frag} {mg : Str → Option Value} {base : Heap} (T : Txt K mg w) (F : ∃ fd, FunV K d_under_of fd)  : Ok P w K mg base (gam K w) d_under_of 1 ["value"] f_under_of := by
  refine ok_of F sc_under_of rfl fun cdv A outer s H E hr tk hp σ0 => ?_
  exact (vss_one (vs_ret (ve_if (vt_val (ve_callB call_isi (ok_isi (isi_facts T)) (by rfl) T.n_isinstance boot_isinstance (va_cons (ve_var (pv 0)) (va_cons (ve_c (pe_glob (by rfl) T.g_Share (by rfl)) (fun _ _ => .cn (by rfl))) va_nil)))) (ve_fld (cs := [0]) (fld_under T) (ve_var (pv 0))) (ve_c pe_int (fun _ _ => .int _)))))
def m_Share_eq : MS :=
    (mRet (mAnd (mCall f_is_number [.v ⟨true, true, (mStab (mVar 1))⟩]) (mAnd (mFun semEq [(mFun (semFld [0] "over") [(mVar 0)]), (mCall f_over_of [.v ⟨true, true, (mStab (mVar 1))⟩])]) (mFun semEq [(mFun (semFld [0] "under") [(mVar 0)]), (mCall f_under_of [.v ⟨true, true, (mStab (mVar 1))⟩])]))))
def f_Share_eq : MF := mBody [true, false] 2 m_Share_eq
theorem ok_Share_eq {P : Program} {w : World} {K : PySem.W.Frag} {mg : Str → Option Value} {base : Heap} (T : Txt K mg w) (F : ∃ fd, FunV K d_Share_eq fd) (h_is_number : Ok P w K mg base (gam K w) d_is_number 2 ["value"] f_is_number) (h_over_of : Ok P w K mg base (gam K w) d_over_of 1 ["value"] f_over_of) (h_under_of : Ok P w K mg base (gam K w) d_under_of 1 ["value"] f_under_of) : Ok P w K mg base (gam K w) d_Share_eq 3 ["self", "other"] f_Share_eq := by
  obtain ⟨fd_is_number, F_is_number, G_is_number⟩ := h_is_number
  obtain ⟨fd_over_of, F_over_of, G_over_of⟩ := h_over_of
  obtain ⟨fd_under_of, F_under_of, G_under_of⟩ := h_under_of
  obtain ⟨ds_is_number_1, v_is_number_1, b_is_number_1⟩ := bnd_is_number_1 F_is_number
  obtain ⟨ds_over_of_1, v_over_of_1, b_over_of_1⟩ := bnd_over_of_1 F_over_of
  obtain ⟨ds_under_of_1, v_under_of_1, b_under_of_1⟩ := bnd_under_of_1 F_under_of
  cases v_is_number_1
  have v_is_number_1 : Vals (([] : List (V × Val)).map (·.1)) [] := .nil
  cases v_over_of_1
  have v_over_of_1 : Vals (([] : List (V × Val)).map (·.1)) [] := .nil
  cases v_under_of_1
  have v_under_of_1 : Vals (([] : List (V × Val)).map (·.1)) [] := .nil
  refine ok_of F sc_Share_eq rfl fun cdv A outer s H E hr tk hp σ0 => ?_
  exact (vss_one (vs_ret (ve_and (ve_call (cal_fn G_is_number (hr.mono (by first | decide | omega)) b_is_number_1 v_is_number_1 tk) (by rfl) T.g_is_number F_is_number.kp (vg_v (ve_stab (ve_var (pv 1))) vg_nil) dfl_is_number_1) (ve_and (ve_cmp (op_eqD hr.units) ok_eq (ve_fld (cs := [0]) (fld_over T) (ve_var (pv 0))) (ve_call (cal_fn G_over_of (hr.mono (by first | decide | omega)) b_over_of_1 v_over_of_1 tk) (by rfl) T.g_over_of F_over_of.kp (vg_v (ve_stab (ve_var (pv 1))) vg_nil) dfl_over_of_1) (nomark _)) (ve_one (ve_cmp (op_eqD hr.units) ok_eq (ve_fld (cs := [0]) (fld_under T) (ve_var (pv 0))) (ve_call (cal_fn G_under_of (hr.mono (by first | decide | omega)) b_under_of_1 v_under_of_1 tk) (by rfl) T.g_under_of F_under_of.kp (vg_v (ve_stab (ve_var (pv 1))) vg_nil) dfl_under_of_1) (nomark _)))))))
def m_common_b1 : MS :=
    (mPar 0 1 (mStab (mVar 1)) (mFun semMod [(mVar 0), (mVar 1)]))
def m_common : MS :=
    (mSeq (mPar 0 1 (mFun semMax2 [(mVar 0), (mFun semNeg [(mVar 0)])]) (mFun semMax2 [(mVar 1), (mFun semNeg [(mVar 1)])]))
    (mSeq (mWhile (fuelAt 1) (mFun (semCmp fun i j => decide (j < i)) [(mVar 1), (mC (.int 0))]) m_common_b1)
    (mRet (mStab (mVar 0)))))
def f_common : MF := mBody [false, false] 2 m_common
theorem ok_common {P : Program} {w : World} {K : PySem.W.Frag} {mg : Str → Option Value} {base : Heap} (T : Txt K mg w) (F : ∃ fd, FunV K d_common fd)  : Ok P w K mg base (gam K w) d_common 1 ["one", "other"] f_common := by
  refine ok_of F sc_common rfl fun cdv A outer s H E hr tk hp σ0 => ?_
  exact (vss_cons (vs_par (i := 0) (j := 1) (by rfl) sc_common.nd (by rfl) (by rfl) (by decide) (by rfl) (by rfl) (ve_callB (call_max2 (by rfl)) ok_max2 (by rfl) T.n_max boot_max (va_cons (ve_var (pv 0)) (va_cons (ve_un un_neg ok_neg (ve_var (pv 0))) va_nil))) (ve_callB (call_max2 (by rfl)) ok_max2 (by rfl) T.n_max boot_max (va_cons (ve_var (pv 1)) (va_cons (ve_un un_neg ok_neg (ve_var (pv 1))) va_nil))) (by rfl))
      (vss_cons (vs_while (fuelAt 1) hp (vt_cmp op_gt ok_cmp (ve_var (pv 1)) (ve_c pe_int (fun _ _ => .int _)) (nomark _)) (vss_one (vs_par (i := 0) (j := 1) (by rfl) sc_common.nd (by rfl) (by rfl) (by decide) (by rfl) (by rfl) (ve_stab (ve_var (pv 1))) (ve_bin op_mod ok_mod (ve_var (pv 0)) (ve_var (pv 1))) (by rfl))))
      (vss_one (vs_ret (ve_stab (ve_var (pv 0)))))))
def m_Share_init : MS :=
    (mSeq (mIfS (mNot (mCall f_is_integer [.v ⟨true, true, (mStab (mVar 1))⟩])) (mRaise 0 "value" (mStab (mVar 1))) mNext)
    (mSeq (mIfS (mOr (mNot (mCall f_is_integer [.v ⟨true, true, (mStab (mVar 2))⟩])) (mFun (semCmp fun i j => decide (i < j)) [(mVar 2), (mC (.int 1))])) (mRaise 0 "value" (mStab (mVar 2))) mNext)
    (mSeq (mSet 3 (mCall f_common [.v ⟨true, true, (mStab (mVar 1))⟩, .v ⟨true, true, (mStab (mVar 2))⟩]))
    (mSeq (mSetF [0] 0 "over" (mFun semDiv [(mVar 1), (mVar 3)]))
    (mSetF [0] 0 "under" (mFun semDiv [(mVar 2), (mVar 3)]))))))
def f_Share_init : MF := mBody [true, false, false] 4 m_Share_init
theorem ok_Share_init {P : Program} {w : World} {K : PySem.W.Frag} {mg : Str → Option Value} {base : Heap} (T : Txt K mg w) (F : ∃ fd, FunV K d_Share_init fd) (h_is_integer : Ok P w K mg base (gam K w) d_is_integer 1 ["value"] f_is_integer) (h_common : Ok P w K mg base (gam K w) d_common 1 ["one", "other"] f_common) (hx_InvalidNumber : ∃ fd, FnOk P w K mg base (L2.CX P w) 1 (d_InvalidNumber_init.ad K) fd ["self", "value"] (spE K ((He.ga K "InvalidNumber")) "value") ∧ Binds K fd ["self", "value"] []) : Ok P w K mg base (gam K w) d_Share_init 3 ["self", "top", "bottom"] f_Share_init := by
  obtain ⟨fx_InvalidNumber, X_InvalidNumber, Y_InvalidNumber⟩ := hx_InvalidNumber
  obtain ⟨fd_is_integer, F_is_integer, G_is_integer⟩ := h_is_integer
  obtain ⟨fd_common, F_common, G_common⟩ := h_common
  obtain ⟨ds_common_2, v_common_2, b_common_2⟩ := bnd_common_2 F_common
  obtain ⟨ds_is_integer_1, v_is_integer_1, b_is_integer_1⟩ := bnd_is_integer_1 F_is_integer
  cases v_common_2
  have v_common_2 : Vals (([] : List (V × Val)).map (·.1)) [] := .nil
  cases v_is_integer_1
  have v_is_integer_1 : Vals (([] : List (V × Val)).map (·.1)) [] := .nil
  refine ok_of F sc_Share_init rfl fun cdv A outer s H E hr tk hp σ0 => ?_
  exact (vss_cons (vs_if (vt_not (vt_val (ve_call (cal_fn G_is_integer (hr.mono (by first | decide | omega)) b_is_integer_1 v_is_integer_1 tk) (by rfl) T.g_is_integer F_is_integer.kp (vg_v (ve_stab (ve_var (pv 1))) vg_nil) dfl_is_integer_1))) (vss_one (vs_raise rfl tk T.ex_InvalidNumber.oex T.ex_InvalidNumber.iC T.ex_InvalidNumber.tI X_InvalidNumber (hr.toRoom.mono (by first | decide | omega)) Y_InvalidNumber (by rfl) T.g_InvalidNumber (by rfl) (ve_stab (ve_var (pv 1))))) vss_nil)
      (vss_cons (vs_if (vt_of (vw_or (vt_not (vt_val (ve_call (cal_fn G_is_integer (hr.mono (by first | decide | omega)) b_is_integer_1 v_is_integer_1 tk) (by rfl) T.g_is_integer F_is_integer.kp (vg_v (ve_stab (ve_var (pv 2))) vg_nil) dfl_is_integer_1))) (vw_or1 (vt_cmp op_lt ok_cmp (ve_var (pv 2)) (ve_c pe_int (fun _ _ => .int _)) (nomark _))))) (vss_one (vs_raise rfl tk T.ex_InvalidNumber.oex T.ex_InvalidNumber.iC T.ex_InvalidNumber.tI X_InvalidNumber (hr.toRoom.mono (by first | decide | omega)) Y_InvalidNumber (by rfl) T.g_InvalidNumber (by rfl) (ve_stab (ve_var (pv 2))))) vss_nil)
      (vss_cons (vs_set (i := 3) sc_Share_init.nd (by rfl) (by first | exact Or.inl rfl | exact Or.inr rfl) (ve_call (cal_fn G_common (hr.mono (by first | decide | omega)) b_common_2 v_common_2 tk) (by rfl) T.g_common F_common.kp (vg_v (ve_stab (ve_var (pv 1))) (vg_v (ve_stab (ve_var (pv 2))) vg_nil)) dfl_common_2))
      (vss_cons (vs_setF (cs := [0]) (i := 0) (fld_over T) (pv 0) (ve_bin op_fdivW ok_div (ve_var (pv 1)) (ve_var (pv 3))))
      (vss_one (vs_setF (cs := [0]) (i := 0) (fld_under T) (pv 0) (ve_bin op_fdivW ok_div (ve_var (pv 2)) (ve_var (pv 3)))))))))
def m_draw : MS :=
    (mSeq (mIfS (mFun (semCmp fun i j => decide (j < i)) [(mFun semIx [(mVar 0), (mC (.int 0))]), (mC (.int 0))]) (mSeq (mSet 2 (mFun semMod [(mFun semInt [(mFun semIx [(mVar 0), (mC (.int 0))])]), (mVar 1)]))
    (mSeq (mPutL 0 (mC (.int 0)) (mFun semDiv [(mFun semIx [(mVar 0), (mC (.int 0))]), (mVar 1)]))
    (mRet (mStab (mVar 2))))) mNext)
    (mSeq (mPutL 0 (mC (.int 1)) (mFun semMod [(mFun semInt [(mFun semAdd [(mFun semMul [(mFun semIx [(mVar 0), (mC (.int 1))]), (mC (.int 39373))]), (mC (.int 7))])]), (mC (.int 2147483647))]))
    (mRet (mFun semMod [(mFun semInt [(mFun semDiv [(mFun semMod [(mFun semInt [(mFun semMul [(mFun semIx [(mVar 0), (mC (.int 1))]), (mFun semIx [(mVar 0), (mC (.int 1))])])]), (mC (.int 2147483629))]), (mC (.int 32))])]), (mVar 1)]))))
def f_draw : MF := mBody [true, false] 3 m_draw
theorem ok_draw {P : Program} {w : World} {K : PySem.W.Frag} {mg : Str → Option Value} {base : Heap} (T : Txt K mg w) (F : ∃ fd, FunV K d_draw fd)  : Ok P w K mg base (gam K w) d_draw 1 ["_law_stream_here", "_law_count"] f_draw := by
  refine ok_of F sc_draw rfl fun cdv A outer s H E hr tk hp σ0 => ?_
  exact (vss_cons (vs_if (vt_cmp op_gt ok_cmp (ve_ix (ix_any (by rfl) (by rfl) (hu_g hr)) ok_ix (ve_var (pv 0)) (ve_c pe_int (fun _ _ => .int _)) (fun _ _ => (by rfl))) (ve_c pe_int (fun _ _ => .int _)) (nomark _)) (vss_cons (vs_set (i := 2) sc_draw.nd (by rfl) (by first | exact Or.inl rfl | exact Or.inr rfl) (ve_bin op_mod ok_mod (ve_callTy call_int1 ok_int (by rfl) T.n_int boot_int (va_cons (ve_ix (ix_any (by rfl) (by rfl) (hu_g hr)) ok_ix (ve_var (pv 0)) (ve_c pe_int (fun _ _ => .int _)) (fun _ _ => (by rfl))) va_nil)) (ve_var (pv 1))))
      (vss_cons (vs_putL (i := 0) (pv 0) (ve_c pe_int (fun _ _ => .int _)) (ve_bin op_fdivW ok_div (ve_ix (ix_any (by rfl) (by rfl) (hu_g hr)) ok_ix (ve_var (pv 0)) (ve_c pe_int (fun _ _ => .int _)) (fun _ _ => (by rfl))) (ve_var (pv 1))))
      (vss_one (vs_ret (ve_stab (ve_var (pv 2))))))) vss_nil)
      (vss_cons (vs_putL (i := 0) (pv 0) (ve_c pe_int (fun _ _ => .int _)) (ve_bin op_mod ok_mod (ve_callTy call_int1 ok_int (by rfl) T.n_int boot_int (va_cons (ve_bin (op_addV (by rfl)) ok_add (ve_bin (op_mulV (by rfl)) ok_mul (ve_ix (ix_any (by rfl) (by rfl) (hu_g hr)) ok_ix (ve_var (pv 0)) (ve_c pe_int (fun _ _ => .int _)) (fun _ _ => (by rfl))) (ve_c pe_int (fun _ _ => .int _))) (ve_c pe_int (fun _ _ => .int _))) va_nil)) (ve_c pe_int (fun _ _ => .int _))))
      (vss_one (vs_ret (ve_bin op_mod ok_mod (ve_callTy call_int1 ok_int (by rfl) T.n_int boot_int (va_cons (ve_bin op_fdivW ok_div (ve_bin op_mod ok_mod (ve_callTy call_int1 ok_int (by rfl) T.n_int boot_int (va_cons (ve_bin (op_mulV (by rfl)) ok_mul (ve_ix (ix_any (by rfl) (by rfl) (hu_g hr)) ok_ix (ve_var (pv 0)) (ve_c pe_int (fun _ _ => .int _)) (fun _ _ => (by rfl))) (ve_ix (ix_any (by rfl) (by rfl) (hu_g hr)) ok_ix (ve_var (pv 0)) (ve_c pe_int (fun _ _ => .int _)) (fun _ _ => (by rfl)))) va_nil)) (ve_c pe_int (fun _ _ => .int _))) (ve_c pe_int (fun _ _ => .int _))) va_nil)) (ve_var (pv 1)))))))
def m_Share_is_more : MS :=
    (mSeq (mIfS (mNot (mCall f_is_number [.v ⟨true, true, (mStab (mVar 1))⟩])) (mRaise 0 "value" (mStab (mVar 1))) mNext)
    (mRet (mFun (semCmp fun i j => decide (j < i)) [(mFun semMul [(mFun (semFld [0] "over") [(mVar 0)]), (mCall f_under_of [.v ⟨true, true, (mStab (mVar 1))⟩])]), (mFun semMul [(mCall f_over_of [.v ⟨true, true, (mStab (mVar 1))⟩]), (mFun (semFld [0] "under") [(mVar 0)])])])))
def f_Share_is_more : MF := mBody [true, false] 2 m_Share_is_more
theorem ok_Share_is_more {P : Program} {w : World} {K : PySem.W.Frag} {mg : Str → Option Value} {base : Heap} (T : Txt K mg w) (F : ∃ fd, FunV K d_Share_is_more fd) (h_is_number : Ok P w K mg base (gam K w) d_is_number 2 ["value"] f_is_number) (h_over_of : Ok P w K mg base (gam K w) d_over_of 1 ["value"] f_over_of) (h_under_of : Ok P w K mg base (gam K w) d_under_of 1 ["value"] f_under_of) (hx_InvalidNumber : ∃ fd, FnOk P w K mg base (L2.CX P w) 1 (d_InvalidNumber_init.ad K) fd ["self", "value"] (spE K ((He.ga K "InvalidNumber")) "value") ∧ Binds K fd ["self", "value"] []) : Ok P w K mg base (gam K w) d_Share_is_more 3 ["self", "other"] f_Share_is_more := by
  obtain ⟨fx_InvalidNumber, X_InvalidNumber, Y_InvalidNumber⟩ := hx_InvalidNumber
  obtain ⟨fd_is_number, F_is_number, G_is_number⟩ := h_is_number
  obtain ⟨fd_over_of, F_over_of, G_over_of⟩ := h_over_of
  obtain ⟨fd_under_of, F_under_of, G_under_of⟩ := h_under_of
  obtain ⟨ds_is_number_1, v_is_number_1, b_is_number_1⟩ := bnd_is_number_1 F_is_number
  obtain ⟨ds_over_of_1, v_over_of_1, b_over_of_1⟩ := bnd_over_of_1 F_over_of
  obtain ⟨ds_under_of_1, v_under_of_1, b_under_of_1⟩ := bnd_under_of_1 F_under_of
  cases v_is_number_1
  have v_is_number_1 : Vals (([] : List (V × Val)).map (·.1)) [] := .nil
  cases v_over_of_1
  have v_over_of_1 : Vals (([] : List (V × Val)).map (·.1)) [] := .nil
  cases v_under_of_1
  have v_under_of_1 : Vals (([] : List (V × Val)).map (·.1)) [] := .nil
  refine ok_of F sc_Share_is_more rfl fun cdv A outer s H E hr tk hp σ0 => ?_
  exact (vss_cons (vs_if (vt_not (vt_val (ve_call (cal_fn G_is_number (hr.mono (by first | decide | omega)) b_is_number_1 v_is_number_1 tk) (by rfl) T.g_is_number F_is_number.kp (vg_v (ve_stab (ve_var (pv 1))) vg_nil) dfl_is_number_1))) (vss_one (vs_raise rfl tk T.ex_InvalidNumber.oex T.ex_InvalidNumber.iC T.ex_InvalidNumber.tI X_InvalidNumber (hr.toRoom.mono (by first | decide | omega)) Y_InvalidNumber (by rfl) T.g_InvalidNumber (by rfl) (ve_stab (ve_var (pv 1))))) vss_nil)
      (vss_one (vs_ret (ve_cmp op_gt ok_cmp (ve_bin (op_mulV (by rfl)) ok_mul (ve_fld (cs := [0]) (fld_over T) (ve_var (pv 0))) (ve_call (cal_fn G_under_of (hr.mono (by first | decide | omega)) b_under_of_1 v_under_of_1 tk) (by rfl) T.g_under_of F_under_of.kp (vg_v (ve_stab (ve_var (pv 1))) vg_nil) dfl_under_of_1)) (ve_bin (op_mulV (by rfl)) ok_mul (ve_call (cal_fn G_over_of (hr.mono (by first | decide | omega)) b_over_of_1 v_over_of_1 tk) (by rfl) T.g_over_of F_over_of.kp (vg_v (ve_stab (ve_var (pv 1))) vg_nil) dfl_over_of_1) (ve_fld (cs := [0]) (fld_under T) (ve_var (pv 0)))) (nomark _)))))
def m_not_more : MS :=
    (mSeq (mTryAs 0 2 (mDrop (mMethR 0 "is_more" f_Share_is_more 0 [.v ⟨true, true, (mStab (mVar 1))⟩])) (mRet (mFun semEq [(mFun semReprE [(mExf [0] 2 "value")]), (mFun semReprE [(mVar 1)])])))
    (mRet (mC (.bl false))))
def f_not_more : MF := mBody [false, false] 3 m_not_more
theorem ok_not_more {P : Program} {w : World} {K : PySem.W.Frag} {mg : Str → Option Value} {base : Heap} (T : Txt K mg w) (F : ∃ fd, FunV K d_not_more fd) (h_Share_is_more : Ok P w K mg base (gam K w) d_Share_is_more 3 ["self", "other"] f_Share_is_more) : Ok P w K mg base (gam K w) d_not_more 4 ["_law_share", "_law_thing"] f_not_more := by
  obtain ⟨fd_Share_is_more, F_Share_is_more, G_Share_is_more⟩ := h_Share_is_more
  obtain ⟨ds_Share_is_more_2, v_Share_is_more_2, b_Share_is_more_2⟩ := bnd_Share_is_more_2 F_Share_is_more
  cases v_Share_is_more_2
  have v_Share_is_more_2 : Vals (([] : List (V × Val)).map (·.1)) [] := .nil
  refine ok_of F sc_not_more rfl fun cdv A outer s H E hr tk hp σ0 => ?_
  exact (vss_cons (vs_try_as (i := 2) (c := 0) rfl rfl sc_not_more.nd (by rfl) (by rfl) ⟨by rfl, by decide, .inl T.g_InvalidNumber⟩ tk (by decide) (by rfl) T.ey_InvalidNumber.yes T.ey_InvalidNumber.no (fun W pn xe tk _ => (vss_one (vs_expr (ve_methR (c := 0) (pv 0) (by rfl) T.cl_Share T.mt_Share_is_more (cal_fn G_Share_is_more (hr.mono (by first | decide | omega)) b_Share_is_more_2 v_Share_is_more_2 tk) (vg_v (ve_stab (ve_var (pv 1))) vg_nil) dfl_Share_is_more_2)))) (fun a oe cls d pn hz hf => (vss_one (vs_ret (ve_cmp (op_eqD (have h := hr.units; h)) ok_eq (ve_callB (call_reprE (by rfl) (have h := hr.gd; h) (have h := hu70 hr; h)) ok_reprE (by rfl) T.n_repr boot_repr (va_cons (ve_exf (cs := [0]) (i := 2) rfl T.xf_value hz hf (pv 2)) va_nil)) (ve_callB (call_reprE (by rfl) (have h := hr.gd; h) (have h := hu70 hr; h)) ok_reprE (by rfl) T.n_repr boot_repr (va_cons (ve_var (pv 1)) va_nil)) (nomark _))))))
      (vss_one (vs_ret (ve_c pe_bl (fun _ _ => .bl _)))))
def m_refused : MS :=
    (mSeq (mTryAs 0 2 (mDrop (mFz (mCall (mMake 0 f_Share_init) [.v ⟨true, true, (mStab (mVar 0))⟩, .v ⟨true, true, (mStab (mVar 1))⟩]))) (mRet (mLst [(mFun semReprE [(mExf [0] 2 "value")]), (mFun (semIsx [0] [((0, 1), true)] []) [(mVar 2), (mC (.fn 1))]), (mFun (semIsx [0] [] [((0, "ValueError"), true)]) [(mVar 2), (mC (.ty "ValueError"))])])))
    (mRet (mC .non)))
def f_refused : MF := mBody [false, false] 3 m_refused
theorem ok_refused {P : Program} {w : World} {K : PySem.W.Frag} {mg : Str → Option Value} {base : Heap} (T : Txt K mg w) (F : ∃ fd, FunV K d_refused fd) (h_Share_init : Ok P w K mg base (gam K w) d_Share_init 3 ["self", "top", "bottom"] f_Share_init) : Ok P w K mg base (gam K w) d_refused 5 ["_law_top", "_law_bottom"] f_refused := by
  obtain ⟨fd_Share_init, F_Share_init, G_Share_init⟩ := h_Share_init
  obtain ⟨ds_Share_init_3, v_Share_init_3, b_Share_init_3⟩ := bnd_Share_init_3 F_Share_init
  cases v_Share_init_3
  have v_Share_init_3 : Vals (([] : List (V × Val)).map (·.1)) [] := .nil
  refine ok_of F sc_refused rfl fun cdv A outer s H E hr tk hp σ0 => ?_
  exact (vss_cons (vs_try_as (i := 2) (c := 0) rfl rfl sc_refused.nd (by rfl) (by rfl) ⟨by rfl, by decide, .inl T.g_InvalidNumber⟩ tk (by decide) (by rfl) T.ey_InvalidNumber.yes T.ey_InvalidNumber.no (fun W pn xe tk _ => (vss_one (vs_expr (ve_fz (ve_call (cal_make (c := 0) (by rfl) T.mk_Share G_Share_init (hr.mono (by first | decide | omega)) b_Share_init_3 v_Share_init_3 tk) (by rfl) T.g_Share T.mk_Share.kp (vg_v (ve_stab (ve_var (pv 0))) (vg_v (ve_stab (ve_var (pv 1))) vg_nil)) dfl_Share_init_3))))) (fun a oe cls d pn hz hf => (vss_one (vs_ret (ve_lst (va_cons (ve_callB (call_reprE (by rfl) (have h := hr.gd; h) (have h := hu70 hr; h)) ok_reprE (by rfl) T.n_repr boot_repr (va_cons (ve_exf (cs := [0]) (i := 2) rfl T.xf_value hz hf (pv 2)) va_nil)) (va_cons (ve_callB (isx_call rfl T.ix_InvalidNumber_BellError hz hf).choose_spec.1 (isx_call rfl T.ix_InvalidNumber_BellError hz hf).choose_spec.2 (by rfl) T.n_isinstance boot_isinstance (va_cons (ve_var (pv 2)) (va_cons (ve_c (pe_glob (by rfl) T.g_BellError (by rfl)) (fun _ _ => .fn (by rfl))) va_nil))) (va_cons (ve_callB (isx_call rfl T.ix_InvalidNumber_ValueError hz hf).choose_spec.1 (isx_call rfl T.ix_InvalidNumber_ValueError hz hf).choose_spec.2 (by rfl) T.n_isinstance boot_isinstance (va_cons (ve_var (pv 2)) (va_cons (ve_c (pe_bltn (by rfl) T.n_ValueError boot_ValueError (by rfl)) (fun _ _ => .ty _)) va_nil))) va_nil))))))))
      (vss_one (vs_ret (ve_c pe_non (fun _ _ => .non)))))
def m_stream : MS :=
    (mSeq (mSet 2 (mC (.int 0)))
    (mSeq (mIfS (mFun (semCmp fun i j => decide (i < j)) [(mVar 1), (mFun semLen [(mVar 0)])]) (mSet 2 (mFun semIx [(mVar 0), (mVar 1)])) mNext)
    (mSeq (mSet 3 (mFun semMax2 [(mFun semInt [(mVar 2)]), (mFun semInt [(mFun semSub [(mFun semNeg [(mC (.int 1))]), (mVar 2)])])]))
    (mSeq (mSet 4 (mFun semMod [(mFun semInt [(mFun semMul [(mFun semAdd [(mFun semAdd [(mFun semAdd [(mFun semMod [(mFun semInt [(mVar 3)]), (mC (.int 2147483629))]), (mFun semMul [(mFun semMul [(mC (.int 7919)), (mVar 1)]), (mVar 1)])]), (mFun semMul [(mC (.int 31)), (mVar 1)])]), (mC (.int 17))]), (mC (.int 48271))])]), (mC (.int 2147483647))]))
    (mRet (mLst [(mFun semMul [(mVar 3), (mFun semInt [(mFun (semCmp fun i j => decide (j ≤ i)) [(mVar 3), (mFun semPow [(mC (.int 10)), (mC (.int 18))])])])]), (mStab (mVar 4))]))))))
def f_stream : MF := mBody [false, false] 5 m_stream
theorem ok_stream {P : Program} {w : World} {K : PySem.W.Frag} {mg : Str → Option Value} {base : Heap} (T : Txt K mg w) (F : ∃ fd, FunV K d_stream fd)  : Ok P w K mg base (gam K w) d_stream 1 ["_law_script", "_law_k"] f_stream := by
  refine ok_of F sc_stream rfl fun cdv A outer s H E hr tk hp σ0 => ?_
  exact (vss_cons (vs_set (i := 2) sc_stream.nd (by rfl) (by first | exact Or.inl rfl | exact Or.inr rfl) (ve_c pe_int (fun _ _ => .int _)))
      (vss_cons (vs_if (vt_cmp op_lt ok_cmp (ve_var (pv 1)) (ve_callB (call_lenV (by rfl)) ok_len (by rfl) T.n_len boot_len (va_cons (ve_var (pv 0)) va_nil)) (nomark _)) (vss_one (vs_set (i := 2) sc_stream.nd (by rfl) (by first | exact Or.inl rfl | exact Or.inr rfl) (ve_ix (ix_any (by rfl) (by rfl) (hu_g hr)) ok_ix (ve_var (pv 0)) (ve_var (pv 1)) (fun _ _ => (by rfl))))) vss_nil)
      (vss_cons (vs_set (i := 3) sc_stream.nd (by rfl) (by first | exact Or.inl rfl | exact Or.inr rfl) (ve_callB (call_max2 (by rfl)) ok_max2 (by rfl) T.n_max boot_max (va_cons (ve_callTy call_int1 ok_int (by rfl) T.n_int boot_int (va_cons (ve_var (pv 2)) va_nil)) (va_cons (ve_callTy call_int1 ok_int (by rfl) T.n_int boot_int (va_cons (ve_bin op_sub ok_sub (ve_un un_neg ok_neg (ve_c pe_int (fun _ _ => .int _))) (ve_var (pv 2))) va_nil)) va_nil))))
      (vss_cons (vs_set (i := 4) sc_stream.nd (by rfl) (by first | exact Or.inl rfl | exact Or.inr rfl) (ve_bin op_mod ok_mod (ve_callTy call_int1 ok_int (by rfl) T.n_int boot_int (va_cons (ve_bin (op_mulV (by rfl)) ok_mul (ve_bin (op_addV (by rfl)) ok_add (ve_bin (op_addV (by rfl)) ok_add (ve_bin (op_addV (by rfl)) ok_add (ve_bin op_mod ok_mod (ve_callTy call_int1 ok_int (by rfl) T.n_int boot_int (va_cons (ve_var (pv 3)) va_nil)) (ve_c pe_int (fun _ _ => .int _))) (ve_bin (op_mulV (by rfl)) ok_mul (ve_bin (op_mulV (by rfl)) ok_mul (ve_c pe_int (fun _ _ => .int _)) (ve_var (pv 1))) (ve_var (pv 1)))) (ve_bin (op_mulV (by rfl)) ok_mul (ve_c pe_int (fun _ _ => .int _)) (ve_var (pv 1)))) (ve_c pe_int (fun _ _ => .int _))) (ve_c pe_int (fun _ _ => .int _))) va_nil)) (ve_c pe_int (fun _ _ => .int _))))
      (vss_one (vs_ret (ve_lst (va_cons (ve_bin (op_mulV (by rfl)) ok_mul (ve_var (pv 3)) (ve_callTy call_int1 ok_int (by rfl) T.n_int boot_int (va_cons (ve_cmp op_ge ok_cmp (ve_var (pv 3)) (ve_bin op_pow ok_pow (ve_c pe_int (fun _ _ => .int _)) (ve_c pe_int (fun _ _ => .int _))) (nomark _)) va_nil))) (va_cons (ve_stab (ve_var (pv 4))) va_nil)))))))))
def m_law_b1 : MS :=
    (mIfS (mFun semNe [(mCall f_refused [.v ⟨true, true, (mStab (mVar 5))⟩, .v ⟨true, true, (mStab (mVar 6))⟩]), (mLst [(mFun semReprE [(mVar 5)]), (mC (.bl true)), (mC (.bl true))])]) (mRet (mC (.bl false))) mNext)
def m_law_b2 : MS :=
    (mSeq (mFor (mItemsL (mFz (mFun semAdd [(mVar 1), (mLst [(mC (.int 0)), (mFun semNeg [(mC (.int 1))]), (mC (.int 3))])]))) (gV 6) m_law_b1)
    (mSeq (mIfS (mFun semNe [(mCall f_refused [.v ⟨true, true, (mStab (mVar 4))⟩, .v ⟨true, true, (mStab (mVar 5))⟩]), (mLst [(mFun semReprE [(mVar 5)]), (mC (.bl true)), (mC (.bl true))])]) (mRet (mC (.bl false))) mNext)
    (mIfS (mNot (mCall f_not_more [.v ⟨true, true, (mFz (mCall (mMake 0 f_Share_init) [.v ⟨true, true, (mStab (mVar 4))⟩, .v ⟨true, true, (mC (.int 7))⟩]))⟩, .v ⟨true, true, (mStab (mVar 5))⟩])) (mRet (mC (.bl false))) mNext)))
def m_law_b3 : MS :=
    (mIfS (mFun semNe [(mCall f_refused [.v ⟨true, true, (mStab (mVar 4))⟩, .v ⟨true, true, (mStab (mVar 7))⟩]), (mLst [(mFun semReprE [(mVar 7)]), (mC (.bl true)), (mC (.bl true))])]) (mRet (mC (.bl false))) mNext)
def m_law_b4 : MS :=
    (mSeq (mSet 3 (mCall f_stream [.v ⟨true, true, (mStab (mVar 0))⟩, .v ⟨true, true, (mStab (mVar 2))⟩]))
    (mSeq (mSet 4 (mFun semSub [(mCall f_draw [.r 3, .v ⟨true, true, (mC (.int 100))⟩]), (mC (.int 50))]))
    (mSeq (mFor (mItemsL (mVar 1)) (gV 5) m_law_b2)
    (mSeq (mFor (mItemsL (mFz (mLst [(mC (.int 0)), (mFun semNeg [(mC (.int 1))]), (mFun semNeg [(mCall f_draw [.r 3, .v ⟨true, true, (mFun semPow [(mC (.int 10)), (mC (.int 9))])⟩])])]))) (gV 7) m_law_b3)
    (mSeq (mIfS (mOr (mFun (semIsN true) [(mCall f_refused [.v ⟨true, true, (mStab (mVar 4))⟩, .v ⟨true, true, (mC (.int 1))⟩]), (mC .non)]) (mFun semNe [(mPropV 0 f_Share_bottom true (mFz (mCall (mMake 0 f_Share_init) [.v ⟨true, true, (mStab (mVar 4))⟩, .k (.int 1) (.int 1)]))), (mC (.int 1))])) (mRet (mC (.bl false))) mNext)
    (mIfS (mOr (mCall (mfCmp not 0 f_Share_eq) [.v ⟨true, true, (mFz (mCall (mMake 0 f_Share_init) [.v ⟨true, true, (mStab (mVar 4))⟩, .k (.int 1) (.int 1)]))⟩, .v ⟨true, true, (mStab (mVar 4))⟩]) (mCall (mfCmp id 0 f_Share_eq) [.v ⟨true, true, (mFz (mCall (mMake 0 f_Share_init) [.v ⟨true, true, (mC (.int 1))⟩, .k (.int 1) (.int 1)]))⟩, .v ⟨true, true, (mC (.bl true))⟩])) (mRet (mC (.bl false))) mNext))))))
def m_law : MS :=
    (mSeq (mSet 1 (mFz (mLst [(mC .non), (mC (.bl true)), (mC (.bl false)), (mC (.str "1")), (mTup [(mC (.int 1))]), (mFz (mLst [(mC (.int 2))])), (mFz (mDct [] [])), (mC (.str "a/b"))])))
    (mSeq (mFor (mRng1 (mFun semMax2 [(mC (.int 1)), (mFun semMin2 [(mC (.int 6)), (mFun semLen [(mVar 0)])])])) (gV 2) m_law_b4)
    (mRet (mC (.bl true)))))
def f_law : MF := mBody [false] 8 m_law
theorem ok_law {P : Program} {w : World} {K : PySem.W.Frag} {mg : Str → Option Value} {base : Heap} (T : Txt K mg w) (F : ∃ fd, FunV K d_law fd) (h_Share_bottom : Ok P w K mg base (gam K w) d_Share_bottom 1 ["self"] f_Share_bottom) (h_Share_eq : Ok P w K mg base (gam K w) d_Share_eq 3 ["self", "other"] f_Share_eq) (h_Share_init : Ok P w K mg base (gam K w) d_Share_init 3 ["self", "top", "bottom"] f_Share_init) (h_draw : Ok P w K mg base (gam K w) d_draw 1 ["_law_stream_here", "_law_count"] f_draw) (h_not_more : Ok P w K mg base (gam K w) d_not_more 4 ["_law_share", "_law_thing"] f_not_more) (h_refused : Ok P w K mg base (gam K w) d_refused 5 ["_law_top", "_law_bottom"] f_refused) (h_stream : Ok P w K mg base (gam K w) d_stream 1 ["_law_script", "_law_k"] f_stream) : Ok P w K mg base (gam K w) d_law 6 ["_law_script"] f_law := by
  obtain ⟨fd_Share_bottom, F_Share_bottom, G_Share_bottom⟩ := h_Share_bottom
  obtain ⟨fd_Share_eq, F_Share_eq, G_Share_eq⟩ := h_Share_eq
  obtain ⟨fd_Share_init, F_Share_init, G_Share_init⟩ := h_Share_init
  obtain ⟨fd_draw, F_draw, G_draw⟩ := h_draw
  obtain ⟨fd_not_more, F_not_more, G_not_more⟩ := h_not_more
  obtain ⟨fd_refused, F_refused, G_refused⟩ := h_refused
  obtain ⟨fd_stream, F_stream, G_stream⟩ := h_stream
  obtain ⟨ds_Share_bottom_1, v_Share_bottom_1, b_Share_bottom_1⟩ := bnd_Share_bottom_1 F_Share_bottom
  obtain ⟨ds_Share_eq_2, v_Share_eq_2, b_Share_eq_2⟩ := bnd_Share_eq_2 F_Share_eq
  obtain ⟨ds_Share_init_2, v_Share_init_2, b_Share_init_2⟩ := bnd_Share_init_2 F_Share_init
  obtain ⟨ds_Share_init_3, v_Share_init_3, b_Share_init_3⟩ := bnd_Share_init_3 F_Share_init
  obtain ⟨ds_draw_2, v_draw_2, b_draw_2⟩ := bnd_draw_2 F_draw
  obtain ⟨ds_not_more_2, v_not_more_2, b_not_more_2⟩ := bnd_not_more_2 F_not_more
  obtain ⟨ds_refused_2, v_refused_2, b_refused_2⟩ := bnd_refused_2 F_refused
  obtain ⟨ds_stream_2, v_stream_2, b_stream_2⟩ := bnd_stream_2 F_stream
  cases v_Share_bottom_1
  have v_Share_bottom_1 : Vals (([] : List (V × Val)).map (·.1)) [] := .nil
  cases v_Share_eq_2
  have v_Share_eq_2 : Vals (([] : List (V × Val)).map (·.1)) [] := .nil
  cases v_Share_init_3
  have v_Share_init_3 : Vals (([] : List (V × Val)).map (·.1)) [] := .nil
  cases v_draw_2
  have v_draw_2 : Vals (([] : List (V × Val)).map (·.1)) [] := .nil
  cases v_not_more_2
  have v_not_more_2 : Vals (([] : List (V × Val)).map (·.1)) [] := .nil
  cases v_refused_2
  have v_refused_2 : Vals (([] : List (V × Val)).map (·.1)) [] := .nil
  cases v_stream_2
  have v_stream_2 : Vals (([] : List (V × Val)).map (·.1)) [] := .nil
  refine ok_of F sc_law rfl fun cdv A outer s H E hr tk hp σ0 => ?_
  exact (vss_cons (vs_set (i := 1) sc_law.nd (by rfl) (by first | exact Or.inl rfl | exact Or.inr rfl) (ve_fz (ve_lst (va_cons (ve_c pe_non (fun _ _ => .non)) (va_cons (ve_c pe_bl (fun _ _ => .bl _)) (va_cons (ve_c pe_bl (fun _ _ => .bl _)) (va_cons (ve_c pe_str (fun _ _ => .str _)) (va_cons (ve_tup (va_cons (ve_c pe_int (fun _ _ => .int _)) va_nil)) (va_cons (ve_fz (ve_lst (va_cons (ve_c pe_int (fun _ _ => .int _)) va_nil))) (va_cons (ve_fz ve_dct0) (va_cons (ve_c pe_str (fun _ _ => .str _)) va_nil)))))))))))
      (vss_cons (vs_for hp (by rfl) (vi_rng1 (by rfl) T.n_range (ve_callB (call_max2 (by rfl)) ok_max2 (by rfl) T.n_max boot_max (va_cons (ve_c pe_int (fun _ _ => .int _)) (va_cons (ve_callB (call_min2 (by rfl)) ok_min2 (by rfl) T.n_min boot_min (va_cons (ve_c pe_int (fun _ _ => .int _)) (va_cons (ve_callB (call_lenV (by rfl)) ok_len (by rfl) T.n_len boot_len (va_cons (ve_var (pv 0)) va_nil)) va_nil))) va_nil)))) (vg_name (i := 2) sc_law.nd (by rfl) (by first | exact Or.inl rfl | exact Or.inr rfl)) (vss_cons (vs_set (i := 3) sc_law.nd (by rfl) (by first | exact Or.inl rfl | exact Or.inr rfl) (ve_call (cal_fn G_stream (hr.mono (by first | decide | omega)) b_stream_2 v_stream_2 tk) (by rfl) T.g_stream F_stream.kp (vg_v (ve_stab (ve_var (pv 0))) (vg_v (ve_stab (ve_var (pv 2))) vg_nil)) dfl_stream_2))
      (vss_cons (vs_set (i := 4) sc_law.nd (by rfl) (by first | exact Or.inl rfl | exact Or.inr rfl) (ve_bin op_sub ok_sub (ve_call (cal_fn G_draw (hr.mono (by first | decide | omega)) b_draw_2 v_draw_2 tk) (by rfl) T.g_draw F_draw.kp (vg_r (pv 3) (vg_v (ve_c pe_int (fun _ _ => .int _)) vg_nil)) dfl_draw_2) (ve_c pe_int (fun _ _ => .int _))))
      (vss_cons (vs_for hp (by rfl) (vi_list (by rfl) (ve_var (pv 1))) (vg_name (i := 5) sc_law.nd (by rfl) (by first | exact Or.inl rfl | exact Or.inr rfl)) (vss_cons (vs_for hp (by rfl) (vi_list (by rfl) (ve_fz (ve_bin (op_addV (by rfl)) ok_add (ve_var (pv 1)) (ve_lst (va_cons (ve_c pe_int (fun _ _ => .int _)) (va_cons (ve_un un_neg ok_neg (ve_c pe_int (fun _ _ => .int _))) (va_cons (ve_c pe_int (fun _ _ => .int _)) va_nil))))))) (vg_name (i := 6) sc_law.nd (by rfl) (by first | exact Or.inl rfl | exact Or.inr rfl)) (vss_one (vs_if (vt_cmp (op_neD hr.units) ok_ne (ve_call (cal_fn G_refused (hr.mono (by first | decide | omega)) b_refused_2 v_refused_2 tk) (by rfl) T.g_refused F_refused.kp (vg_v (ve_stab (ve_var (pv 5))) (vg_v (ve_stab (ve_var (pv 6))) vg_nil)) dfl_refused_2) (ve_lst (va_cons (ve_callB (call_reprE (by rfl) hr.gd (hu70 hr)) ok_reprE (by rfl) T.n_repr boot_repr (va_cons (ve_var (pv 5)) va_nil)) (va_cons (ve_c pe_bl (fun _ _ => .bl _)) (va_cons (ve_c pe_bl (fun _ _ => .bl _)) va_nil)))) (nomark _)) (vss_one (vs_ret (ve_c pe_bl (fun _ _ => .bl _)))) vss_nil)))
      (vss_cons (vs_if (vt_cmp (op_neD hr.units) ok_ne (ve_call (cal_fn G_refused (hr.mono (by first | decide | omega)) b_refused_2 v_refused_2 tk) (by rfl) T.g_refused F_refused.kp (vg_v (ve_stab (ve_var (pv 4))) (vg_v (ve_stab (ve_var (pv 5))) vg_nil)) dfl_refused_2) (ve_lst (va_cons (ve_callB (call_reprE (by rfl) hr.gd (hu70 hr)) ok_reprE (by rfl) T.n_repr boot_repr (va_cons (ve_var (pv 5)) va_nil)) (va_cons (ve_c pe_bl (fun _ _ => .bl _)) (va_cons (ve_c pe_bl (fun _ _ => .bl _)) va_nil)))) (nomark _)) (vss_one (vs_ret (ve_c pe_bl (fun _ _ => .bl _)))) vss_nil)
      (vss_one (vs_if (vt_not (vt_val (ve_call (cal_fn G_not_more (hr.mono (by first | decide | omega)) b_not_more_2 v_not_more_2 tk) (by rfl) T.g_not_more F_not_more.kp (vg_v (ve_fz (ve_call (cal_make (c := 0) (by rfl) T.mk_Share G_Share_init (hr.mono (by first | decide | omega)) b_Share_init_3 v_Share_init_3 tk) (by rfl) T.g_Share T.mk_Share.kp (vg_v (ve_stab (ve_var (pv 4))) (vg_v (ve_c pe_int (fun _ _ => .int _)) vg_nil)) dfl_Share_init_3)) (vg_v (ve_stab (ve_var (pv 5))) vg_nil)) dfl_not_more_2))) (vss_one (vs_ret (ve_c pe_bl (fun _ _ => .bl _)))) vss_nil)))))
      (vss_cons (vs_for hp (by rfl) (vi_list (by rfl) (ve_fz (ve_lst (va_cons (ve_c pe_int (fun _ _ => .int _)) (va_cons (ve_un un_neg ok_neg (ve_c pe_int (fun _ _ => .int _))) (va_cons (ve_un un_neg ok_neg (ve_call (cal_fn G_draw (hr.mono (by first | decide | omega)) b_draw_2 v_draw_2 tk) (by rfl) T.g_draw F_draw.kp (vg_r (pv 3) (vg_v (ve_bin op_pow ok_pow (ve_c pe_int (fun _ _ => .int _)) (ve_c pe_int (fun _ _ => .int _))) vg_nil)) dfl_draw_2)) va_nil)))))) (vg_name (i := 7) sc_law.nd (by rfl) (by first | exact Or.inl rfl | exact Or.inr rfl)) (vss_one (vs_if (vt_cmp (op_neD hr.units) ok_ne (ve_call (cal_fn G_refused (hr.mono (by first | decide | omega)) b_refused_2 v_refused_2 tk) (by rfl) T.g_refused F_refused.kp (vg_v (ve_stab (ve_var (pv 4))) (vg_v (ve_stab (ve_var (pv 7))) vg_nil)) dfl_refused_2) (ve_lst (va_cons (ve_callB (call_reprE (by rfl) hr.gd (hu70 hr)) ok_reprE (by rfl) T.n_repr boot_repr (va_cons (ve_var (pv 7)) va_nil)) (va_cons (ve_c pe_bl (fun _ _ => .bl _)) (va_cons (ve_c pe_bl (fun _ _ => .bl _)) va_nil)))) (nomark _)) (vss_one (vs_ret (ve_c pe_bl (fun _ _ => .bl _)))) vss_nil)))
      (vss_cons (vs_if (vt_of (vw_or (vt_cmp op_notN ok_notN (ve_call (cal_fn G_refused (hr.mono (by first | decide | omega)) b_refused_2 v_refused_2 tk) (by rfl) T.g_refused F_refused.kp (vg_v (ve_stab (ve_var (pv 4))) (vg_v (ve_c pe_int (fun _ _ => .int _)) vg_nil)) dfl_refused_2) (ve_c pe_non (fun _ _ => .non)) (nomark _)) (vw_or1 (vt_cmp (op_neD hr.units) ok_ne (ve_propV (c := 0) (ve_fz (ve_call (cal_make (c := 0) (by rfl) T.mk_Share G_Share_init (hr.mono (by first | decide | omega)) b_Share_init_2 v_Share_init_2 tk) (by rfl) T.g_Share T.mk_Share.kp (vg_v (ve_stab (ve_var (pv 4))) vg_nil) dfl_Share_init_2)) (by rfl) T.cl_Share T.pr_Share_bottom G_Share_bottom (hr.mono (by first | decide | omega)) b_Share_bottom_1) (ve_c pe_int (fun _ _ => .int _)) (nomark _))))) (vss_one (vs_ret (ve_c pe_bl (fun _ _ => .bl _)))) vss_nil)
      (vss_one (vs_if (vt_of (vw_or (vt_cmpo (pc_neo (c := 0) T.eq_Share (by rfl) (hu_g hr) (by rfl) G_Share_eq (hr.mono (by first | decide | omega)) b_Share_eq_2 tk (ve_fz (ve_call (cal_make (c := 0) (by rfl) T.mk_Share G_Share_init (hr.mono (by first | decide | omega)) b_Share_init_2 v_Share_init_2 tk) (by rfl) T.g_Share T.mk_Share.kp (vg_v (ve_stab (ve_var (pv 4))) vg_nil) dfl_Share_init_2)) (ve_stab (ve_var (pv 4)))) (nomark _)) (vw_or1 (vt_cmpo (pc_eqo (c := 0) T.eq_Share (by rfl) (Nat.lt_of_succ_lt (hu_g hr)) (by rfl) (cal_fn G_Share_eq (hr.mono (by first | decide | omega)) b_Share_eq_2 .nil tk) (ve_fz (ve_call (cal_make (c := 0) (by rfl) T.mk_Share G_Share_init (hr.mono (by first | decide | omega)) b_Share_init_2 v_Share_init_2 tk) (by rfl) T.g_Share T.mk_Share.kp (vg_v (ve_c pe_int (fun _ _ => .int _)) vg_nil) dfl_Share_init_2)) (ve_c pe_bl (fun _ _ => .bl _))) (nomark _))))) (vss_one (vs_ret (ve_c pe_bl (fun _ _ => .bl _)))) vss_nil))))))))
      (vss_one (vs_ret (ve_c pe_bl (fun _ _ => .bl _))))))
def fa : List Ftest := [
  (fun K => (He.Fa.free "len").ok K),
  (fun K => (He.Fa.free "min").ok K),
  (fun K => (He.Fa.free "max").ok K),
  (fun K => (He.Fa.free "range").ok K),
  (fun K => (He.Fa.glo "_law_stream").ok K),
  (fun K => (He.Fa.glo "_law_draw").ok K),
  (fun K => (He.Fa.free "repr").ok K),
  (fun K => (He.Fa.glo "_law_refused").ok K),
  (fun K => (He.Fa.mkr "Share").ok K),
  (fun K => (He.Fa.glo "Share").ok K),
  (fun K => (He.Fa.glo "_law_not_more").ok K),
  (tProp "Share" "bottom"),
  (fun K => (He.Fa.cls "Share").ok K),
  (tOwnEq "Share"),
  (fun K => (He.Fa.glo "is_number").ok K),
  (fun K => (He.Fa.glo "over_of").ok K),
  (fun K => (He.Fa.noat "Share" "over").ok K),
  (fun K => (He.Fa.glo "under_of").ok K),
  (fun K => (He.Fa.noat "Share" "under").ok K),
  (fun K => (He.Fa.free "isinstance").ok K),
  (fun K => (He.Fa.glo "is_integer").ok K),
  (fun K => (He.Fa.free "int").ok K),
  (fun K => (He.Fa.free "bool").ok K),
  (fun K => (He.Fa.meth "Share" "is_more").ok K),
  (fun K => (He.Fa.glo "InvalidNumber").ok K),
  (tExm fnNames 0 "InvalidNumber"),
  (tXfc fnNames [0] "value"),
  (fun K => (He.Fa.free "super").ok K),
  (excB (fun K => (He.ga K "InvalidNumber")) (fun K => He.ma K (He.ga K "InvalidNumber") "__init__") "value" "/claim/cut.py"),
  (fun K => (He.Fa.glo "BellError").ok K),
  (tIsx fnNames [0] [((0, 1), true)] []),
  (fun K => (He.Fa.free "ValueError").ok K),
  (tIsx fnNames [0] [] [((0, "ValueError"), true)]),
  (fun K => (He.Fa.glo "common").ok K),
  (fun K => (He.Fa.glo "law").ok K),
  (tIsi clsNames sub)]
def fn : List VDef := [d_Share_bottom, d_is_integer, d_is_number, d_over_of, d_under_of, d_Share_eq, d_common, d_Share_init, d_draw, d_Share_is_more, d_not_more, d_refused, d_stream, d_law, d_InvalidNumber_init]
def ts : List He.Tab := []
theorem txt_of {K : PySem.W.Frag} {h : Heap} {mg : Str → Option Value} {w : World} (X : K.In h) (G : h.Ns mainGlobals mg) (cw : SaysW fa fn ts w K) : Txt K mg w :=
  have c := cw.v
  {
    n_len := He.free_ok X G (c.fact 0 (f := fun K => (He.Fa.free "len").ok K) rfl),
    n_min := He.free_ok X G (c.fact 1 (f := fun K => (He.Fa.free "min").ok K) rfl),
    n_max := He.free_ok X G (c.fact 2 (f := fun K => (He.Fa.free "max").ok K) rfl),
    n_range := He.free_ok X G (c.fact 3 (f := fun K => (He.Fa.free "range").ok K) rfl),
    g_stream := He.glo_ok X G (c.fact 4 (f := fun K => (He.Fa.glo "_law_stream").ok K) rfl),
    g_draw := He.glo_ok X G (c.fact 5 (f := fun K => (He.Fa.glo "_law_draw").ok K) rfl),
    n_repr := He.free_ok X G (c.fact 6 (f := fun K => (He.Fa.free "repr").ok K) rfl),
    g_refused := He.glo_ok X G (c.fact 7 (f := fun K => (He.Fa.glo "_law_refused").ok K) rfl),
    mk_Share := He.mkr_ok (c.fact 8 (f := fun K => (He.Fa.mkr "Share").ok K) rfl),
    g_Share := He.glo_ok X G (c.fact 9 (f := fun K => (He.Fa.glo "Share").ok K) rfl),
    g_not_more := He.glo_ok X G (c.fact 10 (f := fun K => (He.Fa.glo "_law_not_more").ok K) rfl),
    pr_Share_bottom := prop_ok (c.fact 11 (f := tProp "Share" "bottom") rfl),
    cl_Share := He.cls_ok (c.fact 12 (f := fun K => (He.Fa.cls "Share").ok K) rfl),
    eq_Share := owneq_ok (c.fact 13 (f := tOwnEq "Share") rfl),
    g_is_number := He.glo_ok X G (c.fact 14 (f := fun K => (He.Fa.glo "is_number").ok K) rfl),
    g_over_of := He.glo_ok X G (c.fact 15 (f := fun K => (He.Fa.glo "over_of").ok K) rfl),
    na_Share_over := He.noat_ok (c.fact 16 (f := fun K => (He.Fa.noat "Share" "over").ok K) rfl),
    g_under_of := He.glo_ok X G (c.fact 17 (f := fun K => (He.Fa.glo "under_of").ok K) rfl),
    na_Share_under := He.noat_ok (c.fact 18 (f := fun K => (He.Fa.noat "Share" "under").ok K) rfl),
    n_isinstance := He.free_ok X G (c.fact 19 (f := fun K => (He.Fa.free "isinstance").ok K) rfl),
    g_is_integer := He.glo_ok X G (c.fact 20 (f := fun K => (He.Fa.glo "is_integer").ok K) rfl),
    n_int := He.free_ok X G (c.fact 21 (f := fun K => (He.Fa.free "int").ok K) rfl),
    n_bool := He.free_ok X G (c.fact 22 (f := fun K => (He.Fa.free "bool").ok K) rfl),
    mt_Share_is_more := He.meth_ok (c.fact 23 (f := fun K => (He.Fa.meth "Share" "is_more").ok K) rfl),
    g_InvalidNumber := He.glo_ok X G (c.fact 24 (f := fun K => (He.Fa.glo "InvalidNumber").ok K) rfl),
    ey_InvalidNumber := exm_ok (c.fact 25 (f := tExm fnNames 0 "InvalidNumber") rfl),
    xf_value := xf_ok (c.fact 26 (f := tXfc fnNames [0] "value") rfl) (fun _ _ h => h),
    n_super := He.free_ok X G (c.fact 27 (f := fun K => (He.Fa.free "super").ok K) rfl),
    ex_InvalidNumber := excB_ok (c.fact 28 (f := excB (fun K => (He.ga K "InvalidNumber")) (fun K => He.ma K (He.ga K "InvalidNumber") "__init__") "value" "/claim/cut.py") rfl),
    g_BellError := He.glo_ok X G (c.fact 29 (f := fun K => (He.Fa.glo "BellError").ok K) rfl),
    ix_InvalidNumber_BellError := isx_ok (c.fact 30 (f := tIsx fnNames [0] [((0, 1), true)] []) rfl) (fun _ _ h => h),
    n_ValueError := He.free_ok X G (c.fact 31 (f := fun K => (He.Fa.free "ValueError").ok K) rfl),
    ix_InvalidNumber_ValueError := isx_ok (c.fact 32 (f := tIsx fnNames [0] [] [((0, "ValueError"), true)]) rfl) (fun _ _ h => h),
    g_common := He.glo_ok X G (c.fact 33 (f := fun K => (He.Fa.glo "common").ok K) rfl),
    g_law := He.glo_ok X G (c.fact 34 (f := fun K => (He.Fa.glo "law").ok K) rfl),
    isi := isi_ok (L := clsNames) (fun _ _ h => h) (c.fact 35 (f := tIsi clsNames sub) rfl) }
theorem all_ok {P : Program} {w : World} {K : PySem.W.Frag} {mg : Str → Option Value} {base : Heap} (T : Txt K mg w) (c : SaysV fa fn K) (hP : PFile P "/claim/cut.py") : Ok P w K mg base (gam K w) d_law 6 ["_law_script"] f_law := by
  have x_InvalidNumber := exc_InvalidNumber (P := P) (w := w) (base := base) T hP (c.raw 14)
  have k_Share_bottom := ok_Share_bottom (P := P) (w := w) (base := base) T (c.def_ 0) 
  have k_is_integer := ok_is_integer (P := P) (w := w) (base := base) T (c.def_ 1) 
  have k_is_number := ok_is_number (P := P) (w := w) (base := base) T (c.def_ 2) k_is_integer
  have k_over_of := ok_over_of (P := P) (w := w) (base := base) T (c.def_ 3) 
  have k_under_of := ok_under_of (P := P) (w := w) (base := base) T (c.def_ 4) 
  have k_Share_eq := ok_Share_eq (P := P) (w := w) (base := base) T (c.def_ 5) k_is_number k_over_of k_under_of
  have k_common := ok_common (P := P) (w := w) (base := base) T (c.def_ 6) 
  have k_Share_init := ok_Share_init (P := P) (w := w) (base := base) T (c.def_ 7) k_is_integer k_common x_InvalidNumber
  have k_draw := ok_draw (P := P) (w := w) (base := base) T (c.def_ 8) 
  have k_Share_is_more := ok_Share_is_more (P := P) (w := w) (base := base) T (c.def_ 9) k_is_number k_over_of k_under_of x_InvalidNumber
  have k_not_more := ok_not_more (P := P) (w := w) (base := base) T (c.def_ 10) k_Share_is_more
  have k_refused := ok_refused (P := P) (w := w) (base := base) T (c.def_ 11) k_Share_init
  have k_stream := ok_stream (P := P) (w := w) (base := base) T (c.def_ 12) 
  have k_law := ok_law (P := P) (w := w) (base := base) T (c.def_ 13) k_Share_bottom k_Share_eq k_Share_init k_draw k_not_more k_refused k_stream
  exact k_law
def loose0 : List PySem.Str := ["BellError", "InvalidNumber", "is_integer", "common", "Share", "is_number", "over_of", "under_of", "_law_stream", "_law_draw", "_law_refused", "_law_not_more"]
def loose : List PySem.Str := loose0
abbrev R : PySem.W.OpenRow := PySem.W.OpenLaw.row PySem.Challenge.rw_gatheredbells_k02_no_shares
abbrev hk : PySem.W.Hook := hookW 8 fa fn ts
def ob (s : PySem.W.SharedT) : AlW := obsWG 8 fa fn ts (HandSHeadRun.getT s)
theorem ob_eq (s : PySem.W.SharedT) : ob s = hk.obs s.abs := obsWG_eq (HandSHeadRun.getT_eq s)
-- RUN
theorem run_f (w : World) : HandSHeadRun.RunEq R (PySem.W.view R.prog [16]) hk ob 40000 loose (w.withFollow "special-get-raises" false) := fun os => by kernel_rfl
theorem run_t (w : World) : HandSHeadRun.RunEq R (PySem.W.view R.prog [16]) hk ob 40000 loose (w.withFollow "special-get-raises" true) := fun os => by kernel_rfl
theorem run (w : World) : HandSHeadRun.RunEq R (PySem.W.view R.prog [16]) hk ob 40000 loose w := PySem.W.byRow2 "special-get-raises" (P := fun w => HandSHeadRun.RunEq R (PySem.W.view R.prog [16]) hk ob 40000 loose w) run_f run_t w
end Gb
set_option maxHeartbeats 4000000
namespace Gb
open PySem L2 VL
/-- the factor on one side is small -/
theorem mul_l {i j : Int} (h1 : -(2 ^ 64) < i) (h2 : i < 2 ^ 64) : mulOk i j := .inr (.inl ⟨h1, h2⟩)
theorem mul_r {i j : Int} (h1 : -(2 ^ 64) < j) (h2 : j < 2 ^ 64) : mulOk i j := .inr (.inr ⟨h1, h2⟩)
theorem ite01 (c : Prop) [Decidable c] : (0 : Int) ≤ if c then 1 else 0 := by split <;> decide
theorem a_stream (ns : List Int) (k : Nat) (hk : k ≤ 63) : ∃ a b : Int, 0 ≤ a ∧ 0 ≤ b ∧ b < 2147483647 ∧ f_stream [.scr ns, .int k] = .ok (.lst true [.int a, .int b]) [none, none] := by
  have hm1 : mulOk 7919 (k : Int) := mul_l (by decide) (by decide)
  have hm2 : mulOk (7919 * (k : Int)) (k : Int) := mul_r (by omega) (by omega)
  have hm3 : mulOk 31 (k : Int) := mul_l (by decide) (by decide)
  have hm4 : ∀ x : Int, mulOk x 48271 := fun x => mul_r (by decide) (by decide)
  have hm5 : ∀ (x : Int) (c : Prop) [Decidable c], mulOk x (if c then 1 else 0) := fun x c _ => by split <;> exact mul_r (by decide) (by decide)
  have hm6 : ∀ x : Int, mulOk x 0 := fun x => mul_r (by decide) (by decide)
  have pos : ∀ z : Int, 0 ≤ (if z < -1 - z then -1 - z else z) := fun z => by split <;> omega
  have mod : ∀ z : Int, 0 ≤ z % 2147483647 ∧ z % 2147483647 < 2147483647 := fun z => ⟨Int.emod_nonneg _ (by decide), Int.emod_lt_of_pos _ (by decide)⟩
  have hp : powOk 10 18 := by decide
  by_cases h : (k : Int) < ns.length
  · have hlt : k < ns.length := by omega
    have hat : atI ns (k : Int) = some ns[k] := atI_nat (by simp [hlt])
    have e : f_stream [.scr ns, .int k] = .ok (.lst true [.int ((if ns[k] < -1 - ns[k] then -1 - ns[k] else ns[k]) * (if 10 ^ 18 ≤ (if ns[k] < -1 - ns[k] then -1 - ns[k] else ns[k]) then 1 else 0)), .int (((if ns[k] < -1 - ns[k] then -1 - ns[k] else ns[k]) % 2147483629 + 7919 * (k : Int) * k + 31 * k + 17) * 48271 % 2147483647)]) [none, none] := by
      simp [f_stream, mBody, m_stream, h, hat, hm1, hm2, hm3, hm4, hm5, hp]
    exact ⟨_, _, Int.mul_nonneg (pos _) (ite01 _), (mod _).1, (mod _).2, e⟩
  · have e : f_stream [.scr ns, .int k] = .ok (.lst true [.int 0, .int ((7919 * (k : Int) * k + 31 * k + 17) * 48271 % 2147483647)]) [none, none] := by
      simp [f_stream, mBody, m_stream, h, hm1, hm2, hm3, hm4, hm5, hm6, hp]
    exact ⟨_, _, by decide, (mod _).1, (mod _).2, e⟩
/-- the stream: two numbers -/
def Stm (v : Val) : Prop := ∃ a b : Int, v = .lst true [.int a, .int b] ∧ 0 ≤ a ∧ 0 ≤ b ∧ b < 2147483647
theorem a_draw {s : Val} (hs : Stm s) {c : Int} (h0 : 0 < c) (hc : c < 2 ^ 64) : ∃ (r : Int) (s' : Val), 0 ≤ r ∧ r < c ∧ Stm s' ∧ f_draw [s, .int c] = .ok (.int r) [some s', none] := by
  obtain ⟨a, b, rfl, ha, hb, hb2⟩ := hs
  have i0 : ixN 2 0 = some 0 := by decide
  have i1 : ixN 2 1 = some 1 := by decide
  have a0 : ∀ x y : Val, atI [x, y] 0 = some x := fun x y => by simp [atI, i0]
  have a1 : ∀ x y : Val, atI [x, y] 1 = some y := fun x y => by simp [atI, i1]
  have hd : divOk c := ⟨h0, by
    have : c.natAbs < 2 ^ 64 := by omega
    have := (Nat.log2_lt (by omega)).mpr this
    omega⟩
  have hd2 : divOk 32 := by decide
  by_cases h : 0 < a
  · refine ⟨_, _, Int.emod_nonneg a (by omega), Int.emod_lt_of_pos a h0, ⟨a / c, b, rfl, Int.ediv_nonneg ha (by omega), hb, hb2⟩, ?_⟩
    simp [f_draw, mBody, m_draw, a0, a1, i0, i1, h, h0, hd]
  · have m1 : mulOk b 39373 := mul_r (by decide) (by decide)
    have m2 : mulOk ((b * 39373 + 7) % 2147483647) ((b * 39373 + 7) % 2147483647) := mul_r (by have := Int.emod_nonneg (b * 39373 + 7) (show (2147483647 : Int) ≠ 0 by decide); omega) (by have := Int.emod_lt_of_pos (b * 39373 + 7) (show (0 : Int) < 2147483647 by decide); omega)
    have e : f_draw [.lst true [.int a, .int b], .int c] = .ok (.int ((b * 39373 + 7) % 2147483647 * ((b * 39373 + 7) % 2147483647) % 2147483629 / 32 % c)) [some (.lst true [.int a, .int ((b * 39373 + 7) % 2147483647)]), none] := by
      simp [f_draw, mBody, m_draw, a0, a1, i0, i1, h, h0, hd, m1, m2, hd2]
    exact ⟨_, _, Int.emod_nonneg _ (by omega), Int.emod_lt_of_pos _ h0, ⟨a, (b * 39373 + 7) % 2147483647, rfl, ha, Int.emod_nonneg _ (by decide), Int.emod_lt_of_pos _ (by decide)⟩, e⟩
theorem forL_inv {g : MG} {body : MS} {P : VEnv → Prop} : ∀ {us : List Val}, (∀ u ∈ us, ∀ ρ, P ρ → ∃ ρ1 ρ2, g u ρ = some ρ1 ∧ body ρ1 = .nx ρ2 ∧ P ρ2) → ∀ ρ, P ρ → ∃ ρ', forL g body us ρ = .nx ρ' ∧ P ρ'
  | [], _, ρ, h => ⟨ρ, rfl, h⟩
  | u :: us, hs, ρ, h => by
    obtain ⟨ρ1, ρ2, e1, e2, h2⟩ := hs u List.mem_cons_self ρ h
    obtain ⟨ρ', e3, h3⟩ := forL_inv (us := us) (fun v hv => hs v (List.mem_cons_of_mem _ hv)) ρ2 h2
    exact ⟨ρ', by unfold forL; rw [e1]; simp only [e2, e3], h3⟩
end Gb
namespace Gb
open PySem L2 VL
/-! ### k02: the refusals -/
def oddL : List Val := [.non, .bl true, .bl false, .str "1", .tup [.int 1], .lst false [.int 2], .dct false .k [] [], .str "a/b"]
theorem b1_odd : ∀ t ∈ oddL, ∀ o ∈ oddL ++ [.int 0, .int (-1), .int 3], ∀ (x0 x1 x2 x3 x4 x7 : Option Val), m_law_b1 [x0, x1, x2, x3, x4, some t, some o, x7] = .nx [x0, x1, x2, x3, x4, some t, some o, x7] := by
  intro t ht o ho x0 x1 x2 x3 x4 x7
  simp only [oddL, List.mem_cons, List.mem_nil_iff, or_false, List.cons_append, List.nil_append] at ht ho
  rcases ht with rfl | rfl | rfl | rfl | rfl | rfl | rfl | rfl <;> rcases ho with rfl | rfl | rfl | rfl | rfl | rfl | rfl | rfl | rfl | rfl | rfl <;> kernel_rfl
theorem ref_odd (g : Int) : ∀ t ∈ oddL, ∀ (x0 x1 x2 x3 x6 x7 : Option Val), (mFun semNe [(mCall f_refused [.v ⟨true, true, (mStab (mVar 4))⟩, .v ⟨true, true, (mStab (mVar 5))⟩]), (mLst [(mFun semReprE [(mVar 5)]), (mC (.bl true)), (mC (.bl true))])]) [x0, x1, x2, x3, some (.int g), some t, x6, x7] = .ok (.bl false) [x0, x1, x2, x3, some (.int g), some t, x6, x7] := by
  intro t ht x0 x1 x2 x3 x6 x7
  simp only [oddL, List.mem_cons, List.mem_nil_iff, or_false] at ht
  rcases ht with rfl | rfl | rfl | rfl | rfl | rfl | rfl | rfl <;> kernel_rfl
def shr (o : Bool) (p q : Int) : Val := .obj o 0 ["over", "under"] [.int p, .int q]
theorem more_odd (p q : Int) : ∀ t ∈ oddL, f_not_more [shr false p q, t] = .ok (.bl true) [none, none] := by
  intro t ht
  simp only [oddL, List.mem_cons, List.mem_nil_iff, or_false] at ht
  rcases ht with rfl | rfl | rfl | rfl | rfl | rfl | rfl | rfl <;> kernel_rfl
theorem fz_odd : ∀ t ∈ oddL, t.fz = true := by
  intro t ht
  simp only [oddL, List.mem_cons, List.mem_nil_iff, or_false] at ht
  rcases ht with rfl | rfl | rfl | rfl | rfl | rfl | rfl | rfl <;> rfl
/-! ### shares -/
theorem gcd_step (x y : Nat) : Nat.gcd y (x % y) = Nat.gcd x y := by rw [Nat.gcd_comm x y, Nat.gcd_rec y x, Nat.gcd_comm]
theorem loop1 : ∀ (n x y : Nat), y < n → whileN (mFun (semCmp fun i j => decide (j < i)) [(mVar 1), (mC (.int 0))]) m_common_b1 n [some (.int x), some (.int y)] = .nx [some (.int (Nat.gcd x y)), some (.int 0)]
  | 0, _, _, h => absurd h (Nat.not_lt_zero _)
  | n + 1, x, 0, _ => by simp [whileN]
  | n + 1, x, y + 1, h => by
    have ih := loop1 n (y + 1) (x % (y + 1)) (Nat.lt_of_lt_of_le (Nat.mod_lt x (Nat.succ_pos y)) (by omega))
    rw [gcd_step] at ih
    have h0 : (0 : Int) < ((y + 1 : Nat) : Int) := by omega
    have e : ((x % (y + 1) : Nat) : Int) = (x : Int) % ((y + 1 : Nat) : Int) := by simp
    rw [e] at ih
    unfold whileN
    simp only [Int.natCast_add, Int.natCast_one] at *
    simp only [m_common_b1] at ih ⊢
    simp [h0, ih]
theorem max_abs (a : Int) : (if -a > a then -a else a) = (a.natAbs : Int) := by split <;> omega
theorem a_common (a b : Int) : f_common [.int a, .int b] = .ok (.int (Nat.gcd a.natAbs b.natAbs)) [none, none] := by
  have l := loop1 (b.natAbs + 1) a.natAbs b.natAbs (by omega)
  have ma := max_abs a
  have mb := max_abs b
  simp only [gt_iff_lt] at ma mb
  simp [f_common, mBody, m_common, mWhile, fuelAt, ma, mb, l]
theorem divOk_of {d : Int} (h : 0 < d) (h2 : d < 2 ^ 900) : divOk d := by
  refine ⟨h, ?_⟩
  have h3 : d.natAbs < 2 ^ 900 := by
    have : ((2 ^ 900 : Nat) : Int) = (2 : Int) ^ 900 := by norm_cast
    omega
  have := (Nat.log2_lt (by omega)).mpr h3
  omega
theorem is_int (i : Int) : f_is_integer [.int i] = .ok (.bl true) [none] := by kernel_rfl
@[simp] theorem ne_ou : ¬ (Str.ofString "over" = Str.ofString "under") := by decide +kernel
@[simp] theorem ne_uo : ¬ (Str.ofString "under" = Str.ofString "over") := by decide +kernel
theorem a_init {t b : Int} (hb : 0 < b) (h2 : b < 2 ^ 900) : f_Share_init [.obj true 0 [] [], .int t, .int b] = .ok .non [some (shr true (t / (Nat.gcd t.natAbs b.natAbs : Nat)) (b / (Nat.gcd t.natAbs b.natAbs : Nat))), none, none] := by
  have e1 := is_int t
  have e2 := is_int b
  have e3 := a_common t b
  have hg : 0 < Nat.gcd t.natAbs b.natAbs := Nat.gcd_pos_of_pos_right _ (by omega)
  have hg2 : Nat.gcd t.natAbs b.natAbs ≤ b.natAbs := Nat.gcd_le_right _ (by omega)
  have hd : divOk (Nat.gcd t.natAbs b.natAbs : Nat) := divOk_of (by omega) (by omega)
  have hb1 : ¬ b < 1 := by omega
  simp [f_Share_init, mBody, m_Share_init, e1, e2, e3, hd, hb1, putFn, putFv, shr]
theorem a_make {t b : Int} (hb : 0 < b) (h2 : b < 2 ^ 900) : ∃ p q, mMake 0 f_Share_init [.int t, .int b] = .ok (shr true p q) [none, none] := by
  exact ⟨_, _, by simp [mMake, a_init hb h2]; rfl⟩
theorem a_make1 (t : Int) : mMake 0 f_Share_init [.int t, .int 1] = .ok (shr true t 1) [none, none] := by
  have e := a_init (t := t) (b := 1) (by decide) (by decide)
  have g : Nat.gcd t.natAbs (1 : Int).natAbs = 1 := by simp
  rw [g] at e
  have e1 : t / ((1 : Nat) : Int) = t := by simp
  have e2 : (1 : Int) / ((1 : Nat) : Int) = 1 := by decide
  rw [e1, e2] at e
  simp [mMake, e, shr]
theorem a_bad {g b : Int} (h : b < 1) : mMake 0 f_Share_init [.int g, .int b] = .exc ⟨.fn 0, ["value"], [.int b]⟩ [none, none] := by
  have e1 := is_int g
  have e2 := is_int b
  simp [mMake, f_Share_init, mBody, m_Share_init, e1, e2, h, mRaise]
theorem ref_bad {g b : Int} (h : b < 1) {S : Str} (hS : semRepr [.int b] = some (.str S)) : f_refused [.int g, .int b] = .ok (.lst true [.str S, .bl true, .bl true]) [none, none] := by
  have e := a_bad (g := g) h
  simp [f_refused, mBody, m_refused, e, mTryAs, mExf, mGone, semReprE, hS, semIsx, noxE, Val.nox, noxs, outs]
theorem strOk_of (s : String) : PyData.strOk (s : Str) = true := by
  unfold PyData.strOk
  rw [Str.ofString_eq_toList, Array.all_eq_true]
  intro i hi
  simp only [List.getElem_toArray, List.getElem_map, decide_eq_true_eq]
  have hc := (s.toList[i]'(by simpa using hi)).valid
  generalize s.toList[i]'(by simpa using hi) = c at hc
  show c.val.toNat < 0x110000
  rcases hc with hc | hc <;> omega
theorem shows_int {b : Int} (h : b.natAbs < 10 ^ 9) : ∃ S, semRepr [.int b] = some (.str S) ∧ PyData.strOk S = true := by
  have e : (PyData.int b).shown = ((toString b : String) : Str) := PyData.shown_int b
  have l : (PyData.int b).shown.length ≤ 13 := PyData.shown_int_le (by omega)
  have hs : (PyData.int b).showable = true := by
    have : b.natAbs.log2 < 1920 := by
      by_cases h0 : b.natAbs = 0
      · rw [h0]; decide
      · have := (Nat.log2_lt (k := 30) h0).mpr (by omega)
        omega
    simpa [PyData.showable] using this
  refine ⟨(PyData.int b).shown, ?_, by rw [e]; exact strOk_of _⟩
  unfold semRepr
  simp only [toD]
  rw [if_pos ⟨hs, by simp [PyData.depth], by omega⟩]

def fr (ns : List Int) (k : Nat) (s : Val) (g : Int) (x5 x6 x7 : Option Val) : VEnv := [some (.scr ns), some (.lst false oddL), some (.int (k : Int)), some s, some (.int g), x5, x6, x7]
theorem r_b2 (ns : List Int) (k : Nat) (s : Val) (g : Int) (t : Val) (ht : t ∈ oddL) (x6 x7 : Option Val) : Runs m_law_b2 (fr ns k s g (some t) x6 x7) fun ρ => ∃ y, ρ = fr ns k s g (some t) y x7 := by
  have it : mItemsL (mFz (mFun semAdd [(mVar 1), (mLst [(mC (.int 0)), (mFun semNeg [(mC (.int 1))]), (mC (.int 3))])])) (fr ns k s g (some t) x6 x7) = .ok (oddL ++ [.int 0, .int (-1), .int 3]) (fr ns k s g (some t) x6 x7) := by kernel_rfl
  obtain ⟨p, q, mk⟩ := a_make (t := g) (b := 7) (by decide) (by decide)
  unfold m_law_b2
  refine R_seqK (R_for (J := fun ρ => ∃ y, ρ = fr ns k s g (some t) y x7) it ⟨x6, rfl⟩ fun u hu ρ ⟨y, hρ⟩ => ?_) fun ρ ⟨y, hρ⟩ => ?_
  · subst hρ
    exact ⟨fr ns k s g (some t) (some u) x7, E_gV (by simp [fr]) rfl, R_end (b1_odd t ht u hu _ _ _ _ _ _) ⟨_, rfl⟩⟩
  · subst hρ
    refine R_guardF (ref_odd g t ht _ _ _ _ _ _) ?_
    exact R_guardFE (E_notF (E_call2 (E_fz (E_call2 (E_stab rfl rfl) E_c mk) rfl) (E_stab rfl (fz_odd t ht)) (more_odd p q t ht))) ⟨y, rfl⟩
theorem r_b3 (ns : List Int) (k : Nat) (s : Val) (g b : Int) (hb : b < 1) (hb2 : b.natAbs < 10 ^ 9) (x5 x6 : Option Val) : m_law_b3 (fr ns k s g x5 x6 (some (.int b))) = .nx (fr ns k s g x5 x6 (some (.int b))) := by
  obtain ⟨S, hS, hSo⟩ := shows_int hb2
  unfold m_law_b3
  refine (E_ifF (ρ1 := fr ns k s g x5 x6 (some (.int b))) (E_f2 (E_call2 (E_stab rfl rfl) (E_stab rfl rfl) (ref_bad hb hS)) (E_lst3 (E_f1 (E_var rfl) (show semReprE [.int b] = some (.str S) from hS)) E_c E_c) (semNe_same (n := 1) (by decide) ?_ rfl))).trans rfl
  simp [plD, scD, hSo]
theorem ref1 (g : Int) : f_refused [.int g, .int 1] = .ok .non [none, none] := by
  have e := a_make1 g
  simp [f_refused, mBody, m_refused, e, mTryAs]
theorem eq1 (g : Int) : mfCmp not 0 f_Share_eq [shr false g 1, .int g] = .ok (.bl false) [none, none] := by
  have e1 : f_is_number [.int g] = .ok (.bl true) [none] := by kernel_rfl
  have e2 : f_over_of [.int g] = .ok (.int g) [none] := by kernel_rfl
  have e3 : f_under_of [.int g] = .ok (.int 1) [none] := by kernel_rfl
  simp [mfCmp, boolR, tyName, shr, f_Share_eq, mBody, m_Share_eq, e1, e2, e3, semFld, lookF, outs]
theorem eqT : mfCmp id 0 f_Share_eq [shr false 1 1, .bl true] = .ok (.bl false) [none, none] := by kernel_rfl
theorem rng_law {ns : List Int} {c : Int} (hc : 1 ≤ c ∧ c ≤ 63) {ρ : VEnv} (h0 : ρ[0]? = some (some (.scr ns))) : ∃ n : Nat, n ≤ c.toNat ∧ mRng1 (mFun semMax2 [(mC (.int 1)), (mFun semMin2 [(mC (.int c)), (mFun semLen [(mVar 0)])])]) ρ = .ok ((List.range n).map fun i : Nat => Val.int (i : Int)) ρ := by
  obtain ⟨n, hn⟩ : ∃ n : Int, (if 1 < if (ns.length : Int) < c then (ns.length : Int) else c then if (ns.length : Int) < c then (ns.length : Int) else c else 1) = n := ⟨_, rfl⟩
  have hb2 : 0 ≤ n ∧ n ≤ c := by
    subst hn
    split <;> (try split) <;> omega
  refine ⟨n.toNat, by omega, ?_⟩
  have e2 : mFun semMax2 [(mC (.int 1)), (mFun semMin2 [(mC (.int c)), (mFun semLen [(mVar 0)])])] ρ = .ok (.int n) ρ := by
    refine E_f2 E_c (E_f2 E_c (E_f1 (E_var h0) rfl) rfl) ?_
    rw [← hn]; rfl
  unfold mRng1
  rw [e2]
  show (if -(2 ^ 62) ≤ n ∧ n < 2 ^ 62 then _ else _) = _
  rw [if_pos ⟨by omega, by omega⟩]
theorem r_b4 (ns : List Int) (k : Nat) (hk : k ≤ 63) (x3 x4 x5 x6 x7 : Option Val) : Runs m_law_b4 [some (.scr ns), some (.lst false oddL), some (.int (k : Int)), x3, x4, x5, x6, x7] fun ρ => ∃ y2 y3 y4 y5 y6 y7, ρ = [some (.scr ns), some (.lst false oddL), y2, y3, y4, y5, y6, y7] := by
  obtain ⟨sa, sb, ha, hb, hb2, e1⟩ := a_stream ns k hk
  have hs0 : Stm (.lst true [.int sa, .int sb]) := ⟨sa, sb, rfl, ha, hb, hb2⟩
  generalize hS0 : Val.lst true [.int sa, .int sb] = s0 at e1 hs0
  obtain ⟨r, s1, r0, r1, hs1, f1⟩ := a_draw hs0 (c := 100) (by decide) (by decide)
  obtain ⟨d, s2, d0, d1, hs2, f2⟩ := a_draw hs1 (c := 1000000000) (by decide) (by decide)
  unfold m_law_b4
  refine R_set (E_call2 (E_stab rfl rfl) (E_stab rfl rfl) e1) (by simp) (ρ2 := [some (.scr ns), some (.lst false oddL), some (.int (k : Int)), some s0, x4, x5, x6, x7]) rfl ?_
  have q1 : mCall f_draw [.r 3, .v ⟨true, true, (mC (.int 100))⟩] [some (.scr ns), some (.lst false oddL), some (.int (k : Int)), some s0, x4, x5, x6, x7] = .ok (.int r) [some (.scr ns), some (.lst false oddL), some (.int (k : Int)), some s1, x4, x5, x6, x7] := E_callR2 E_c rfl ⟨_, rfl⟩ f1 rfl
  refine R_set (E_f2 q1 E_c rfl) (by simp) (ρ2 := fr ns k s1 (r - 50) x5 x6 x7) rfl ?_
  generalize r - 50 = g
  refine R_seqK (R_for (J := fun ρ => ∃ y5 y6, ρ = fr ns k s1 g y5 y6 x7) (E_itL (E_var rfl)) ⟨x5, x6, rfl⟩ fun u hu ρ ⟨y5, y6, hρ⟩ => ?_) fun ρ ⟨y5, y6, hρ⟩ => ?_
  · subst hρ
    exact ⟨fr ns k s1 g (some u) y6 x7, E_gV (by simp [fr]) rfl, R_mono (r_b2 ns k s1 g u hu y6 x7) fun ρ' ⟨y, e⟩ => ⟨_, y, e⟩⟩
  subst hρ
  have q2 : mCall f_draw [.r 3, .v ⟨true, true, (mFun semPow [(mC (.int 10)), (mC (.int 9))])⟩] (fr ns k s1 g y5 y6 x7) = .ok (.int d) (fr ns k s2 g y5 y6 x7) := E_callR2 (E_f2 E_c E_c (by decide +kernel : semPow [.int 10, .int 9] = some (.int 1000000000))) rfl ⟨_, rfl⟩ f2 rfl
  refine R_seqK (R_for (J := fun ρ => ∃ y7, ρ = fr ns k s2 g y5 y6 y7) (us := [.int 0, .int (-1), .int (-d)]) (E_itL (E_fz (E_lst3 E_c (E_f1 E_c rfl) (E_f1 q2 rfl)) rfl)) ⟨x7, rfl⟩ fun u hu ρ ⟨y7, hρ⟩ => ?_) fun ρ ⟨y7, hρ⟩ => ?_
  · subst hρ
    obtain ⟨b, rfl, h1, h2⟩ : ∃ b : Int, u = .int b ∧ b < 1 ∧ b.natAbs < 10 ^ 9 := by
      simp at hu
      rcases hu with rfl | rfl | rfl
      · exact ⟨0, rfl, by decide, by decide⟩
      · exact ⟨-1, rfl, by decide, by decide⟩
      · exact ⟨-d, rfl, by omega, by omega⟩
    exact ⟨fr ns k s2 g y5 y6 (some (.int b)), E_gV (by simp [fr]) rfl, R_end (r_b3 ns k s2 g b h1 h2 y5 y6) ⟨_, rfl⟩⟩
  subst hρ
  have mk := a_make1 g
  have mk1 := a_make1 1
  have call1 : mFz (mCall (mMake 0 f_Share_init) [.v ⟨true, true, (mStab (mVar 4))⟩, .k (.int 1) (.int 1)]) (fr ns k s2 g y5 y6 y7) = .ok (shr false g 1) (fr ns k s2 g y5 y6 y7) := E_fz (E_callG rfl (EM_cons (E_stab rfl rfl) EM_nil) rfl mk rfl) rfl
  have call2 : mFz (mCall (mMake 0 f_Share_init) [.v ⟨true, true, (mC (.int 1))⟩, .k (.int 1) (.int 1)]) (fr ns k s2 g y5 y6 y7) = .ok (shr false 1 1) (fr ns k s2 g y5 y6 y7) := E_fz (E_callG rfl (EM_cons E_c EM_nil) rfl mk1 rfl) rfl
  have bot : mfNoX f_Share_bottom [shr false g 1] = .ok (.int 1) [some (shr false g 1)] := by kernel_rfl
  refine R_guardF (ρ1 := fr ns k s2 g y5 y6 y7) (E_orF (E_f2 (E_call2 (E_stab rfl rfl) E_c (ref1 g)) E_c rfl) (E_f2 (E_call1 (E_objC call1 rfl) bot) E_c (by simp))) ?_
  refine R_guardFE (ρ1 := fr ns k s2 g y5 y6 y7) (E_orF (E_call2 call1 (E_stab rfl rfl) (eq1 g)) (E_call2 call2 E_c eqT)) ⟨_, _, _, _, _, _, rfl⟩
theorem law_true (ns : List Int) (h : ns.length ≤ 63) : ∃ fs, f_law [.scr ns] = .ok (.bl true) fs := by
  let ρ0 : VEnv := [some (.scr ns), none, none, none, none, none, none, none]
  let ρ1 : VEnv := [some (.scr ns), some (.lst false oddL), none, none, none, none, none, none]
  have e0 : mSet 1 (mFz (mLst [(mC .non), (mC (.bl true)), (mC (.bl false)), (mC (.str "1")), (mTup [(mC (.int 1))]), (mFz (mLst [(mC (.int 2))])), (mFz (mDct [] [])), (mC (.str "a/b"))])) ρ0 = .nx ρ1 := by kernel_rfl
  obtain ⟨n, hn, e1⟩ := rng_law (ns := ns) (c := 6) (by decide) (ρ := ρ1) rfl
  obtain ⟨ρ2, e2, y2, y3, y4, y5, y6, y7, hρ⟩ := R_for (ρ := ρ1) (g := gV 2) (body := m_law_b4) (J := fun ρ => ∃ y2 y3 y4 y5 y6 y7, ρ = [some (.scr ns), some (.lst false oddL), y2, y3, y4, y5, y6, y7]) e1 ⟨_, _, _, _, _, _, rfl⟩ fun u hu ρ ⟨y2, y3, y4, y5, y6, y7, hρ⟩ => by
    obtain ⟨k, hk, rfl⟩ := List.mem_map.mp hu
    have hk := List.mem_range.mp hk
    have h6 : (6 : Int).toNat = 6 := rfl
    subst hρ
    exact ⟨_, E_gV (by simp) rfl, r_b4 ns k (by omega) y3 y4 y5 y6 y7⟩
  subst hρ
  refine ⟨[none], ?_⟩
  unfold f_law m_law
  exact E_body (ρ0 := ρ0) rfl (E_seq e0 (E_seq e2 (E_ret E_c)))

end Gb
set_option maxHeartbeats 0
namespace Gb
open PySem L2 VL
theorem facts {P : Program} {w : World} {K : PySem.W.Frag} {h : Heap} {mg : Str → Option Value} {f : Addr} (X : K.In h) (G : h.Ns mainGlobals mg) (hfa : mg ("law" : Str) = some (.ref f)) (cw : SaysW fa fn ts w K) (hP : PFile P "/claim/cut.py") :
    ∃ fd : FuncData, (∀ (s : Shared) (v : Value), BindsTo s fd ⟨[v], []⟩ [("_law_script", v)]) ∧ ∀ base : Heap, K.In base → base.Ns mainGlobals mg → FnOkG P w K mg base (L2.CX P w) 6 f fd ["_law_script"] (spV (gam K w) 1 f_law) := by
  have c := cw.v
  obtain ⟨fd, F⟩ := c.def_ 13 (d := d_law) rfl
  have T := txt_of X G cw
  have e : mg ("law" : Str) = some (.ref (He.ga K "law")) := He.glo_ok X G (c.fact 34 (f := fun K => (He.Fa.glo "law").ok K) rfl)
  have e := hfa.symm.trans e
  cases e
  have b := FunD.bindsA (ps := ["_law_script"]) F fun _ _ _ _ _ _ us hl => match us, hl with | [_], _ => rfl
  exact ⟨fd, fun s v => b s [v] rfl, law_end F fun base _ _ => all_ok T c hP⟩
end Gb
open PySem PySem.W PySem.Calls PyProof.Rows VL
theorem PySem.Challenge.cw_gatheredbells_k02_no_shares_holds : PySem.Challenge.rw_gatheredbells_k02_no_shares.Holds := by
  w_on; o_law
  refine HandSHeadRun.head_any (r := OpenLaw.row PySem.Challenge.rw_gatheredbells_k02_no_shares) (q := view (OpenLaw.row PySem.Challenge.rw_gatheredbells_k02_no_shares).prog [16]) (H := Gb.hk) (ob := Gb.ob) (M := 40000) (loose := Gb.loose) (d := HandSHeadRun.topDef (OpenLaw.row PySem.Challenge.rw_gatheredbells_k02_no_shares).prog 16) (kwd := []) Gb.ob_eq
    (by kernel_rfl) (fun s => by kernel_rfl) Gb.run (by kernel_rfl) (by kernel_rfl) (by kernel_rfl) (by rfl) (by first | assumption | decide +kernel) (by decide +kernel) ⟨rfl, rfl, rfl, rfl, rfl, by decide +kernel⟩ ?hw ?hc
  case hw => w_witness2
  case hc =>
    refine walk_ofV (l := PySem.Challenge.rw_gatheredbells_k02_no_shares) (n := 63) (k := 6) (x := "_law_script") (mf := Gb.f_law) (G := Gb.gam) (fun _ _ => rfl) rfl (by decide) (by kernel_rfl) (roomG_caller ⟨rfl, by decide, by decide⟩) Gb.law_true ?F
    intro w mg f h Y G hmg0
    obtain ⟨K, KX, c⟩ := Y
    have hmg : mg ("law" : PySem.Str) = some (.ref f) := by
      have e : (HandSHeadRun.topDef (OpenLaw.row PySem.Challenge.rw_gatheredbells_k02_no_shares).prog 16).name = ("law" : PySem.Str) := by kernel_rfl
      rw [← e]
      exact hmg0
    obtain ⟨fd, hb, hF⟩ := Gb.facts (P := (PySem.Challenge.rw_gatheredbells_k02_no_shares).prog) (w := w) KX G hmg c ⟨by kernel_rfl, by kernel_rfl⟩
    exact ⟨K, fd, KX, hb, hF⟩
