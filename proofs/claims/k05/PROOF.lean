import PyProof.Rows.All
import Wide.All
import OpenK.AllK
import Wide.FinOn
import HandS.ForMost
import HandS.ForExc
import HandS.More
import HandS.CallSlots
import HandS.Property
import HandS.ExcCtx
import KE.KDictKeyed
import HandS.Wide
import HandS.TupAny
import HandS.TupMul
import HandS.FStr
import HandS.RaiseMore
import HandS.IsInst
import HandS.Flow
import HandS.TryOnly
import PyProof.ReprRoads
import HandS.ExcOwn
import HandS.Comp
import HandS.Defaults
import HandS.Head0
import HandS.Head1
import HandS.Head2
import HandS.HeadEnd
import HandS.HeadHook1
import HandS.HeadHook2
import KE.KStateDown
import PyProof.Walk
import PyProof.WalkLemmas
import PyProof.Pure
import KE.KOpsOwn
import HandS.SlotsOwn
import KE.KCallOwn
import PyProof.DictUpdate
import HandS.Small
import HandS.DictComp
import HandS.CallLocal
import HandS.MakeKwOnly
import HandS.HeadHook3
import HandS.ListItems
import HandS.NoneIn
import HandS.Style
import HandS.SortInts
import HandS.Iter
import HandS.Conv
import HandS.ClsMeth
import OpenK.KMeth
import HandS.DictTup
import HandS.TupLen
import HandS.Zip
import HandS.Deep
import KE.GoesMore
import HandS.Strs
import HandS.SetFor
import KE.KExcSuper
import HandS.ExcInit
import HandS.ExcField
import HandS.ExcIs
import KE.KExcIs
import KE.KDictDisplayH
import KE.KExcInit
import KE.KDictWalk
import KE.KDictPairs
import HandS.Text
import HandS.TupSets
import KE.KDictList
import HandS.HotCalls
import HandS.ExcInitHot
import HandS.RaiseFrom
import KE.DataMinMax
import HandS.SortKw
import HandS.New0
import HandS.Star
import KE.KDictItemsList
import HandS.GenList
import HandS.GenCall
import PyProof.P3Eq
import PySem.Challenge.RW_gatheredbells_k05_all_rows_of_a_size
set_option Elab.async false
set_option autoImplicit false
set_option linter.all false
set_option maxRecDepth 100000
set_option maxHeartbeats 4000000
namespace VL
open PySem PySem.Spec PyProof.Rows L2
inductive Air where
 | l | n
def Air.Takes : Air → Cx → WX → Prop
 | .l => L2.Takes
 | .n => L2N.Takes
def Air.CX : Air → Program → World → CXT
 | .l => L2.CX
 | .n => L2N.CX
theorem passAtA {ia : Air} {X : Cx} {W : WX} (tk : ia.Takes X W) (σ : L2.St) : PassesAt (ia.CX X.prog X.w) X σ (WE W σ) := by
 cases ia with
 | l => exact L2.passAt tk σ
 | n => exact L2N.passAt tk σ
theorem takes_ofA {ia : Air} {X : Cx} {E : XK} (hs : X.stack = X.env :: X.outer) (hf : X.env.frame = some X.env.locals) (hex : X.ex = []) {E₁ : Value → Shared → Prop}
    (hx : X.xe = fun e s' => wpAny (model X.prog X.w) X.A (leaving X.env e) (fun _ s'' => ia.CX X.prog X.w X.outer X.H_0 X.s_0 E e s'') E₁ s') : ia.Takes X (fun cls d _ H => E cls d H) := by
 cases ia with
 | l => exact L2.takes_of hs hf hex hx
 | n => exact L2N.takes_of hs hf hex hx
theorem takesA0 {ia : Air} {Y : Cx} : ia.Takes Y (fun _ _ _ _ => False) := by
 cases ia with
 | l => exact fun u s' ⟨_, _, _, _, _, _, _, _, _, _, _, _, _, _, _, _, w⟩ => w.elim
 | n => exact fun u s' ⟨_, _, _, _, _, _, _, _, _, _, _, _, _, _, _, _, w⟩ => w.elim
theorem passA0 {ia : Air} {Y : Cx} : Passes (ia.CX Y.prog Y.w) Y (fun _ _ _ => False) := by
 cases ia with
 | l => exact fun _ _ _ _ _ _ _ ⟨_, _, _, _, _, _, _, _, _, _, _, _, z⟩ => z.elim
 | n => exact fun _ _ _ _ _ _ _ ⟨_, _, _, _, _, _, _, _, _, _, _, _, z⟩ => z.elim
structure RoomG (k : Nat) (A : Around) : Prop extends Room k A where
 gd : A.guards = some []
theorem RoomG.mono {j k : Nat} {A : Around} (r : RoomG k A) (h : j ≤ k) : RoomG j A := ⟨r.toRoom.mono h, r.gd⟩
theorem RoomG.deeper {k : Nat} {A : Around} (r : RoomG (k + 1) A) (env : Env) : RoomG k (A.deeper env) := ⟨r.toRoom.deeper env, r.gd⟩
theorem RoomG.in1 {k : Nat} {A : Around} (r : RoomG (k + 1) A) : RoomG k A.in1 := ⟨r.toRoom.in1, r.gd⟩
theorem guards_make {A : Around} {C : Addr} {us : List Value} {kw : List (Str × Value)} : (A.under (.builtin "type.__call__" ⟨.ref C :: us, kw⟩)).guards = A.guards := by
 first | rfl | simp [Around.under, Code.guards, Code.isGuard, guardIds, pushGuards]
theorem RoomG.make {k : Nat} {A : Around} (r : RoomG (k + 1) A) (C : Addr) (us : List Value) (kw : List (Str × Value)) : RoomG k (A.under (.builtin "type.__call__" ⟨.ref C :: us, kw⟩)) := ⟨r.toRoom.make C us kw, guards_make.trans r.gd⟩
structure FnOkG (P : Program) (w : World) (K : PySem.W.Frag) (mg : Str → Option Value) (base : Heap) (CX : CXT) (k : Nat) (f : Addr) (fd : FuncData) (ps : List Str) (sp : Sp) : Prop where
 len : ∀ vs H Q E, sp vs H Q E → vs.length = ps.length
 run : ∀ (A : Around) (outer : List Env) (s : Shared) (H : Hp) (args : Args) (us : List Value) (vs : List V) (Q : VK) (E : XK), RoomG k A → Env0 P w K mg base A outer s H → BindsTo s fd args (ps.zip us) → Vals vs us → sp vs H Q E → codeAny (model P w) A (.call (.ref f) args) (CR CX outer P w H s Q E) s
section
variable {X : Cx} {k : Nat} {f : Addr} {fd : FuncData} {ps : List Str} {sp : Sp} {dvs : List V} {ds : List Value} {pins : List (Addr × Obj)} {σ : L2.St} {H : Hp} {s : Shared} {Q : VK}
theorem run_G {CX : CXT} {E : L2.St → XK} {us : List Value} {vs : List V} (F : FnOkG X.prog X.w X.K X.mg X.base CX k f fd ps sp) (hr : RoomG k X.A) (hb : Binds X.K fd ps ds) (hd : Vals dvs ds) (hx : PassesAt CX X σ (E σ)) (I : Inv X pins σ H s) (r : Vals vs us) (h : sp (vs ++ dvs) H Q (E σ)) :
    wpAny (model X.prog X.w) X.A (call (.ref f) us) (EP X pins σ Q) X.xe s := by
 have rv := r.append hd
 have n : (us ++ ds).length = ps.length := rv.length.symm.trans (F.len _ _ _ _ h)
 refine wpAny_call (codeAny_mono (F.run X.A X.stack s H ⟨us, []⟩ _ _ Q (E σ) hr I.env0 (hb s us I.kIn n) rv h) fun res s2 hq => ?_)
 match res, hq with
 | .error er, hq => exact hx pins H s er s2 I hq
 | .ok (.ret u), hq => exact I.after hq
end
theorem fn_ofG {CX : CXT} {P : Program} {w : World} {K : PySem.W.Frag} {mg : Str → Option Value} {base : Heap} {k : Nat} {f : Addr} {name qual : Str} {params : Arguments} {body : List Stmt} {scope : Scope} {dV kV doc pm cdv ct oc : Value} {an od : Option Addr} {osl : Array (Option Value)} {N ps : List Str} {sp : Sp}
    (lk : K.lookup f = some ⟨oc, od, .func (PySem.W.fnOf name qual params body scope dV kV doc pm an cdv ct), osl⟩) (hcd : PySem.W.codeIn K cdv qual = true) (S : FnScope N ps scope) (len : ∀ vs H Q E, sp vs H Q E → vs.length = ps.length)
    (walk : ∀ (A : Around) (outer : List Env) (s : Shared) (H : Hp) (vs : List V) (Q : VK) (E : XK), RoomG k (A.deeper (envOfC qual scope s.heap.objs.size f cdv)) → sp vs H Q E → ∃ t, PSs (cxOf CX P w K mg base N qual scope f cdv A outer s H E) body t ∧ t { nx := fun _ H' => Q .non H', rt := Q } (start N vs) H) :
    FnOkG P w K mg base CX (k + 1) f (PySem.W.fnOf name qual params body scope dV kV doc pm an cdv ct) ps sp := by
 refine ⟨len, fun A outer s H args us vs Q E hr e0 hb r hs => ?_⟩
 have here : ∀ (b : Addr) (o : Obj), base.get? b = some o → s.heap.get? b = some o := fun b o e => (e0.bs b o e).1
 have KX : K.In s.heap := e0.mod.kin.keeps here
 have kinds : ∀ y ∈ ps.zip us, scope.names.lookup y.1 = some .local ∨ (scope.names.lookup y.1 = some .cell ∧ ((cellsFrom (s.heap.objs.size + 1) scope.names []).lookup y.1).isSome = true) := fun y hy => (S.par y.1 (List.of_mem_zip (a := y.1) (b := y.2) hy).1).imp id fun q => ⟨q, PySem.W.cellsFrom_some _ _ _ (.inl q)⟩
 refine codeAny_call_function hr.toRoom.depth (KX _ _ lk) rfl S.co S.gen rfl (PySem.W.codeRec_of KX hcd) (hb _ _ _ _ (wpAny_newFunctionEnv_cells S.kind kinds fun env he s1 x => ?_))
 subst he
 refine ⟨(e0.mod.nolimit.keeps here).keeps x.toInCall.keep, codeAny_func ?_⟩
 obtain ⟨t, ht, hq⟩ := walk A outer s H vs Q E (hr.deeper _) hs
 have I := inv_start (E := E) (CX := CX) S hr.toRoom.hd e0 (len _ _ _ _ hs) r x
 refine wpAny_mono (ht.run [] s1 (start N vs) H _ I hq) (fun fl s' z => ?_) fun e s' z => z
 match fl, z with
 | .ret u, ⟨v, σ', H', J, rv, q⟩ => exact ⟨v, H', J.os, J.bare, J.base, J.hok, rv, q⟩
 | .next, ⟨σ', H', J, q⟩ => exact ⟨V.non, H', J.os, J.bare, J.base, J.hok, rfl, q⟩
 | .brk, ⟨_, _, _, q⟩ => exact q.elim
 | .cont, ⟨_, _, _, q⟩ => exact q.elim
theorem roomG_caller {k : Nat} (hr : Room k callerA) : RoomG k callerA := ⟨hr, rfl⟩
end VL
namespace VL
open PySem PySem.Spec PyProof.Rows L2
section
variable {P : Program} {w : World} {K : PySem.W.Frag} {mg mb : Str → Option Value} {CX : CXT} {k : Nat} {fa a : Addr} {fd : FuncData} {x : Str} {sp : Sp} {s₁ : Shared} {vs : List Value} {ns : List Int}
theorem law_over (KX : K.In s₁.heap) (hns : s₁.heap.Ns mainGlobals mg) (hb : s₁.heap.Ns builtinsNs mb) (hbb : ∀ x : Str, x ≠ "__name__" → mb x = bootBuiltins x) (hlim : s₁.heap.NoLimit) (hg : s₁.gens = #[])
    (ha : s₁.heap.get? a = some { cls := .type "list", data := .seq vs.toArray }) (hr : RoomG k callerA) (F : ∀ base : Heap, K.In base → base.Ns mainGlobals mg → FnOkG P w K mg base CX k fa fd [x] sp) (hbind : ∀ (s : Shared) (u : Value), BindsTo s fd ⟨[u], []⟩ [(x, u)])
    (hsp : ∀ H : Hp, Only H → SqL K H a (ns.map V.int) → sp [.ref a] H (fun v _ => v = .bl true) fun _ _ _ => False) (hCX : ∀ H e s', CX [] H s₁ (fun _ _ _ => False) e s' → False)
    (H : Hp) (hO : Only H) (hS : SqL K H a (ns.map V.int)) (ok : HOk P w H s₁.heap) (one : ∀ b u, H b = some u → b = a) (off : ∀ u, H a = some u → K.lookup a = none) :
    codeAny (model P w) callerA (.call (.ref fa) ⟨[.ref a], []⟩) (fun r s' => r = .ok (.ret (.bool true)) ∧ OldK s₁.heap s'.heap ∧ s'.os = s₁.os ∧ AllBare s'.gens) s₁ := by
 have plain : ∀ {b : Addr} {o : Obj}, s₁.heap.get? b = some o → (b = a → False) → (hidT s₁.heap H).get? b = some o := fun {b o} e nb => hidT_get e (by
  cases q : H b with
  | none => rfl
  | some u => exact (nb (one b u q)).elim)
 have dict : ∀ {b : Addr} {o : Obj} {es : Array DictEntry} {ep : Nat}, s₁.heap.get? b = some o → o.data = .dict es ep → (hidT s₁.heap H).get? b = some o := fun {b o es ep} e d => plain e fun z => by
  rw [z, ha] at e
  cases e
  exact nomatch (show Data.seq vs.toArray _ = Data.dict es ep from d)
 have ns' : ∀ {b : Addr} {m : Str → Option Value}, s₁.heap.Ns b m → (hidT s₁.heap H).Ns b m := fun ⟨o, es, ep, e, d, r⟩ => ⟨o, es, ep, dict e d, d, r⟩
 have kin : K.In (hidT s₁.heap H) := fun b o e => hidT_get (KX b o e) (by
  cases q : H b with
  | none => rfl
  | some u =>
   obtain rfl := one b u q
   rw [off u q] at e; cases e)
 obtain ⟨mc, l1, l2⟩ := hlim
 have md : Mod K mg (hidT s₁.heap H) := ⟨kin, ns' hns, ⟨mb, ns' hb, hbb⟩, mc, ns' l1, l2⟩
 have e0 : Env0 P w K mg (hidT s₁.heap H) callerA [] s₁ H := ⟨rfl, md, fun b o e => of_hidT e, Nat.le_of_eq (hidT_size _ _), trivial, (fun b z => nomatch (show b ∈ ([] : List Addr) from z)), ok, .of_eq hg⟩
 have none0 : ∀ b : Addr, b ∉ frs [] := fun b z => nomatch (show b ∈ ([] : List Addr) from z)
 refine codeAny_mono ((F _ kin (ns' hns)).run callerA [] s₁ H ⟨[.ref a], []⟩ [.ref a] [.ref a] _ _ hr e0 (hbind s₁ (.ref a)) (.cons rfl .nil) (hsp H hO hS)) fun r s' z => ?_
 match r, z with
 | .error e, z => exact (hCX H e s' z).elim
 | .ok (.ret u), ⟨v, H', os, bare, un, ok', rv, q⟩ =>
  have ev : v = .bl true := q
  subst ev
  obtain rfl : u = Value.bool true := rv
  refine ⟨rfl, OldK.of_keep fun b o e => ?_, os, bare⟩
  cases q : H b with
  | none => exact un.keep b o e q (none0 b) (fun z => nomatch z)
  | some u =>
   rcases hO b with z | ⟨ob, xs, z⟩
   · rw [q] at z; cases z
   · have g1 := (ok b _ z).1
     rw [e] at g1; cases g1
     exact (ok' b _ (un.frzs b _ _ z)).1
theorem law_callG (KX : K.In s₁.heap) (hns : s₁.heap.Ns mainGlobals mg) (hb : s₁.heap.Ns builtinsNs mb) (hbb : ∀ x : Str, x ≠ "__name__" → mb x = bootBuiltins x) (hlim : s₁.heap.NoLimit) (hg : s₁.gens = #[])
    (ha : s₁.heap.get? a = some { cls := .type "list", data := .seq vs.toArray }) (hi : IntsAre vs ns) (hl : ns.length ≤ sizeLine) (hr : RoomG k callerA) (F : ∀ base : Heap, K.In base → base.Ns mainGlobals mg → FnOkG P w K mg base CX k fa fd [x] sp) (hbind : ∀ (s : Shared) (u : Value), BindsTo s fd ⟨[u], []⟩ [(x, u)])
    (hsp : ∀ H : Hp, Only H → SqL K H a (ns.map V.int) → sp [.ref a] H (fun v _ => v = .bl true) fun _ _ _ => False) (hCX : ∀ H e s', CX [] H s₁ (fun _ _ _ => False) e s' → False) :
    codeAny (model P w) callerA (.call (.ref fa) ⟨[.ref a], []⟩) (fun r s' => r = .ok (.ret (.bool true)) ∧ OldK s₁.heap s'.heap ∧ s'.os = s₁.os ∧ AllBare s'.gens) s₁ := by
 have over := law_over KX hns hb hbb hlim hg ha hr F hbind hsp hCX
 have rv := vals_ints hi
 have sz : vs.toArray.size ≤ sizeLine := by rw [List.size_toArray, hi.length]; exact hl
 cases hk : K.lookup a with
 | some o =>
  have e := KX a o hk
  rw [ha] at e
  cases e
  exact over (fun _ => none) (fun _ => .inl rfl) (.inr ⟨_, vs.toArray, _, hk, rfl, rfl, rfl, sz, by simpa using rv⟩) (fun b u z => nomatch (show (none : Option HO) = some u from z)) (fun b u z => nomatch (show (none : Option HO) = some u from z)) fun u z => nomatch (show (none : Option HO) = some u from z)
 | none =>
  let S : HO := .frz { cls := .type "list", data := .seq vs.toArray } (.lst (ns.map V.int))
  let Hs : Hp := fun b => if b = a then some S else none
  have at_a : Hs a = some S := if_pos rfl
  have els : ∀ b, b ≠ a → Hs b = none := fun b nb => if_neg nb
  refine over Hs (fun b => ?_) (.inl (.inr ⟨_, at_a⟩)) (fun b u z => ?_) (fun b u z => Classical.byContradiction fun nb => by rw [els b nb] at z; cases z) fun _ _ => hk
  · by_cases e : b = a
    · subst e; exact .inr ⟨_, _, at_a⟩
    · exact .inl (els b e)
  · by_cases e : b = a
    · subst e
      rw [at_a] at z
      cases z
      exact ⟨ha, by rw [List.length_map]; exact hl, vs, _, rv, ha⟩
    · rw [els b e] at z; cases z
end
end VL
namespace VL
open PySem L2
inductive DK where
 | k | t | n
 deriving DecidableEq
inductive Val where
 | non | bl (b : Bool) | int (i : Int) | str (x : Str) | ty (n : String) | cn (n : Nat)
 | tup (xs : List Val)
 | lst (o : Bool) (xs : List Val)
 | dct (o : Bool) (d : DK) (ks : List Val) (xs : List Val)
 | obj (o : Bool) (C : Nat) (fs : List Str) (xs : List Val)
 | exn (C : Nat) (fs : List Str) (xs : List Val)
 | scr (ns : List Int)
 | wdk (ks : List Val) (xs : List Val)
 | wtp (xs : List Val)
 | fn (n : Nat)
mutual
def Val.fz : Val → Bool
 | .non => true | .bl _ => true | .int _ => true | .str _ => true | .ty _ => true | .cn _ => true
 | .tup xs => fzs xs
 | .lst o xs => !o && fzs xs
 | .dct o _ _ xs => !o && fzs xs
 | .obj o _ _ xs => !o && fzs xs
 | .exn _ _ _ => true
 | .scr _ => true
 | .wdk _ _ => true
 | .wtp _ => true
 | .fn _ => true
def fzs : List Val → Bool
 | [] => true
 | x :: xs => x.fz && fzs xs
end
mutual
def Val.frz : Val → Val
 | .non => .non | .bl b => .bl b | .int i => .int i | .str x => .str x | .ty n => .ty n | .cn n => .cn n
 | .tup xs => .tup (frzs xs)
 | .lst _ xs => .lst false (frzs xs)
 | .dct _ d ks xs => .dct false d ks (frzs xs)
 | .obj _ C fs xs => .obj false C fs (frzs xs)
 | .exn C fs xs => .exn C fs xs
 | .scr ns => .scr ns
 | .wdk ks xs => .wdk ks xs
 | .wtp xs => .wtp xs
 | .fn n => .fn n
def frzs : List Val → List Val
 | [] => []
 | x :: xs => x.frz :: frzs xs
end
theorem frzs_map : ∀ xs : List Val, frzs xs = xs.map Val.frz
 | [] => by simp [frzs]
 | x :: xs => by simp [frzs, frzs_map xs]
theorem fzs_all : ∀ xs : List Val, fzs xs = xs.all Val.fz
 | [] => by simp [fzs]
 | x :: xs => by simp [fzs, fzs_all xs]
def ofKey : Key → Val
 | .inl i => .int i
 | .inr x => .str x
structure Gam where
 K : PySem.W.Frag
 cn : Nat → Option Addr
 fa : Nat → Option Addr
 hot : List (Addr × Value × Option Addr)
 w : World
def WDct (K : PySem.W.Frag) (w : World) (a : Addr) (kvs : List (Key × V)) : Prop := (∃ es n, KDict K w a es n) ∧ (∀ z v, valV kvs (.inr z) = some v → KDct K w a z v) ∧ ∀ z, valV kvs (.inr z) = none → PySem.W.nsIn K a z = some none
def KT (K : PySem.W.Frag) (a : Addr) (xs : List V) : Prop := SqT K (fun _ => none) a xs
def Fz (W : Addr → Prop) (H : Hp) (a : Addr) (u : HO) : Prop := H a = some u ∧ ¬ W a
def Fd (W : Addr → Prop) (H : Hp) (a : Addr) (u : HO) : Prop := Rd H a u ∧ ¬ W a
mutual
def keyN : Val → Option NestedKey
 | .non => some .none
 | .int i => some (.num i)
 | .str x => some (.text x)
 | .tup xs => match keyNs xs with
  | some ks => some (.tup ks)
  | none => none
 | _ => none
def keyNs : List Val → Option (List NestedKey)
 | [] => some []
 | x :: xs => match keyN x, keyNs xs with
  | some k, some ks => some (k :: ks)
  | _, _ => none
end
abbrev NEnt := NestedKey × Addr × V
def nkRel (p : NEnt) (q : NestedKey × Addr × Value) : Prop := p.1 = q.1 ∧ p.2.1 = q.2.1 ∧ RelV p.2.2 q.2.2
def nentry (w : World) (x : NestedKey × Addr × Value) : DictEntry := ⟨x.1.hash w, .ref x.2.1, x.2.2⟩
def NdP (w : World) (a : Addr) (xs : List NEnt) (h : Heap) : Prop := xs.length ≤ sizeLine ∧ (a == sysModules) = false ∧ (∀ x ∈ xs, x.1.depth ≤ 8) ∧ ∃ us, Paired nkRel xs us ∧ ∃ o es ep, h.get? a = some o ∧ o.ExactDict ∧ o.data = .dict es ep ∧ es.toList = us.map (nentry w) ∧ (us.map (·.1)).Nodup
abbrev ndO (w : World) (a : Addr) (xs : List NEnt) : HO := .ext (NdP w a xs)
mutual
inductive Rep (G : Gam) (W : Addr → Prop) (H : Hp) : V → Val → List Addr → Prop
 | non : Rep G W H .non .non []
 | bl (b : Bool) : Rep G W H (.bl b) (.bl b) []
 | int (i : Int) : Rep G W H (.int i) (.int i) []
 | str (x : Str) : Rep G W H (.str x) (.str x) []
 | ty (n : String) : Rep G W H (.ty n) (.ty n) []
 | cn {n : Nat} {a : Addr} (h : G.cn n = some a) : Rep G W H (.ref a) (.cn n) []
 | fn {n : Nat} {a : Addr} (h : G.fa n = some a) : Rep G W H (.ref a) (.fn n) []
 | tup {a : Addr} {xs : List V} {vs : List Val} {O : List Addr} (h : Fz W H a (.tup xs)) (r : Reps G W H xs vs O) : Rep G W H (.ref a) (.tup vs) O
 | lstO {a : Addr} {xs : List V} {vs : List Val} {O : List Addr} (h : H a = some (.lst xs)) (r : Reps G W H xs vs O) : Rep G W H (.ref a) (.lst true vs) (a :: O)
 | lstF {a : Addr} {xs : List V} {vs : List Val} (h : Fz W H a (.lst xs)) (r : Reps G W H xs vs []) : Rep G W H (.ref a) (.lst false vs) []
 | dkO {a : Addr} {kvs : List (Key × V)} {ks vs : List Val} {O : List Addr} (h : H a = some (.dK kvs)) (hk : ks = kvs.map fun p => ofKey p.1) (r : Reps G W H (kvs.map (·.2)) vs O) : Rep G W H (.ref a) (.dct true .k ks vs) (a :: O)
 | dkF {a : Addr} {kvs : List (Key × V)} {ks vs : List Val} (h : Fd W H a (.dK kvs)) (hk : ks = kvs.map fun p => ofKey p.1) (r : Reps G W H (kvs.map (·.2)) vs []) : Rep G W H (.ref a) (.dct false .k ks vs) []
 | dtO {a : Addr} {kvs : List (List Key × V)} {ks vs : List Val} {O : List Addr} (h : H a = some (.dT kvs)) (hk : ks = kvs.map fun p => Val.tup (p.1.map ofKey)) (r : Reps G W H (kvs.map (·.2)) vs O) : Rep G W H (.ref a) (.dct true .t ks vs) (a :: O)
 | dtF {a : Addr} {kvs : List (List Key × V)} {ks vs : List Val} (h : Fz W H a (.dT kvs)) (hk : ks = kvs.map fun p => Val.tup (p.1.map ofKey)) (r : Reps G W H (kvs.map (·.2)) vs []) : Rep G W H (.ref a) (.dct false .t ks vs) []
 | dnO {a : Addr} {xs : List NEnt} {ks vs : List Val} {O : List Addr} (h : H a = some (ndO G.w a xs)) (hk : Reps G W H (xs.map fun x => V.ref x.2.1) ks []) (hn : ks.map keyN = xs.map fun x => some x.1) (r : Reps G W H (xs.map fun x => x.2.2) vs O) : Rep G W H (.ref a) (.dct true .n ks vs) (a :: O)
 | dnF {a : Addr} {xs : List NEnt} {ks vs : List Val} (h : Fd W H a (ndO G.w a xs)) (hk : Reps G W H (xs.map fun x => V.ref x.2.1) ks []) (hn : ks.map keyN = xs.map fun x => some x.1) (r : Reps G W H (xs.map fun x => x.2.2) vs []) : Rep G W H (.ref a) (.dct false .n ks vs) []
 | objO {a C dx : Addr} {fs : List (Str × V)} {n : Nat} {ns : List Str} {vs : List Val} {O : List Addr} (h : H a = some (.ins C dx fs)) (hc : G.cn n = some C) (hn : ns = fs.map (·.1)) (r : Reps G W H (fs.map (·.2)) vs O) : Rep G W H (.ref a) (.obj true n ns vs) (a :: O)
 | objF {a C dx : Addr} {fs : List (Str × V)} {n : Nat} {ns : List Str} {vs : List Val} (h : Fz W H a (.ins C dx fs)) (hc : G.cn n = some C) (hn : ns = fs.map (·.1)) (r : Reps G W H (fs.map (·.2)) vs []) : Rep G W H (.ref a) (.obj false n ns vs) []
 | exn {a C d : Addr} {fs : List (Str × V)} {n : Nat} {ns : List Str} {vs : List Val} (hh : (a, Value.ref C, some d) ∈ G.hot) (hc : G.fa n = some C) (h : H d = some (.xd fs) ∧ ¬ W d) (hn : ns = fs.map (·.1)) (r : Reps G W H (fs.map (·.2)) vs []) : Rep G W H (.ref a) (.exn n ns vs) []
 | scr {a : Addr} {ns : List Int} (h : (∃ o, H a = some (.frz o (.lst (ns.map V.int))) ∧ ¬ W a) ∨ SqL G.K (fun _ => none) a (ns.map V.int)) : Rep G W H (.ref a) (.scr ns) []
 | wdk {a : Addr} {kvs : List (Key × V)} {ks vs : List Val} (h : WDct G.K G.w a kvs) (hk : ks = kvs.map fun p => ofKey p.1) (r : Reps G W H (kvs.map (·.2)) vs []) : Rep G W H (.ref a) (.wdk ks vs) []
 | wtp {a : Addr} {xs : List V} {vs : List Val} (h : KT G.K a xs) (r : Reps G W H xs vs []) : Rep G W H (.ref a) (.wtp vs) []
inductive Reps (G : Gam) (W : Addr → Prop) (H : Hp) : List V → List Val → List Addr → Prop
 | nil : Reps G W H [] [] []
 | cons {x : V} {v : Val} {xs : List V} {vs : List Val} {O O' : List Addr} (r : Rep G W H x v O) (t : Reps G W H xs vs O') : Reps G W H (x :: xs) (v :: vs) (O ++ O')
end
def Keep (W : Addr → Prop) (H : Hp) (W' : Addr → Prop) (H' : Hp) : Prop := ∀ a o, H a = some o → ¬ W a → H' a = some o ∧ ¬ W' a
section
variable {G : Gam} {W W' : Addr → Prop} {H H' : Hp}
theorem Fd.mono {a : Addr} {u : HO} (h : Fd W H a u) (k : Keep W H W' H') : Fd W' H' a u := by
 obtain ⟨r, nw⟩ := h
 rcases r with r | ⟨o, r⟩
 · exact ⟨.inl (k a _ r nw).1, (k a _ r nw).2⟩
 · exact ⟨.inr ⟨o, (k a _ r nw).1⟩, (k a _ r nw).2⟩
theorem Fz.mono {a : Addr} {u : HO} (h : Fz W H a u) (k : Keep W H W' H') : Fz W' H' a u := by
 obtain ⟨r, nw⟩ := h
 exact k a _ r nw
mutual
theorem Rep.mono {x : V} {v : Val} {O : List Addr} (r : Rep G W H x v O) (k : Keep W H W' H') (ko : ∀ a ∈ O, ∀ o, H a = some o → H' a = some o) : Rep G W' H' x v O := by
 cases r with
 | non => exact .non
 | bl b => exact .bl b
 | int i => exact .int i
 | str x => exact .str x
 | ty n => exact .ty n
 | cn h => exact .cn h
 | fn h => exact .fn h
 | tup h r => exact .tup (h.mono k) (r.mono k ko)
 | wtp h r => exact .wtp h (r.mono k fun a ha => nomatch ha)
 | lstO h r => exact .lstO (ko _ List.mem_cons_self _ h) (r.mono k fun a ha => ko a (List.mem_cons_of_mem _ ha))
 | lstF h r => exact .lstF (h.mono k) (r.mono k fun a ha => nomatch ha)
 | scr h => exact .scr (h.imp (fun ⟨o, e, nw⟩ => ⟨o, k _ _ e nw⟩) id)
 | wdk h hk r => exact .wdk h hk (r.mono k fun a ha => nomatch ha)
 | dkO h hk r => exact .dkO (ko _ List.mem_cons_self _ h) hk (r.mono k fun a ha => ko a (List.mem_cons_of_mem _ ha))
 | dkF h hk r => exact .dkF (h.mono k) hk (r.mono k fun a ha => nomatch ha)
 | dtO h hk r => exact .dtO (ko _ List.mem_cons_self _ h) hk (r.mono k fun a ha => ko a (List.mem_cons_of_mem _ ha))
 | dtF h hk r => exact .dtF (h.mono k) hk (r.mono k fun a ha => nomatch ha)
 | dnO h hk hn r => exact .dnO (ko _ List.mem_cons_self _ h) (hk.mono k fun a ha => nomatch ha) hn (r.mono k fun a ha => ko a (List.mem_cons_of_mem _ ha))
 | dnF h hk hn r => exact .dnF (h.mono k) (hk.mono k fun a ha => nomatch ha) hn (r.mono k fun a ha => nomatch ha)
 | objO h hc hn r => exact .objO (ko _ List.mem_cons_self _ h) hc hn (r.mono k fun a ha => ko a (List.mem_cons_of_mem _ ha))
 | objF h hc hn r => exact .objF (h.mono k) hc hn (r.mono k fun a ha => nomatch ha)
 | exn hh hc h hn r => exact .exn hh hc (k _ _ h.1 h.2) hn (r.mono k fun a ha => nomatch ha)
theorem Reps.mono {xs : List V} {vs : List Val} {O : List Addr} (r : Reps G W H xs vs O) (k : Keep W H W' H') (ko : ∀ a ∈ O, ∀ o, H a = some o → H' a = some o) : Reps G W' H' xs vs O := by
 cases r with
 | nil => exact .nil
 | cons r t => exact .cons (r.mono k fun a ha => ko a (List.mem_append_left _ ha)) (t.mono k fun a ha => ko a (List.mem_append_right _ ha))
end
mutual
theorem Rep.there {x : V} {v : Val} {O : List Addr} (r : Rep G W H x v O) : ∀ a ∈ O, ∃ o, H a = some o := by
 cases r with
 | tup h r => exact r.there
 | lstO h r => exact fun a ha => (List.mem_cons.mp ha).elim (fun e => ⟨_, e ▸ h⟩) (r.there a)
 | dkO h hk r => exact fun a ha => (List.mem_cons.mp ha).elim (fun e => ⟨_, e ▸ h⟩) (r.there a)
 | dtO h hk r => exact fun a ha => (List.mem_cons.mp ha).elim (fun e => ⟨_, e ▸ h⟩) (r.there a)
 | dnO h hk hn r => exact fun a ha => (List.mem_cons.mp ha).elim (fun e => ⟨_, e ▸ h⟩) (r.there a)
 | objO h hc hn r => exact fun a ha => (List.mem_cons.mp ha).elim (fun e => ⟨_, e ▸ h⟩) (r.there a)
 | _ => exact fun a ha => nomatch ha
theorem Reps.there {xs : List V} {vs : List Val} {O : List Addr} (r : Reps G W H xs vs O) : ∀ a ∈ O, ∃ o, H a = some o := by
 cases r with
 | nil => exact fun a ha => nomatch ha
 | cons r t => exact fun a ha => (List.mem_append.mp ha).elim (r.there a) (t.there a)
end
mutual
theorem Rep.none_of_fz {x : V} {v : Val} {O : List Addr} (r : Rep G W H x v O) (h : v.fz = true) : O = [] := by
 cases r with
 | tup h' r => exact r.none_of_fz (by simpa [Val.fz] using h)
 | lstO h' r => simp [Val.fz] at h
 | dkO h' hk r => simp [Val.fz] at h
 | dtO h' hk r => simp [Val.fz] at h
 | dnO h' hk hn r => simp [Val.fz] at h
 | objO h' hc hn r => simp [Val.fz] at h
 | _ => rfl
theorem Reps.none_of_fz {xs : List V} {vs : List Val} {O : List Addr} (r : Reps G W H xs vs O) (h : fzs vs = true) : O = [] := by
 cases r with
 | nil => rfl
 | cons r t =>
  simp only [fzs, Bool.and_eq_true] at h
  rw [r.none_of_fz h.1, t.none_of_fz h.2]
  rfl
end
mutual
theorem Rep.fz_of_none {x : V} {v : Val} {O : List Addr} (r : Rep G W H x v O) (h : O = []) : v.fz = true := by
 cases r with
 | tup h' r => simpa [Val.fz] using r.fz_of_none h
 | lstO h' r => cases h
 | dkO h' hk r => cases h
 | dtO h' hk r => cases h
 | dnO h' hk hn r => cases h
 | objO h' hc hn r => cases h
 | lstF h' r => simpa [Val.fz] using r.fz_of_none rfl
 | dkF h' hk r => simpa [Val.fz] using r.fz_of_none rfl
 | dtF h' hk r => simpa [Val.fz] using r.fz_of_none rfl
 | dnF h' hk hn r => simpa [Val.fz] using r.fz_of_none rfl
 | objF h' hc hn r => simpa [Val.fz] using r.fz_of_none rfl
 | _ => rfl
theorem Reps.fz_of_none {xs : List V} {vs : List Val} {O : List Addr} (r : Reps G W H xs vs O) (h : O = []) : fzs vs = true := by
 cases r with
 | nil => rfl
 | cons r t =>
  obtain ⟨h1, h2⟩ := List.append_eq_nil_iff.mp h
  simp only [fzs, Bool.and_eq_true]
  exact ⟨r.fz_of_none h1, t.fz_of_none h2⟩
end
mutual
theorem Rep.freeze {x : V} {v : Val} {O : List Addr} (r : Rep G W H x v O) (k : ∀ a, ¬ W a → ¬ W' a) (ko : ∀ a ∈ O, ¬ W' a) : Rep G W' H x v.frz [] := by
 have kf : ∀ {a : Addr} {u : HO}, Fz W H a u → Fz W' H a u := fun z => ⟨z.1, k _ z.2⟩
 cases r with
 | non => simp only [Val.frz]; exact .non
 | bl b => simp only [Val.frz]; exact .bl b
 | int i => simp only [Val.frz]; exact .int i
 | str x => simp only [Val.frz]; exact .str x
 | ty n => simp only [Val.frz]; exact .ty n
 | cn h => simp only [Val.frz]; exact .cn h
 | fn h => simp only [Val.frz]; exact .fn h
 | tup h r => simp only [Val.frz]; exact .tup (kf h) (r.freeze k ko)
 | wtp h r => simp only [Val.frz]; exact .wtp h (r.mono (fun a o e nw => ⟨e, k a nw⟩) fun a ha => nomatch ha)
 | lstO h r => simp only [Val.frz]; exact .lstF ⟨h, ko _ List.mem_cons_self⟩ (r.freeze k fun a ha => ko a (List.mem_cons_of_mem _ ha))
 | lstF h r => simp only [Val.frz]; exact .lstF (kf h) (r.freeze k fun a ha => nomatch ha)
 | scr h => simp only [Val.frz]; exact .scr (h.imp (fun ⟨o, e, nw⟩ => ⟨o, e, k _ nw⟩) id)
 | wdk h hk r => simp only [Val.frz]; exact .wdk h hk (r.mono (fun a o e nw => ⟨e, k a nw⟩) fun a ha => nomatch ha)
 | dkO h hk r => simp only [Val.frz]; exact .dkF ⟨.inl h, ko _ List.mem_cons_self⟩ hk (r.freeze k fun a ha => ko a (List.mem_cons_of_mem _ ha))
 | dkF h hk r => simp only [Val.frz]; exact .dkF ⟨h.1, k _ h.2⟩ hk (r.freeze k fun a ha => nomatch ha)
 | dtO h hk r => simp only [Val.frz]; exact .dtF ⟨h, ko _ List.mem_cons_self⟩ hk (r.freeze k fun a ha => ko a (List.mem_cons_of_mem _ ha))
 | dtF h hk r => simp only [Val.frz]; exact .dtF (kf h) hk (r.freeze k fun a ha => nomatch ha)
 | dnO h hk hn r => simp only [Val.frz]; exact .dnF ⟨.inl h, ko _ List.mem_cons_self⟩ (hk.mono (fun a o e nw => ⟨e, k a nw⟩) fun a ha => nomatch ha) hn (r.freeze k fun a ha => ko a (List.mem_cons_of_mem _ ha))
 | dnF h hk hn r => simp only [Val.frz]; exact .dnF ⟨h.1, k _ h.2⟩ (hk.mono (fun a o e nw => ⟨e, k a nw⟩) fun a ha => nomatch ha) hn (r.freeze k fun a ha => nomatch ha)
 | objO h hc hn r => simp only [Val.frz]; exact .objF ⟨h, ko _ List.mem_cons_self⟩ hc hn (r.freeze k fun a ha => ko a (List.mem_cons_of_mem _ ha))
 | objF h hc hn r => simp only [Val.frz]; exact .objF (kf h) hc hn (r.freeze k fun a ha => nomatch ha)
 | exn hh hc h hn r => simp only [Val.frz]; exact .exn hh hc ⟨h.1, k _ h.2⟩ hn (r.mono (fun a o e nw => ⟨e, k a nw⟩) fun a ha => nomatch ha)
theorem Reps.freeze {xs : List V} {vs : List Val} {O : List Addr} (r : Reps G W H xs vs O) (k : ∀ a, ¬ W a → ¬ W' a) (ko : ∀ a ∈ O, ¬ W' a) : Reps G W' H xs (frzs vs) [] := by
 cases r with
 | nil => simp only [frzs]; exact .nil
 | cons r t =>
  simp only [frzs]
  exact .cons (O := []) (O' := []) (r.freeze k fun a ha => ko a (List.mem_append_left _ ha)) (t.freeze k fun a ha => ko a (List.mem_append_right _ ha))
end
theorem Reps.length {xs : List V} {vs : List Val} {O : List Addr} (r : Reps G W H xs vs O) : xs.length = vs.length := by
 induction vs generalizing xs O with
 | nil => cases r; rfl
 | cons v vs ih => cases r with | cons r t => simp [ih t]
theorem Reps.split {xs : List V} {vs : List Val} {O : List Addr} (r : Reps G W H xs vs O) {i : Nat} {v : Val} (h : vs[i]? = some v) :
    ∃ x O1 Oi O2, xs[i]? = some x ∧ O = O1 ++ (Oi ++ O2) ∧ Rep G W H x v Oi := by
 induction vs generalizing xs O i with
 | nil => simp at h
 | cons w vs ih =>
  cases r with
  | @cons x _ xs' _ Oh Ot r t =>
   cases i with
   | zero =>
    simp at h
    subst h
    exact ⟨x, [], Oh, Ot, by simp, by simp, r⟩
   | succ i =>
    obtain ⟨y, O1, Oi, O2, e1, e2, q⟩ := ih t (by simpa using h)
    exact ⟨y, Oh ++ O1, Oi, O2, by simpa using e1, by rw [e2]; simp [List.append_assoc], q⟩
theorem Reps.set {xs : List V} {vs : List Val} {O : List Addr} (r : Reps G W H xs vs O) {i : Nat} {v : Val} (h : vs[i]? = some v) :
    ∃ x O1 Oi O2, xs[i]? = some x ∧ O = O1 ++ (Oi ++ O2) ∧ Rep G W H x v Oi ∧
     ∀ W' H' y w Ow, (∀ z u Oz, (∀ a ∈ Oz, a ∈ O1 ++ O2) → Rep G W H z u Oz → Rep G W' H' z u Oz) → Rep G W' H' y w Ow → Reps G W' H' (xs.set i y) (vs.set i w) (O1 ++ (Ow ++ O2)) := by
 induction vs generalizing xs O i with
 | nil => simp at h
 | cons w vs ih =>
  cases r with
  | @cons x _ xs' _ Oh Ot r t =>
   cases i with
   | zero =>
    simp at h
    subst h
    refine ⟨x, [], Oh, Ot, by simp, by simp, r, fun W' H' y w Ow k q => ?_⟩
    have t' : Reps G W' H' xs' vs Ot := by
     clear ih r q
     induction t using Reps.rec (motive_1 := fun _ _ _ _ => True) with
     | nil => exact .nil
     | cons r t _ ih => exact .cons (k _ _ _ (fun a ha => by simp [ha]) r) (ih fun z u Oz hz => k z u Oz fun a ha => by have := hz a ha; simp at this ⊢; exact .inr this)
     | _ => trivial
    simpa using Reps.cons q t'
   | succ i =>
    obtain ⟨y, O1, Oi, O2, e1, e2, q, c⟩ := ih t (by simpa using h)
    refine ⟨y, Oh ++ O1, Oi, O2, by simpa using e1, by rw [e2]; simp [List.append_assoc], q, fun W' H' y w Ow k q' => ?_⟩
    have r' := k _ _ _ (fun a ha => by simp [ha]) r
    have t' := c W' H' y w Ow (fun z u Oz hz => k z u Oz fun a ha => by have := hz a ha; simp at this ⊢; exact .inr this) q'
    simpa [List.append_assoc] using Reps.cons r' t'
theorem Reps.append {xs ys : List V} {vs ws : List Val} {O O' : List Addr} (r : Reps G W H xs vs O) (q : Reps G W H ys ws O') : Reps G W H (xs ++ ys) (vs ++ ws) (O ++ O') := by
 induction vs generalizing xs O with
 | nil => cases r; simpa using q
 | cons w vs ih =>
  cases r with
  | cons r t => simpa [List.append_assoc] using Reps.cons r (ih t)
end
end VL
namespace VL
open PySem L2
abbrev VEnv := List (Option Val)
def We (Os : Nat → List Addr) (a : Addr) : Prop := ∃ i, a ∈ Os i
def WW (R : Addr → Prop) (Os : Nat → List Addr) (a : Addr) : Prop := R a ∨ We Os a
structure Rel (G : Gam) (R : Addr → Prop) (H : Hp) (σ : St) (ρ : VEnv) (Os : Nat → List Addr) : Prop where
 len : σ.length = ρ.length
 rep : ∀ i v, ρ[i]? = some (some v) → ∃ x, σ[i]? = some (some x) ∧ Rep G (WW R Os) H x v (Os i)
 nil : ∀ i, (∀ v, ρ[i]? ≠ some (some v)) → Os i = []
 nd : ∀ i, (Os i).Nodup
 dj : ∀ i j a, a ∈ Os i → a ∈ Os j → i = j
 dr : ∀ i a, a ∈ Os i → ¬ R a
 rt : ∀ a, R a → ∃ o, H a = some o
structure Exc where
 cls : Val
 fs : List Str
 xs : List Val
def RepX (G : Gam) (W : Addr → Prop) (H : Hp) (c : Value) (d : Option Addr) (e : Exc) : Prop :=
 match e.cls with
 | .fn n => ∃ (C dd : Addr) (fs : List (Str × V)), c = .ref C ∧ G.fa n = some C ∧ d = some dd ∧ H dd = some (.xd fs) ∧ ¬ W dd ∧ e.fs = fs.map (·.1) ∧ Reps G W H (fs.map (·.2)) e.xs [] ∧ PySem.W.typeIn G.K (.ref C) = some (.type "type")
 | .ty n => c = .type n ∧ d = none ∧ e.fs = [] ∧ e.xs = []
 | _ => False
inductive RE where
 | ok (v : Val) (ρ : VEnv) | exc (e : Exc) (ρ : VEnv) | bad
abbrev ME := VEnv → RE
def KeepE (H : Hp) (Os : Nat → List Addr) (H' : Hp) (Os' : Nat → List Addr) (O : Addr → Prop) : Prop := ∀ a o, H a = some o → ¬ We Os a → H' a = some o ∧ ¬ We Os' a ∧ ¬ O a
def Rp (R : Addr → Prop) (s : Bool) (O : List Addr) (a : Addr) : Prop := R a ∨ (s = true ∧ a ∈ O)
section
variable {G : Gam} {R R' : Addr → Prop} {H H' H1 H2 : Hp} {σ : St} {ρ ρ' : VEnv} {Os Os' Os1 Os2 : Nat → List Addr}
theorem Rel.there (r : Rel G R H σ ρ Os) {i : Nat} : ∀ a ∈ Os i, ∃ o, H a = some o := fun a ha => by
 by_cases h : ∃ v, ρ[i]? = some (some v)
 · obtain ⟨v, hv⟩ := h
   obtain ⟨x, _, q⟩ := r.rep i v hv
   exact q.there a ha
 · rw [r.nil i fun v hv => h ⟨v, hv⟩] at ha
   cases ha
theorem Rel.we (r : Rel G R H σ ρ Os) {a : Addr} (h : We Os a) : ∃ o, H a = some o := let ⟨_, ha⟩ := h; r.there a ha
theorem Rel.ww (r : Rel G R H σ ρ Os) {a : Addr} (h : WW R Os a) : ∃ o, H a = some o := h.elim (r.rt a) r.we
theorem Rel.nr (r : Rel G R H σ ρ Os) {a : Addr} (h : R a) : ¬ We Os a := fun ⟨i, ha⟩ => r.dr i a ha h
theorem keepW_of_same (s : Same H H') (h : ∀ a o, H a = some o → ¬ WW R Os a → ¬ WW R' Os a) : Keep (WW R Os) H (WW R' Os) H' := fun a o e nw => ⟨s a o e, h a o e nw⟩
theorem Rel.grow (r : Rel G R H σ ρ Os) (s : Same H H') (hr : ∀ a, R' a → R a ∨ H a = none) (ht : ∀ a, R' a → ∃ o, H' a = some o) : Rel G R' H' σ ρ Os := by
 have kw : ∀ a o, H a = some o → ¬ WW R Os a → ¬ WW R' Os a := fun a o e nw z => z.elim (fun z => (hr a z).elim (fun z => nw (.inl z)) fun z => by rw [e] at z; cases z) fun z => nw (.inr z)
 refine ⟨r.len, fun i v h => ?_, r.nil, r.nd, r.dj, fun i a ha z => ?_, ht⟩
 · obtain ⟨x, e, q⟩ := r.rep i v h
   exact ⟨x, e, q.mono (keepW_of_same s kw) fun a _ o e => s a o e⟩
 · obtain ⟨o, e⟩ := r.there a ha
   exact (hr a z).elim (r.dr i a ha) fun z => by rw [e] at z; cases z
theorem Rel.weak (r : Rel G R H σ ρ Os) (hr : ∀ a, R' a → R a) : Rel G R' H σ ρ Os := r.grow (fun _ _ e => e) (fun a z => .inl (hr a z)) fun a z => r.rt a (hr a z)
theorem KeepE.refl : KeepE H Os H Os fun _ => False := fun a o e nw => ⟨e, nw, id⟩
theorem KeepE.trans {O1 O2 : Addr → Prop} (k1 : KeepE H Os H1 Os1 O1) (k2 : KeepE H1 Os1 H2 Os2 O2) : KeepE H Os H2 Os2 O2 := fun a o e nw =>
 let ⟨e1, n1, _⟩ := k1 a o e nw
 k2 a o e1 n1
theorem KeepE.grow {O O' : Addr → Prop} (k : KeepE H Os H1 Os1 O) (s : Same H1 H2) (f : ∀ a, O' a → O a ∨ H1 a = none) : KeepE H Os H2 Os1 O' := fun a o e nw => by
 obtain ⟨e1, n1, n2⟩ := k a o e nw
 exact ⟨s a o e1, n1, fun z => (f a z).elim n2 fun z => by rw [e1] at z; cases z⟩
theorem KeepE.imp {O O' : Addr → Prop} (k : KeepE H Os H1 Os1 O) (f : ∀ a, O' a → O a) : KeepE H Os H1 Os1 O' := fun a o e nw => by
 obtain ⟨e1, n1, n2⟩ := k a o e nw
 exact ⟨e1, n1, fun z => n2 (f a z)⟩
theorem KeepE.keep {O : Addr → Prop} (k : KeepE H Os H1 Os1 O) (h : ∀ a o, H a = some o → R' a → WW R Os a ∨ O a) : Keep (WW R Os) H (WW R' Os1) H1 := fun a o e nw => by
 obtain ⟨e1, n1, n2⟩ := k a o e fun z => nw (.inr z)
 exact ⟨e1, fun z => z.elim (fun z => (h a o e z).elim nw n2) n1⟩
theorem RepX.mono {W W' : Addr → Prop} {c : Value} {d : Option Addr} {e : Exc} (r : RepX G W H c d e) (k : Keep W H W' H') : RepX G W' H' c d e := by
 unfold RepX at r ⊢
 split at r
 · obtain ⟨C, dd, fs, h1, h2, h3, h4, h5, h6, h7, h8⟩ := r
   exact ⟨C, dd, fs, h1, h2, h3, (k _ _ h4 h5).1, (k _ _ h4 h5).2, h6, h7.mono k fun a ha => (nomatch ha), h8⟩
 · exact r
 · exact r
end
def Post (G : Gam) (R : Addr → Prop) (E : WX) (σ : St) (H : Hp) (Os : Nat → List Addr) (p s : Bool) (ρ : VEnv) (Q : VK) : RE → Prop
 | .ok v ρ' => ∀ x H' Os' O, Rel G (Rp R s O) H' σ ρ' Os' → Rep G (WW (Rp R s O) Os') H' x v O → (s = true → O.Nodup) → KeepE H Os H' Os' (fun a => s = true ∧ a ∈ O) → (p = true → ρ' = ρ ∧ Os' = Os ∧ Same H H') → Q x H'
 | .exc e ρ' => ∀ c d H' Os', Rel G R H' σ ρ' Os' → RepX G (WW R Os') H' c d e → KeepE H Os H' Os' (fun _ => False) → E c d σ H'
 | .bad => False
def rd (G : Gam) (E : WX) (p s : Bool) (m : ME) : TE := fun σ H Q => ∃ R ρ Os, Rel G R H σ ρ Os ∧ Post G R E σ H Os p s ρ Q (m ρ)
def VE (G : Gam) (X : Cx) (E : WX) (p s : Bool) (e : Expr) (m : ME) : Prop := PE X e (rd G E p s m)
theorem PE.pre {X : Cx} {e : Expr} {t t' : TE} (h : PE X e t) (k : ∀ σ H Q, t' σ H Q → t σ H Q) : PE X e t' := ⟨fun pins s σ H Q I q => h.run pins s σ H Q I (k σ H Q q)⟩
theorem PT.pre {X : Cx} {e : Expr} {t t' : TT} (h : PT X e t) (k : ∀ σ H Q, t' σ H Q → t σ H Q) : PT X e t' := ⟨fun pins s σ H Q I q => h.run pins s σ H Q I (k σ H Q q)⟩
theorem PA.pre {X : Cx} {e : List Expr} {t t' : TA} (h : PA X e t) (k : ∀ σ H Q, t' σ H Q → t σ H Q) : PA X e t' := ⟨fun pos pins s σ H Q I q => h.run pos pins s σ H Q I (k σ H Q q)⟩
theorem PS.pre {X : Cx} {e : Stmt} {t t' : TS} (h : PS X e t) (k : ∀ D σ H, t' D σ H → t D σ H) : PS X e t' := ⟨fun pins s σ H D I q => h.run pins s σ H D I (k D σ H q)⟩
theorem PSs.pre {X : Cx} {e : List Stmt} {t t' : TS} (h : PSs X e t) (k : ∀ D σ H, t' D σ H → t D σ H) : PSs X e t' := ⟨fun pins s σ H D I q => h.run pins s σ H D I (k D σ H q)⟩
structure Op where
 p : Bool
 s : Bool
 m : ME
inductive RA where
 | ok (vs : List Val) (ρ : VEnv) | exc (e : Exc) (ρ : VEnv) | bad
def evalA : List Op → VEnv → RA
 | [], ρ => .ok [] ρ
 | o :: os, ρ => match o.m ρ with
  | .ok v ρ1 => match evalA os ρ1 with
   | .ok vs ρ2 => .ok (v :: vs) ρ2
   | r => r
  | .exc e ρ1 => .exc e ρ1
  | .bad => .bad
def nest (G : Gam) (E : WX) : List Op → St → Hp → (List V → Hp → Prop) → Prop
 | [], _, H, K => K [] H
 | o :: os, σ, H, K => rd G E o.p o.s o.m σ H fun x H1 => nest G E os σ H1 fun xs H2 => K (x :: xs) H2
def wfA : List Op → Bool
 | [] => true
 | o :: os => (o.s || os.all (·.p)) && wfA os
inductive RepL (G : Gam) (W : Addr → Prop) (H : Hp) : List V → List Val → List (List Addr) → Prop
 | nil : RepL G W H [] [] []
 | cons {x : V} {v : Val} {O : List Addr} {xs : List V} {vs : List Val} {Ol : List (List Addr)} (r : Rep G W H x v O) (t : RepL G W H xs vs Ol) : RepL G W H (x :: xs) (v :: vs) (O :: Ol)
def stab : List Op → List (List Addr) → List Addr
 | o :: os, O :: Ol => (if o.s then O else []) ++ stab os Ol
 | _, _ => []
def PostA (G : Gam) (R : Addr → Prop) (E : WX) (σ : St) (H : Hp) (Os : Nat → List Addr) (os : List Op) (ρ : VEnv) (K : List V → Hp → Prop) : RA → Prop
 | .ok vs ρ' => ∀ xs H' Os' Ol, Rel G (fun a => R a ∨ a ∈ stab os Ol) H' σ ρ' Os' → RepL G (WW (fun a => R a ∨ a ∈ stab os Ol) Os') H' xs vs Ol → (stab os Ol).Nodup → KeepE H Os H' Os' (fun a => a ∈ stab os Ol) →
     (os.all (·.p) = true → ρ' = ρ ∧ Os' = Os ∧ Same H H') → K xs H'
 | .exc e ρ' => ∀ c d H' Os', Rel G R H' σ ρ' Os' → RepX G (WW R Os') H' c d e → KeepE H Os H' Os' (fun _ => False) → E c d σ H'
 | .bad => False
section
variable {G : Gam} {E : WX} {σ : St}
theorem mem_stab1 {o : Op} {os : List Op} {O : List Addr} {Ol : List (List Addr)} {a : Addr} : a ∈ stab (o :: os) (O :: Ol) ↔ (o.s = true ∧ a ∈ O) ∨ a ∈ stab os Ol := by
 rw [stab]
 cases h : o.s <;> simp
theorem RepL.mono {W W' : Addr → Prop} {H H' : Hp} {xs : List V} {vs : List Val} {Ol : List (List Addr)} (r : RepL G W H xs vs Ol) (k : Keep W H W' H') (ko : ∀ O ∈ Ol, ∀ a ∈ O, ∀ o, H a = some o → H' a = some o) : RepL G W' H' xs vs Ol := by
 induction r with
 | nil => exact .nil
 | cons r t ih => exact .cons (r.mono k fun a ha => ko _ List.mem_cons_self a ha) (ih fun O hO => ko O (List.mem_cons_of_mem _ hO))
theorem nest_of {os : List Op} (wf : wfA os = true) : ∀ {R : Addr → Prop} {ρ : VEnv} {Os : Nat → List Addr} {H : Hp} {K : List V → Hp → Prop}, Rel G R H σ ρ Os → PostA G R E σ H Os os ρ K (evalA os ρ) → nest G E os σ H K := by
 induction os with
 | nil =>
  intro R ρ Os H K r h
  refine h [] H Os [] (r.weak fun a z => z.elim id fun z => nomatch z) .nil (by simp [stab]) (KeepE.refl.imp fun a z => nomatch z) fun _ => ⟨rfl, rfl, fun _ _ e => e⟩
 | cons o os ih =>
  intro R ρ Os H K r h
  simp only [wfA, Bool.and_eq_true, Bool.or_eq_true] at wf
  refine ⟨R, ρ, Os, r, ?_⟩
  unfold evalA at h
  cases hm : o.m ρ with
  | bad => rw [hm] at h; exact h
  | exc e ρ1 => rw [hm] at h; exact h
  | ok v ρ1 =>
   rw [hm] at h
   dsimp only at h
   intro x H1 Os1 O1 r1 q1 nd1 k1 p1
   refine ih wf.2 (R := Rp R o.s O1) (ρ := ρ1) (Os := Os1) r1 ?_
   have k1' : KeepE H Os H1 Os1 fun _ => False := k1.imp fun _ z => z.elim
   cases he : evalA os ρ1 with
   | bad => rw [he] at h; exact h
   | exc e ρ2 =>
    rw [he] at h
    intro c d H2 Os2 r2 q2 k2
    refine h c d H2 Os2 (r2.weak fun a z => .inl z) (q2.mono fun a o e nw => ⟨e, fun z => nw (z.elim (fun z => .inl (.inl z)) .inr)⟩) (k1'.trans k2)
   | ok vs ρ2 =>
    rw [he] at h
    intro xs H2 Os2 Ol r2 q2 nd2 k2 p2
    have eq : ∀ a, (Rp R o.s O1 a ∨ a ∈ stab os Ol) ↔ (R a ∨ a ∈ stab (o :: os) (O1 :: Ol)) := fun a => by
     rw [mem_stab1]; unfold Rp; exact or_assoc
    have efun : (fun a => Rp R o.s O1 a ∨ a ∈ stab os Ol) = (fun a => R a ∨ a ∈ stab (o :: os) (O1 :: Ol)) := funext fun a => propext (eq a)
    rw [efun] at r2 q2
    have same1 : ∀ a ∈ O1, ∀ ob, H1 a = some ob → H2 a = some ob ∧ ¬ a ∈ stab os Ol ∨ (o.s = false ∧ H2 a = some ob) := fun a ha ob e => by
     cases hs : o.s with
     | true =>
      have nw : ¬ We Os1 a := r1.nr (.inr ⟨hs, ha⟩)
      obtain ⟨e2, _, n2⟩ := k2 a ob e nw
      exact .inl ⟨e2, n2⟩
     | false =>
      have hp : os.all (·.p) = true := by simpa [hs] using wf.1
      exact .inr ⟨rfl, (p2 hp).2.2 a ob e⟩
    have head : Rep G (WW (fun a => R a ∨ a ∈ stab (o :: os) (O1 :: Ol)) Os2) H2 x v O1 := by
     refine q1.mono (k2.keep fun a ob e z => ?_) fun a ha ob e => (same1 a ha ob e).elim (·.1) (·.2)
     rcases (eq a).mpr z with z | z
     · exact .inl (.inl z)
     · exact .inr z
    refine h (x :: xs) H2 Os2 (O1 :: Ol) r2 (.cons head q2) ?_ (fun a ob e nw => ?_) fun hp => ?_
    · unfold stab
      refine List.nodup_append.mpr ⟨?_, nd2, fun a ha b hb => ?_⟩
      · cases hs : o.s with
        | true => simpa using nd1 hs
        | false => simp
      · cases hs : o.s with
        | true =>
         rw [hs] at ha
         have ha' : a ∈ O1 := by simpa using ha
         obtain ⟨ob, e⟩ := q1.there a ha'
         rcases same1 a ha' ob e with z | z
         · exact fun e' => z.2 (e' ▸ hb)
         · rw [hs] at z; cases z.1
        | false => rw [hs] at ha; simp at ha
    · obtain ⟨e1, n1, m1⟩ := k1 a ob e nw
      obtain ⟨e2, n2, m2⟩ := k2 a ob e1 n1
      exact ⟨e2, n2, fun z => (mem_stab1.mp z).elim m1 m2⟩
    · simp only [List.all_cons, Bool.and_eq_true] at hp
      obtain ⟨a1, a2, a3⟩ := p1 hp.1
      obtain ⟨b1, b2, b3⟩ := p2 hp.2
      exact ⟨b1.trans a1, b2.trans a2, a3.trans b3⟩
end
end VL
namespace VL
open PySem L2
def evalM : List ME → VEnv → RA
 | [], ρ => .ok [] ρ
 | m :: ms, ρ => match m ρ with
  | .ok v ρ1 => match evalM ms ρ1 with
   | .ok vs ρ2 => .ok (v :: vs) ρ2
   | .exc e ρ2 => .exc e ρ2
   | .bad => .bad
  | .exc e ρ1 => .exc e ρ1
  | .bad => .bad
theorem evalA_eq : ∀ (os : List Op) (ρ : VEnv), evalA os ρ = evalM (os.map Op.m) ρ
 | [], ρ => rfl
 | o :: os, ρ => by
  unfold evalA
  rw [List.map_cons]
  unfold evalM
  cases o.m ρ with
  | ok v ρ1 =>
   dsimp only
   rw [evalA_eq os ρ1]
   cases evalM (os.map Op.m) ρ1 <;> rfl
  | exc e ρ1 => rfl
  | bad => rfl
def mFun (sem : List Val → Option Val) (ms : List ME) : ME := fun ρ => match evalM ms ρ with
 | .ok vs ρ' => match sem vs with
  | some v => .ok v ρ'
  | none => .bad
 | .exc e ρ' => .exc e ρ'
 | .bad => .bad
def Made (G : Gam) (W : Addr → Prop) (H : Hp) (v : Val) (Q : VK) : Prop := ∀ x H' O, Same H H' → (∀ a ∈ O, H a = none) → Rep G (fun z => W z ∨ z ∈ O) H' x v O → O.Nodup → Q x H'
section
variable {G : Gam} {W : Addr → Prop} {H : Hp} {v : Val} {Q : VK} {x : V}
theorem Made.same (m : Made G W H v Q) (r : Rep G W H x v []) : Q x H := m x H [] (fun _ _ e => e) (fun _ z => nomatch z) (r.mono (fun a o e nw => ⟨e, fun z => z.elim nw fun z => nomatch z⟩) fun _ z => nomatch z) List.nodup_nil
theorem Rep.upd {W' : Addr → Prop} {a : Addr} {o : HO} {y : V} {u : Val} {O : List Addr} (r : Rep G W H y u O) (hn : H a = none) (k : ∀ z, W' z → W z ∨ H z = none) : Rep G W' (upd H a o) y u O :=
 r.mono (fun b ob e nw => ⟨by rw [upd_ne (ne_of_none e hn)]; exact e, fun z => (k b z).elim nw fun z => by rw [e] at z; cases z⟩) fun b hb ob e => by rw [upd_ne (ne_of_none e hn)]; exact e
theorem Reps.upd {W' : Addr → Prop} {a : Addr} {o : HO} {y : List V} {u : List Val} {O : List Addr} (r : Reps G W H y u O) (hn : H a = none) (k : ∀ z, W' z → W z ∨ H z = none) : Reps G W' (upd H a o) y u O :=
 r.mono (fun b ob e nw => ⟨by rw [upd_ne (ne_of_none e hn)]; exact e, fun z => (k b z).elim nw fun z => by rw [e] at z; cases z⟩) fun b hb ob e => by rw [upd_ne (ne_of_none e hn)]; exact e
theorem same_upd {a : Addr} {o : HO} (hn : H a = none) : Same H (upd H a o) := fun b ob e => by rw [upd_ne (ne_of_none e hn)]; exact e
theorem Made.lst {xs : List V} {vs : List Val} (m : Made G W H (.lst true vs) Q) (r : Reps G W H xs vs []) : ∀ p, H p = none → Q (.ref p) (upd H p (.lst xs)) := fun p hp =>
 m (.ref p) _ [p] (same_upd hp) (fun a ha => by rw [List.mem_singleton.mp ha]; exact hp) (.lstO upd_same (r.upd hp fun z hz => hz.imp id fun q => by rw [List.mem_singleton.mp q]; exact hp)) (by simp)
theorem Made.tup {xs : List V} {vs : List Val} (m : Made G W H (.tup vs) Q) (r : Reps G W H xs vs []) (hw : ∀ p, H p = none → ¬ W p) : ∀ p, H p = none → Q (.ref p) (upd H p (.tup xs)) := fun p hp =>
 m (.ref p) _ [] (same_upd hp) (fun a ha => nomatch ha) (.tup ⟨upd_same, fun z => z.elim (hw p hp) fun z => nomatch z⟩ (r.upd hp fun z hz => .inl (hz.elim id fun z => nomatch z))) List.nodup_nil
end
theorem fun_pre {G : Gam} {E : WX} {os : List Op} {r : List V → Hp → VK → Prop} {sem : List Val → Option Val} {t : TE} (ht : ∀ σ H Q, nest G E os σ H (fun xs H' => r xs H' Q) → t σ H Q)
    (ok : ∀ (W : Addr → Prop) H xs vs Ol v Q, (∀ p, W p → ∃ o, H p = some o) → RepL G W H xs vs Ol → sem vs = some v → Made G W H v Q → r xs H Q) (wf : wfA os = true) : ∀ σ H Q, rd G E (os.all (·.p)) true (mFun sem (os.map Op.m)) σ H Q → t σ H Q := by
 intro σ H Q h
 refine ht σ H Q ?_
 obtain ⟨R, ρ, Os, rel, post⟩ := h
 refine nest_of wf rel ?_
 rw [evalA_eq]
 unfold mFun at post
 cases he : evalM (os.map Op.m) ρ with
 | bad => rw [he] at post; exact post
 | exc e ρ' => rw [he] at post; exact post
 | ok vs ρ' =>
  rw [he] at post
  dsimp only at post
  cases hs : sem vs with
  | none => rw [hs] at post; exact post.elim
  | some v =>
   rw [hs] at post
   intro xs H' Os' Ol rel' reps nd keep pure
   have hR : ∀ a, (R a ∨ a ∈ stab os Ol) → ∃ o, H' a = some o := rel'.rt
   refine ok _ H' xs vs Ol v Q (fun p hp => rel'.ww hp) reps hs fun x H2 O same fresh rep nd2 => ?_
   refine post x H2 Os' O (rel'.grow same (fun a z => z.elim (fun z => .inl (.inl z)) fun z => .inr (fresh a z.2)) fun a z => ?_) ?_ (fun _ => nd2) (keep.grow same fun a z => .inr (fresh a z.2)) fun hp => ?_
   · rcases z with z | z
     · obtain ⟨o, e⟩ := hR a (.inl z)
       exact ⟨o, same a o e⟩
     · exact rep.there a z.2
   · refine rep.mono (fun a o e nw => ⟨e, fun z => nw ?_⟩) fun _ _ _ e => e
     rcases z with (z | z) | z
     · exact .inl (.inl (.inl z))
     · exact .inr z.2
     · exact .inl (.inr z)
   · obtain ⟨h1, h2, h3⟩ := pure hp
     exact ⟨h1, h2, h3.trans same⟩
theorem ve_fun {G : Gam} {X : Cx} {E : WX} {e : Expr} {os : List Op} {r : List V → Hp → VK → Prop} {sem : List Val → Option Val} {t : TE} (pe : PE X e t) (ht : ∀ σ H Q, nest G E os σ H (fun xs H' => r xs H' Q) → t σ H Q)
    (ok : ∀ (W : Addr → Prop) H xs vs Ol v Q, (∀ p, W p → ∃ o, H p = some o) → RepL G W H xs vs Ol → sem vs = some v → Made G W H v Q → r xs H Q) (wf : wfA os = true) : VE G X E (os.all (·.p)) true e (mFun sem (os.map Op.m)) :=
 PE.pre pe (fun_pre ht ok wf)
def mVar (i : Nat) : ME := fun ρ => match ρ[i]? with
 | some (some v) => .ok v ρ
 | _ => .bad
def mC (v : Val) : ME := fun ρ => .ok v ρ
def mStab (m : ME) : ME := fun ρ => match m ρ with
 | .ok v ρ' => if v.fz = true then .ok v ρ' else .bad
 | .exc e ρ' => .exc e ρ'
 | .bad => .bad
def mFrz (i : Nat) : ME := fun ρ => match ρ[i]? with
 | some (some v) => .ok v.frz (ρ.set i (some v.frz))
 | _ => .bad
def mMov (i : Nat) : ME := fun ρ => match ρ[i]? with
 | some (some v) => .ok v (ρ.set i none)
 | _ => .bad
section
variable {G : Gam} {X : Cx} {E : WX} {e : Expr}
theorem ve_var {i : Nat} (h : PE X e (tVar i)) : VE G X E true false e (mVar i) := by
 refine PE.pre h fun σ H Q z => ?_
 obtain ⟨R, ρ, Os, rel, post⟩ := z
 unfold mVar at post
 cases hv : ρ[i]? with
 | none => rw [hv] at post; exact post.elim
 | some o =>
  cases o with
  | none => rw [hv] at post; exact post.elim
  | some v =>
   rw [hv] at post
   obtain ⟨x, hx, rep⟩ := rel.rep i v hv
   refine ⟨x, hx, post x H Os (Os i) (rel.weak fun a z => z.elim id fun z => by cases z.1) (rep.mono (fun a o e nw => ⟨e, fun z => nw (z.imp (fun z => z.elim id fun z => by cases z.1) id)⟩) fun _ _ _ e => e) (fun z => by cases z) (KeepE.refl.imp fun a z => by cases z.1) fun _ => ⟨rfl, rfl, fun _ _ e => e⟩⟩
theorem Post.stab {R : Addr → Prop} {σ : L2.St} {H : Hp} {Os : Nat → List Addr} {p s : Bool} {ρ : VEnv} {Q : VK} {m : ME} (post : Post G R E σ H Os p true ρ Q (mStab m ρ)) : Post G R E σ H Os p s ρ Q (m ρ) := by
 unfold mStab at post
 cases hm : m ρ with
 | bad => rw [hm] at post; exact post
 | exc e ρ' => rw [hm] at post; exact post
 | ok v ρ' =>
  rw [hm] at post
  dsimp only at post
  by_cases hf : v.fz = true
  · rw [if_pos hf] at post
    intro x H' Os' O rel rep nd keep pure
    have hO := rep.none_of_fz hf
    subst hO
    have hw : ∀ a, Rp R true [] a → Rp R s [] a := fun a z => z.elim .inl fun z => nomatch z.2
    exact post x H' Os' [] (rel.weak hw) (rep.mono (fun a o e nw => ⟨e, fun z => nw (z.imp (hw a) id)⟩) fun _ z => nomatch z) (fun _ => List.nodup_nil) (keep.imp fun a z => nomatch z.2) pure
  · rw [if_neg hf] at post
    exact post.elim
theorem ve_stab {p s : Bool} {m : ME} (h : VE G X E p s e m) : VE G X E p true e (mStab m) := PE.pre h fun σ H Q ⟨R, ρ, Os, rel, post⟩ => ⟨R, ρ, Os, rel, post.stab⟩
theorem Rel.take {R : Addr → Prop} {H : Hp} {σ : L2.St} {ρ : VEnv} {Os : Nat → List Addr} (rel : Rel G R H σ ρ Os) {i : Nat} {v : Val} (hv : ρ[i]? = some (some v)) :
    ∃ x, σ[i]? = some (some x) ∧ Rel G (fun a => R a ∨ a ∈ Os i) H σ (ρ.set i none) (fun j => if j = i then [] else Os j) ∧ Rep G (WW (fun a => R a ∨ a ∈ Os i) (fun j => if j = i then [] else Os j)) H x v (Os i) := by
 obtain ⟨x, hx, rep⟩ := rel.rep i v hv
 have eqW : ∀ a, WW (fun a => R a ∨ a ∈ Os i) (fun j => if j = i then [] else Os j) a → WW R Os a := fun a z => by
  rcases z with (z | z) | ⟨j, z⟩
  · exact .inl z
  · exact .inr ⟨i, z⟩
  · by_cases hj : j = i
    · simp only [hj, if_true] at z; cases z
    · simp only [hj, if_false] at z; exact .inr ⟨j, z⟩
 have mono : ∀ {y : V} {u : Val} {O : List Addr}, Rep G (WW R Os) H y u O → Rep G (WW (fun a => R a ∨ a ∈ Os i) (fun j => if j = i then [] else Os j)) H y u O := fun r => r.mono (fun a o e nw => ⟨e, fun z => nw (eqW a z)⟩) fun _ _ _ e => e
 have hi : i < ρ.length := (List.getElem?_eq_some_iff.mp hv).1
 refine ⟨x, hx, ⟨by rw [List.length_set]; exact rel.len, fun j u hu => ?_, fun j hj => ?_, fun j => ?_, fun j k a ha hb => ?_, fun j a ha z => ?_, fun a z => ?_⟩, mono rep⟩
 · by_cases hj : j = i
   · subst hj; rw [List.getElem?_set_self hi] at hu; cases hu
   · rw [List.getElem?_set_ne (Ne.symm hj)] at hu
     obtain ⟨y, hy, r⟩ := rel.rep j u hu
     exact ⟨y, hy, by rw [if_neg hj]; exact mono r⟩
 · by_cases h : j = i
   · simp [h]
   · simp only [h, if_false]
     refine rel.nil j fun u hu => hj u ?_
     rw [List.getElem?_set_ne (Ne.symm h)]; exact hu
 · by_cases h : j = i
   · simp [h]
   · simp only [h, if_false]; exact rel.nd j
 · by_cases h : j = i
   · simp [h] at ha
   · by_cases h' : k = i
     · simp [h'] at hb
     · simp only [h, h', if_false] at ha hb; exact rel.dj j k a ha hb
 · by_cases h : j = i
   · simp [h] at ha
   · simp only [h, if_false] at ha
     rcases z with z | z
     · exact rel.dr j a ha z
     · exact h (rel.dj j i a ha z)
 · exact z.elim (rel.rt a) (rel.there a)
theorem ve_mov {i : Nat} (h : PE X e (tVar i)) : VE G X E false true e (mMov i) := by
 refine PE.pre h fun σ H Q z => ?_
 obtain ⟨R, ρ, Os, rel, post⟩ := z
 unfold mMov at post
 cases hv : ρ[i]? with
 | none => rw [hv] at post; exact post.elim
 | some o =>
  cases o with
  | none => rw [hv] at post; exact post.elim
  | some v =>
   rw [hv] at post
   obtain ⟨x, hx, rel', rep⟩ := rel.take hv
   have ef : (fun a => R a ∨ a ∈ Os i) = Rp R true (Os i) := funext fun a => propext ⟨fun z => z.imp id fun z => ⟨rfl, z⟩, fun z => z.imp id fun z => z.2⟩
   rw [ef] at rel' rep
   refine ⟨x, hx, post x H _ (Os i) rel' rep (fun _ => rel.nd i) (fun a o e nw => ⟨e, fun z => nw ?_, fun z => nw ⟨i, z.2⟩⟩) fun z => by cases z⟩
   obtain ⟨j, z⟩ := z
   by_cases h : j = i
   · simp [h] at z
   · simp only [h, if_false] at z; exact ⟨j, z⟩
theorem Rel.put {R : Addr → Prop} {H : Hp} {σ : L2.St} {ρ : VEnv} {Os : Nat → List Addr} {O : List Addr} {x : V} {v : Val} {i : Nat} (rel : Rel G (fun a => R a ∨ a ∈ O) H σ ρ Os) (rep : Rep G (WW (fun a => R a ∨ a ∈ O) Os) H x v O) (nd : O.Nodup) (hi : i < ρ.length) (hO : ∀ a ∈ O, ¬ R a) :
    Rel G R H (σ.set i (some x)) (ρ.set i (some v)) (fun j => if j = i then O else Os j) := by
 have eqW : ∀ a, WW R (fun j => if j = i then O else Os j) a → WW (fun a => R a ∨ a ∈ O) Os a := fun a z => by
  rcases z with z | ⟨j, z⟩
  · exact .inl (.inl z)
  · by_cases hj : j = i
    · simp only [hj, if_true] at z; exact .inl (.inr z)
    · simp only [hj, if_false] at z; exact .inr ⟨j, z⟩
 have mono : ∀ {y : V} {u : Val} {P : List Addr}, Rep G (WW (fun a => R a ∨ a ∈ O) Os) H y u P → Rep G (WW R (fun j => if j = i then O else Os j)) H y u P := fun r => r.mono (fun a o e nw => ⟨e, fun z => nw (eqW a z)⟩) fun _ _ _ e => e
 refine ⟨by rw [List.length_set, List.length_set]; exact rel.len, fun j u hu => ?_, fun j hj => ?_, fun j => ?_, fun j k a ha hb => ?_, fun j a ha z => ?_, fun a z => rel.rt a (.inl z)⟩
 · by_cases hj : j = i
   · subst hj
     rw [List.getElem?_set_self hi] at hu
     cases hu
     exact ⟨x, List.getElem?_set_self (by rw [rel.len]; exact hi), by rw [if_pos rfl]; exact mono rep⟩
   · rw [List.getElem?_set_ne (Ne.symm hj)] at hu
     obtain ⟨y, hy, r⟩ := rel.rep j u hu
     exact ⟨y, by rw [List.getElem?_set_ne (Ne.symm hj)]; exact hy, by rw [if_neg hj]; exact mono r⟩
 · by_cases h : j = i
   · subst h
     exact absurd (List.getElem?_set_self hi) (hj v)
   · simp only [h, if_false]
     refine rel.nil j fun u hu => hj u ?_
     rw [List.getElem?_set_ne (Ne.symm h)]; exact hu
 · by_cases h : j = i
   · simp only [h, if_true]; exact nd
   · simp only [h, if_false]; exact rel.nd j
 · by_cases h : j = i <;> by_cases h' : k = i
   · rw [h, h']
   · simp only [h, h', if_true, if_false] at ha hb; exact absurd (.inr ha) (rel.dr k a hb)
   · simp only [h, h', if_true, if_false] at ha hb; exact absurd (.inr hb) (rel.dr j a ha)
   · simp only [h, h', if_false] at ha hb; exact rel.dj j k a ha hb
 · by_cases h : j = i
   · simp only [h, if_true] at ha; exact hO a ha z
   · simp only [h, if_false] at ha; exact rel.dr j a ha (.inl z)
theorem ve_frz {i : Nat} (h : PE X e (tVar i)) : VE G X E false true e (mFrz i) := by
 refine PE.pre h fun σ H Q z => ?_
 obtain ⟨R, ρ, Os, rel, post⟩ := z
 unfold mFrz at post
 cases hv : ρ[i]? with
 | none => rw [hv] at post; exact post.elim
 | some o =>
  cases o with
  | none => rw [hv] at post; exact post.elim
  | some v =>
   rw [hv] at post
   dsimp only at post
   obtain ⟨x, hx, rel', rep⟩ := rel.take hv
   have hi : i < ρ.length := (List.getElem?_eq_some_iff.mp hv).1
   have e1 : ((fun j => if j = i then [] else if j = i then ([] : List Addr) else Os j) : Nat → List Addr) = fun j => if j = i then [] else Os j := funext fun j => by by_cases h : j = i <;> simp [h]
   have rep2 : Rep G (WW R fun j => if j = i then [] else Os j) H x v.frz [] := rep.freeze (fun a nw z => nw (z.imp .inl id)) fun a ha z => by
    rcases z with z | ⟨j, z⟩
    · exact rel.dr i a ha z
    · by_cases h : j = i
      · simp [h] at z
      · simp only [h, if_false] at z; exact h (rel.dj j i a z ha)
   have relw : Rel G R H σ (ρ.set i none) (fun j => if j = i then [] else Os j) := rel'.weak fun a z => .inl z
   have e0 : (fun a => R a ∨ a ∈ ([] : List Addr)) = R := funext fun a => propext ⟨fun z => z.elim id (fun z => nomatch z), Or.inl⟩
   have rel2 := Rel.put (O := []) (i := i) (v := v.frz) (by rw [e0]; exact relw) (by rw [e0]; exact rep2) List.nodup_nil (by rw [List.length_set]; exact hi) (fun _ z => nomatch z)
   rw [e1, List.set_set] at rel2
   have hσ : σ.set i (some x) = σ := by
    apply List.ext_getElem?
    intro j
    by_cases h : j = i
    · subst h; rw [List.getElem?_set_self (by rw [rel.len]; exact hi)]; exact hx.symm
    · rw [List.getElem?_set_ne (Ne.symm h)]
   rw [hσ] at rel2
   have hw : ∀ a, Rp R true [] a → R a := fun a z => z.elim id fun z => nomatch z.2
   refine ⟨x, hx, post x H _ [] (rel2.weak hw) (rep2.mono (fun a o e nw => ⟨e, fun z => nw (z.imp (hw a) id)⟩) fun _ z => nomatch z) (fun _ => List.nodup_nil) (fun a o e nw => ⟨e, fun z => nw ?_, fun z => nomatch z.2⟩) fun z => by cases z⟩
   obtain ⟨j, z⟩ := z
   by_cases h : j = i
   · simp [h] at z
   · simp only [h, if_false] at z; exact ⟨j, z⟩
theorem ve_c {x : V} {v : Val} (h : PE X e (tC x)) (r : ∀ W H, Rep G W H x v []) : VE G X E true true e (mC v) := by
 refine PE.pre h fun σ H Q z => ?_
 obtain ⟨R, ρ, Os, rel, post⟩ := z
 exact post x H Os [] (rel.weak fun a z => z.elim id fun z => nomatch z.2) (r _ _) (fun _ => List.nodup_nil) (KeepE.refl.imp fun a z => nomatch z.2) fun _ => ⟨rfl, rfl, fun _ _ e => e⟩
end
end VL
namespace VL
open PySem L2
def OkF (G : Gam) (r : List V → Hp → VK → Prop) (sem : List Val → Option Val) : Prop :=
 ∀ (W : Addr → Prop) (H : Hp) xs vs Ol v Q, (∀ p, W p → ∃ o, H p = some o) → RepL G W H xs vs Ol → sem vs = some v → Made G W H v Q → r xs H Q
def r2 (r : V → V → Hp → VK → Prop) : List V → Hp → VK → Prop := fun xs H Q => match xs with
 | [x, y] => r x y H Q
 | _ => False
def r1 (r : V → Hp → VK → Prop) : List V → Hp → VK → Prop := fun xs H Q => match xs with
 | [x] => r x H Q
 | _ => False
theorem fresh_nw {W : Addr → Prop} {H : Hp} (w : ∀ p, W p → ∃ o, H p = some o) : ∀ p, H p = none → ¬ W p := fun p hp z => by
 obtain ⟨o, e⟩ := w p z
 rw [hp] at e; cases e
theorem wf2 {p1 s1 p2 s2 : Bool} {m1 m2 : ME} (h : (s1 || p2) = true) : wfA [⟨p1, s1, m1⟩, ⟨p2, s2, m2⟩] = true := by
 cases s1 <;> cases p2 <;> cases s2 <;> first | rfl | cases h
theorem wf1 {p1 s1 : Bool} {m1 : ME} : wfA [⟨p1, s1, m1⟩] = true := by
 cases s1 <;> rfl
section
variable {G : Gam} {X : Cx} {E : WX} {a b : Expr} {pos : Pos} {p1 s1 p2 s2 : Bool} {m1 m2 : ME}
theorem ve_bin {op : Operator} {r : R2} {sem : List Val → Option Val} (ho : OpR X (binaryOp op) r) (ok : OkF G (r2 r) sem) (h1 : VE G X E p1 s1 a m1) (h2 : VE G X E p2 s2 b m2) (wf : (s1 || p2) = true := by rfl) :
    VE G X E (p1 && p2) true (.BinOp a op b pos) (mFun sem [m1, m2]) := by
 have h := ve_fun (G := G) (E := E) (os := [⟨p1, s1, m1⟩, ⟨p2, s2, m2⟩]) (r := r2 r) (pe_op (pos := pos) ho h1 h2) (fun σ H Q z => z) ok (wf2 wf)
 simpa using h
theorem ve_un {op : UnaryOp} {r : V → Hp → VK → Prop} {sem : List Val → Option Val} (ho : UnR X (unaryOp op) r) (ok : OkF G (r1 r) sem) (h1 : VE G X E p1 s1 a m1) : VE G X E p1 true (.UnaryOp op a pos) (mFun sem [m1]) := by
 have h := ve_fun (G := G) (E := E) (os := [⟨p1, s1, m1⟩]) (r := r1 r) (pe_un (pos := pos) ho h1) (fun σ H Q z => z) ok wf1
 simpa using h
theorem ve_cmp {op : CmpOp} {r : R2} {sem : List Val → Option Val} (ho : OpR X (compareOp op) r) (ok : OkF G (r2 r) sem) (h1 : VE G X E p1 s1 a m1) (h2 : VE G X E p2 s2 b m2) (hm : behindInMarks op b = false) (wf : (s1 || p2) = true := by rfl) :
    VE G X E (p1 && p2) true (.Compare a [op] [b] pos) (mFun sem [m1, m2]) := by
 have h := ve_fun (G := G) (E := E) (os := [⟨p1, s1, m1⟩, ⟨p2, s2, m2⟩]) (r := r2 r) (pe_cmpR (pos := pos) ho h1 h2 hm) (fun σ H Q z => z) ok (wf2 wf)
 simpa using h
theorem ve_ix {r : R2} {sem : List Val → Option Val} (hr : IxR X r) (ok : OkF G (r2 r) sem) (h1 : VE G X E p1 s1 a m1) (h2 : VE G X E p2 s2 b m2) (hs : PlainIx b) (wf : (s1 || p2) = true := by rfl) :
    VE G X E (p1 && p2) true (.Subscript a b pos) (mFun sem [m1, m2]) := by
 have h := ve_fun (G := G) (E := E) (os := [⟨p1, s1, m1⟩, ⟨p2, s2, m2⟩]) (r := r2 r) (pe_ix (pos := pos) hr h1 h2 hs) (fun σ H Q z => z) ok (wf2 wf)
 simpa using h
def VAs (G : Gam) (X : Cx) (E : WX) (es : List Expr) (os : List Op) : Prop := PA X es (nest G E os)
theorem va_nil : VAs G X E [] [] := PA.pre pa_nil fun σ H Q h => h
theorem va_cons {e : Expr} {es : List Expr} {p s : Bool} {m : ME} {os : List Op} (h : VE G X E p s e m) (t : VAs G X E es os) (hs : starEach (e :: es) X.env = (false, eval e X.env) :: starEach es X.env := by rfl) : VAs G X E (e :: es) (⟨p, s, m⟩ :: os) :=
 PA.pre (pa_cons h t hs) fun σ H Q h => h
theorem ve_callB {id : String} {x : Str} {p : Pos} {e : Expr} {es : List Expr} {os : List Op} {r : List V → Hp → VK → Prop} {sem : List Val → Option Val} (hc : CallR X (.builtin id) r) (ok : OkF G r sem) (hg : Gl X x) (hm : X.mg x = none) (hv : bootBuiltins x = some (.builtin id)) (ha : VAs G X E (e :: es) os) (wf : wfA os = true := by rfl)
    (hn : x ≠ "__name__" := by decide) (hdb : (x == ("__debug__" : Str)) = false := by decide)
    (he : starEach (e :: es) X.env = (false, eval e X.env) :: starEach es X.env := by rfl) (hpl : (backTo pos (starEach es X.env)).any (·.1) = false := by rfl) : VE G X E (os.all (·.p)) true (.Call (.Name x p) (e :: es) [] pos) (mFun sem (os.map Op.m)) :=
 ve_fun (pe_callB hc hg hm hv ha hn hdb he hpl) (fun σ H Q h => h) ok wf
theorem ve_callTy {T : String} {x : Str} {p : Pos} {e : Expr} {es : List Expr} {os : List Op} {r : List V → Hp → VK → Prop} {sem : List Val → Option Val} (hc : CallR X (.type T) r) (ok : OkF G r sem) (hg : Gl X x) (hm : X.mg x = none) (hv : bootBuiltins x = some (.type T)) (ha : VAs G X E (e :: es) os) (wf : wfA os = true := by rfl)
    (hn : x ≠ "__name__" := by decide) (hdb : (x == ("__debug__" : Str)) = false := by decide)
    (he : starEach (e :: es) X.env = (false, eval e X.env) :: starEach es X.env := by rfl) (hpl : (backTo pos (starEach es X.env)).any (·.1) = false := by rfl) : VE G X E (os.all (·.p)) true (.Call (.Name x p) (e :: es) [] pos) (mFun sem (os.map Op.m)) :=
 ve_fun (pe_callTy hc hg hm hv ha hn hdb he hpl) (fun σ H Q h => h) ok wf
end
section
variable {G : Gam} {W : Addr → Prop} {H : Hp}
theorem Reps.of_ints : ∀ (ns : List Int), Reps G W H (ns.map V.int) (ns.map Val.int) []
 | [] => .nil
 | n :: ns => .cons (O := []) (.int n) (Reps.of_ints ns)
theorem Reps.fz {xs : List V} {vs : List Val} {O : List Addr} (r : Reps G W H xs vs O) (h : fzs vs = true) : Reps G W H xs vs [] := by
 have e := r.none_of_fz h
 subst e
 exact r
theorem Rep.fz' {x : V} {v : Val} {O : List Addr} (r : Rep G W H x v O) (h : v.fz = true) : Rep G W H x v [] := by
 have e := r.none_of_fz h
 subst e
 exact r
end
def mulOk (i j : Int) : Prop := i.natAbs.log2 + j.natAbs.log2 < 1000000 ∨ ((-(2 ^ 64) < i ∧ i < 2 ^ 64) ∨ (-(2 ^ 64) < j ∧ j < 2 ^ 64))
instance (i j : Int) : Decidable (mulOk i j) := by unfold mulOk; infer_instance
def divOk (j : Int) : Prop := 0 < j ∧ j.natAbs.log2 < 9000
instance (j : Int) : Decidable (divOk j) := by unfold divOk; infer_instance
def powOk (i j : Int) : Prop := 0 ≤ j ∧ j ≤ 1000000 ∧ i.natAbs < 2 ^ 64
instance (i j : Int) : Decidable (powOk i j) := by unfold powOk; infer_instance
def semAdd : List Val → Option Val
 | [.int a, .int b] => some (.int (a + b))
 | [.str a, .str b] => if a.length + b.length ≤ 16777216 then some (.str (a ++ b)) else none
 | [.lst _ a, .lst _ b] => if a.length + b.length ≤ 16777216 ∧ fzs a = true ∧ fzs b = true then some (.lst true (a ++ b)) else none
 | [.tup a, .tup b] => if a.length + b.length ≤ 16777216 ∧ fzs a = true ∧ fzs b = true then some (.tup (a ++ b)) else none
 | _ => none
def semSub : List Val → Option Val
 | [.int a, .int b] => some (.int (a - b))
 | _ => none
def semMul : List Val → Option Val
 | [.int a, .int b] => if mulOk a b then some (.int (a * b)) else none
 | [.lst _ a, .int k] => if -(2 ^ 63) ≤ k ∧ k < 2 ^ 63 ∧ a.length * k.toNat ≤ 16777216 ∧ fzs a = true then some (.lst true (List.replicate k.toNat a).flatten) else none
 | [.tup a, .int k] => if a ≠ [] ∧ 2 ≤ k ∧ k ≤ 1000 ∧ a.length ≤ 1000 ∧ fzs a = true then some (.tup (List.replicate k.toNat a).flatten) else none
 | _ => none
def semDiv : List Val → Option Val
 | [.int a, .int b] => if divOk b then some (.int (a / b)) else none
 | _ => none
def semMod : List Val → Option Val
 | [.int a, .int b] => if 0 < b then some (.int (a % b)) else none
 | _ => none
def semPow : List Val → Option Val
 | [.int a, .int b] => if powOk a b then some (.int (a ^ b.toNat)) else none
 | _ => none
def semNeg : List Val → Option Val
 | [.int a] => some (.int (-a))
 | _ => none
theorem RepL.inv2 {G : Gam} {W : Addr → Prop} {H : Hp} {xs : List V} {a b : Val} {Ol : List (List Addr)} (r : RepL G W H xs [a, b] Ol) : ∃ x y O O', xs = [x, y] ∧ Rep G W H x a O ∧ Rep G W H y b O' := by
 cases r with
 | cons r t =>
  cases t with
  | cons r' t =>
   cases t
   exact ⟨_, _, _, _, rfl, r, r'⟩
theorem RepL.inv1 {G : Gam} {W : Addr → Prop} {H : Hp} {xs : List V} {a : Val} {Ol : List (List Addr)} (r : RepL G W H xs [a] Ol) : ∃ x O, xs = [x] ∧ Rep G W H x a O := by
 cases r with
 | cons r t =>
  cases t
  exact ⟨_, _, rfl, r⟩
theorem sz_le {n : Nat} (h : n ≤ 16777216) : n ≤ sizeLine := by rw [sizeLine_eq]; exact h
section
variable {G : Gam} {X : Cx}
def rAddV (K : PySem.W.Frag) : R2 := fun x y H Q => rI0 (fun i j => .int (i + j)) x y H Q ∨ ((∃ i j, x = .str i ∧ y = .str j ∧ i.length + j.length ≤ sizeLine ∧ Q (.str (i ++ j)) H) ∨ (rCat x y H Q ∨ rCatA K x y H Q))
theorem op_addV (hK : X.K = G.K) : OpR X (binaryOp .Add) (rAddV G.K) := by
 rw [← hK]
 exact op_add.or (op_add_str.or (op_cat.or op_catA))
theorem rep_tupT {W : Addr → Prop} {H : Hp} {x : V} {vs : List Val} {O : List Addr} (r : Rep G W H x (.tup vs) O) : ∃ a xs, x = .ref a ∧ SqT G.K H a xs ∧ Reps G W H xs vs O := by
 cases r with
 | tup h r => exact ⟨_, _, rfl, .inl (.inl h.1), r⟩
theorem rep_lstL {W : Addr → Prop} {H : Hp} {x : V} {o : Bool} {vs : List Val} {O : List Addr} (r : Rep G W H x (.lst o vs) O) : ∃ a xs O', x = .ref a ∧ H a = some (.lst xs) ∧ Reps G W H xs vs O' := by
 cases r with
 | lstO h r => exact ⟨_, _, _, rfl, h, r⟩
 | lstF h r => exact ⟨_, _, _, rfl, h.1, r⟩
theorem ok_add : OkF G (r2 (rAddV G.K)) semAdd := by
 intro W H xs vs Ol v Q w r hs m
 unfold semAdd at hs
 split at hs
 · obtain ⟨x, y, O, O', rfl, r1, r2⟩ := r.inv2
   cases r1; cases r2; cases hs
   exact .inl ⟨_, _, rfl, rfl, m.same (.int _)⟩
 · obtain ⟨x, y, O, O', rfl, r1, r2⟩ := r.inv2
   cases r1; cases r2
   split at hs
   · rename_i h
     cases hs
     exact .inr (.inl ⟨_, _, rfl, rfl, sz_le h, m.same (.str _)⟩)
   · cases hs
 · obtain ⟨x, y, O, O', rfl, r1, r2⟩ := r.inv2
   split at hs
   · rename_i h
     cases hs
     obtain ⟨a, xs, O1, rfl, e1, q1⟩ := rep_lstL r1
     obtain ⟨b, ys, O2, rfl, e2, q2⟩ := rep_lstL r2
     exact .inr (.inr (.inl ⟨a, b, xs, ys, rfl, rfl, e1, e2, sz_le (by rw [q1.length, q2.length]; exact h.1), m.lst (by simpa using (q1.fz h.2.1).append (q2.fz h.2.2))⟩))
   · cases hs
 · obtain ⟨x, y, O, O', rfl, r1, r2⟩ := r.inv2
   split at hs
   · rename_i h
     cases hs
     obtain ⟨a, xs, rfl, e1, q1⟩ := rep_tupT r1
     obtain ⟨b, ys, rfl, e2, q2⟩ := rep_tupT r2
     refine .inr (.inr (.inr ⟨a, b, xs, ys, rfl, rfl, e1, e2, sz_le (by rw [q1.length, q2.length]; exact h.1), fun hx => ?_, fun _ hy => ?_, fun _ _ => m.tup (by simpa using (q1.fz h.2.1).append (q2.fz h.2.2)) (fresh_nw w)⟩))
     · subst hx
       cases q1
       exact m.same (r2.fz' (by simpa [Val.fz] using h.2.2))
     · subst hy
       cases q2
       rw [List.append_nil] at m
       exact m.same (r1.fz' (by simpa [Val.fz] using h.2.1))
   · cases hs
 · cases hs
theorem ok_sub : OkF G (r2 (rI0 fun i j => .int (i - j))) semSub := by
 intro W H xs vs Ol v Q w r hs m
 unfold semSub at hs
 split at hs
 · obtain ⟨x, y, O, O', rfl, r1, r2⟩ := r.inv2
   cases r1; cases r2; cases hs
   exact ⟨_, _, rfl, rfl, m.same (.int _)⟩
 · cases hs
def rMulV (K : PySem.W.Frag) : R2 := fun x y H Q => rI CMulW (fun i j => .int (i * j)) x y H Q ∨ (rI CMul (fun i j => .int (i * j)) x y H Q ∨ (rRep x y H Q ∨ rRepT K x y H Q))
theorem op_mulV (hK : X.K = G.K) : OpR X (binaryOp .Mult) (rMulV G.K) := by
 rw [← hK]
 exact op_mulW.or (op_mul.or (op_rep.or op_repT))
theorem Reps.rep {W : Addr → Prop} {H : Hp} {xs : List V} {vs : List Val} (r : Reps G W H xs vs []) : ∀ n : Nat, Reps G W H (List.replicate n xs).flatten (List.replicate n vs).flatten []
 | 0 => by simpa using Reps.nil
 | n + 1 => by
  rw [List.replicate_succ, List.replicate_succ, List.flatten_cons, List.flatten_cons]
  exact r.append (Reps.rep r n)
theorem ok_mul : OkF G (r2 (rMulV G.K)) semMul := by
 intro W H xs vs Ol v Q w r hs m
 unfold semMul at hs
 split at hs
 · obtain ⟨x, y, O, O', rfl, r1, r2⟩ := r.inv2
   cases r1; cases r2
   split at hs
   · rename_i h
     cases hs
     rcases h with h | h
     · exact .inl ⟨_, _, rfl, rfl, h, m.same (.int _)⟩
     · exact .inr (.inl ⟨_, _, rfl, rfl, h, m.same (.int _)⟩)
   · cases hs
 · obtain ⟨x, y, O, O', rfl, r1, r2⟩ := r.inv2
   cases r2
   split at hs
   · rename_i h
     cases hs
     obtain ⟨a, xs, O1, rfl, e1, q1⟩ := rep_lstL r1
     exact .inr (.inr (.inl ⟨a, _, xs, rfl, rfl, e1, h.1, h.2.1, sz_le (by rw [q1.length]; exact h.2.2.1), m.lst (Reps.rep (q1.fz h.2.2.2) _)⟩))
   · cases hs
 · obtain ⟨x, y, O, O', rfl, r1, r2⟩ := r.inv2
   cases r2
   split at hs
   · rename_i h
     cases hs
     obtain ⟨a, xs, rfl, e1, q1⟩ := rep_tupT r1
     refine .inr (.inr (.inr ⟨a, _, xs, rfl, rfl, e1, fun z => ?_, h.2.1, h.2.2.1, by rw [q1.length]; exact h.2.2.2.1, m.tup (Reps.rep (q1.fz h.2.2.2.2) _) (fresh_nw w)⟩))
     subst z
     cases q1
     exact h.1 rfl
   · cases hs
 · cases hs
theorem ok_div : OkF G (r2 (rI CDivW fun i j => .int (i / j))) semDiv := by
 intro W H xs vs Ol v Q w r hs m
 unfold semDiv at hs
 split at hs
 · obtain ⟨x, y, O, O', rfl, r1, r2⟩ := r.inv2
   cases r1; cases r2
   split at hs
   · rename_i h
     cases hs
     exact ⟨_, _, rfl, rfl, h, m.same (.int _)⟩
   · cases hs
 · cases hs
theorem ok_mod : OkF G (r2 (rI (fun _ j => 0 < j) fun i j => .int (i % j))) semMod := by
 intro W H xs vs Ol v Q w r hs m
 unfold semMod at hs
 split at hs
 · obtain ⟨x, y, O, O', rfl, r1, r2⟩ := r.inv2
   cases r1; cases r2
   split at hs
   · rename_i h
     cases hs
     exact ⟨_, _, rfl, rfl, h, m.same (.int _)⟩
   · cases hs
 · cases hs
theorem ok_pow : OkF G (r2 (rI CPow fun i j => .int (i ^ j.toNat))) semPow := by
 intro W H xs vs Ol v Q w r hs m
 unfold semPow at hs
 split at hs
 · obtain ⟨x, y, O, O', rfl, r1, r2⟩ := r.inv2
   cases r1; cases r2
   split at hs
   · rename_i h
     cases hs
     exact ⟨_, _, rfl, rfl, h, m.same (.int _)⟩
   · cases hs
 · cases hs
theorem ok_neg : OkF G (r1 (rU fun i => .int (-i))) semNeg := by
 intro W H xs vs Ol v Q w r hs m
 unfold semNeg at hs
 split at hs
 · obtain ⟨x, O, rfl, r1⟩ := r.inv1
   cases r1; cases hs
   exact ⟨_, rfl, m.same (.int _)⟩
 · cases hs
end
def semCmp (f : Int → Int → Bool) : List Val → Option Val
 | [.int a, .int b] => some (.bl (f a b))
 | _ => none
theorem ok_cmp {G : Gam} {f : Int → Int → Bool} : OkF G (r2 (rI0 fun i j => .bl (f i j))) (semCmp f) := by
 intro W H xs vs Ol v Q w r hs m
 unfold semCmp at hs
 split at hs
 · obtain ⟨x, y, O, O', rfl, r1, r2⟩ := r.inv2
   cases r1; cases r2; cases hs
   exact ⟨_, _, rfl, rfl, m.same (.bl _)⟩
 · cases hs
mutual
def toD : Val → Option PyData
 | .non => some .none
 | .bl b => some (.bool b)
 | .int i => some (.int i)
 | .str x => some (.str x)
 | .tup xs => match toDs xs with
  | some ds => some (.tuple ds)
  | none => none
 | .lst _ xs => match toDs xs with
  | some ds => some (.list ds)
  | none => none
 | _ => none
def toDs : List Val → Option (List PyData)
 | [] => some []
 | x :: xs => match toD x, toDs xs with
  | some d, some ds => some (d :: ds)
  | _, _ => none
end
section
variable {G : Gam} {W : Addr → Prop} {H : Hp}
mutual
theorem Rep.dp {x : V} {v : Val} {O : List Addr} {d : PyData} (r : Rep G W H x v O) (h : toD v = some d) : Dp G.K H x d := by
 cases r with
 | non => simp only [toD] at h; cases h; exact .non
 | bl b => simp only [toD] at h; cases h; exact .bl b
 | int i => simp only [toD] at h; cases h; exact .int i
 | str x => simp only [toD] at h; cases h; exact .str x
 | tup h' r =>
  simp only [toD] at h
  split at h
  · rename_i ds hd
    cases h
    exact .tup (.inl (.inl h'.1)) (r.dp hd)
  · cases h
 | lstO h' r =>
  simp only [toD] at h
  split at h
  · rename_i ds hd
    cases h
    exact .lst (.inl (.inl h')) (r.dp hd)
  · cases h
 | lstF h' r =>
  simp only [toD] at h
  split at h
  · rename_i ds hd
    cases h
    exact .lst (.inl (.inl h'.1)) (r.dp hd)
  · cases h
 | _ => simp only [toD] at h; cases h
theorem Reps.dp {xs : List V} {vs : List Val} {O : List Addr} {ds : List PyData} (r : Reps G W H xs vs O) (h : toDs vs = some ds) : DpAll G.K H xs ds := by
 cases r with
 | nil => simp only [toDs] at h; cases h; exact .nil
 | cons r t =>
  simp only [toDs] at h
  split at h
  · rename_i d ds h1 h2
    cases h
    exact .cons (r.dp h1) (t.dp h2)
  · cases h
end
end
def eqD (a b : Val) : Option Bool := match toD a, toD b with
 | some d, some e => if SeqAt.shaped d = true ∧ SeqAt.shaped e = true then some (PyData.eqv d e) else none
 | _, _ => none
def semEq : List Val → Option Val
 | [a, b] => match eqD a b with
  | some c => some (.bl c)
  | none => none
 | _ => none
def semNe : List Val → Option Val
 | [a, b] => match eqD a b with
  | some c => some (.bl (!c))
  | none => none
 | _ => none
section
variable {G : Gam} {X : Cx}
theorem eqD_some {a b : Val} {c : Bool} (h : eqD a b = some c) : ∃ d e, toD a = some d ∧ toD b = some e ∧ SeqAt.shaped d = true ∧ SeqAt.shaped e = true ∧ c = PyData.eqv d e := by
 unfold eqD at h
 split at h
 · rename_i d e h1 h2
   split at h
   · rename_i hs
     cases h
     exact ⟨d, e, h1, h2, hs.1, hs.2, rfl⟩
   · cases h
 · cases h
theorem ok_eq : OkF G (r2 (rEqD G.K)) semEq := by
 intro W H xs vs Ol v Q w r hs m
 unfold semEq at hs
 split at hs
 · obtain ⟨x, y, O, O', rfl, r1, r2⟩ := r.inv2
   split at hs
   · rename_i c hc
     cases hs
     obtain ⟨d, e, h1, h2, h3, h4, rfl⟩ := eqD_some hc
     exact ⟨d, e, r1.dp h1, r2.dp h2, h3, h4, m.same (.bl _)⟩
   · cases hs
 · cases hs
theorem ok_ne : OkF G (r2 (rNeD G.K)) semNe := by
 intro W H xs vs Ol v Q w r hs m
 unfold semNe at hs
 split at hs
 · obtain ⟨x, y, O, O', rfl, r1, r2⟩ := r.inv2
   split at hs
   · rename_i c hc
     cases hs
     obtain ⟨d, e, h1, h2, h3, h4, rfl⟩ := eqD_some hc
     exact ⟨d, e, r1.dp h1, r2.dp h2, h3, h4, m.same (.bl _)⟩
   · cases hs
 · cases hs
end
end VL
namespace VL
open PySem L2
mutual
def Val.beq : Val → Val → Bool
 | .non, .non => true
 | .bl a, .bl b => a == b
 | .int a, .int b => a == b
 | .str a, .str b => decide (a = b)
 | .ty a, .ty b => a == b
 | .cn a, .cn b => a == b
 | .tup a, .tup b => beqs a b
 | .lst o a, .lst p b => o == p && beqs a b
 | .dct o d ks xs, .dct p e ls ys => o == p && (decide (d = e) && (beqs ks ls && beqs xs ys))
 | .obj o C fs xs, .obj p D gs ys => o == p && (C == D && (decide (fs = gs) && beqs xs ys))
 | .exn C fs xs, .exn D gs ys => C == D && (decide (fs = gs) && beqs xs ys)
 | .scr a, .scr b => decide (a = b)
 | .wdk ks xs, .wdk ls ys => beqs ks ls && beqs xs ys
 | .wtp a, .wtp b => beqs a b
 | .fn a, .fn b => a == b
 | _, _ => false
def beqs : List Val → List Val → Bool
 | [], [] => true
 | a :: l, b :: r => a.beq b && beqs l r
 | _, _ => false
end
mutual
theorem Val.beq_eq : ∀ (a b : Val), a.beq b = true → a = b
 | .non, b, h => by cases b <;> simp_all [Val.beq]
 | .bl a, b, h => by cases b <;> simp_all [Val.beq]
 | .int a, b, h => by cases b <;> simp_all [Val.beq]
 | .str a, b, h => by cases b <;> simp_all [Val.beq]
 | .ty a, b, h => by cases b <;> simp_all [Val.beq]
 | .cn a, b, h => by cases b <;> simp_all [Val.beq]
 | .fn a, b, h => by cases b <;> simp_all [Val.beq]
 | .scr a, b, h => by cases b <;> simp_all [Val.beq]
 | .tup a, b, h => by
  cases b <;> simp only [Val.beq, Bool.false_eq_true] at h
  rw [beqs_eq _ _ h]
 | .wtp a, b, h => by
  cases b <;> simp only [Val.beq, Bool.false_eq_true] at h
  rw [beqs_eq _ _ h]
 | .lst o a, b, h => by
  cases b <;> simp only [Val.beq, Bool.false_eq_true, Bool.and_eq_true, beq_iff_eq] at h
  rw [h.1, beqs_eq _ _ h.2]
 | .dct o d ks xs, b, h => by
  cases b <;> simp only [Val.beq, Bool.false_eq_true, Bool.and_eq_true, beq_iff_eq, decide_eq_true_eq] at h
  rw [h.1, h.2.1, beqs_eq _ _ h.2.2.1, beqs_eq _ _ h.2.2.2]
 | .obj o C fs xs, b, h => by
  cases b <;> simp only [Val.beq, Bool.false_eq_true, Bool.and_eq_true, beq_iff_eq, decide_eq_true_eq] at h
  rw [h.1, h.2.1, h.2.2.1, beqs_eq _ _ h.2.2.2]
 | .exn C fs xs, b, h => by
  cases b <;> simp only [Val.beq, Bool.false_eq_true, Bool.and_eq_true, beq_iff_eq, decide_eq_true_eq] at h
  rw [h.1, h.2.1, beqs_eq _ _ h.2.2]
 | .wdk ks xs, b, h => by
  cases b <;> simp only [Val.beq, Bool.false_eq_true, Bool.and_eq_true] at h
  rw [beqs_eq _ _ h.1, beqs_eq _ _ h.2]
theorem beqs_eq : ∀ (a b : List Val), beqs a b = true → a = b
 | [], b, h => by cases b <;> simp_all [beqs]
 | x :: l, b, h => by
  cases b with
  | nil => simp [beqs] at h
  | cons y r =>
   simp only [beqs, Bool.and_eq_true] at h
   rw [Val.beq_eq _ _ h.1, beqs_eq _ _ h.2]
end
mutual
theorem Val.beq_refl : ∀ (a : Val), a.beq a = true
 | .non | .bl _ | .int _ | .str _ | .ty _ | .cn _ | .scr _ | .fn _ => by simp [Val.beq]
 | .tup a => by simp only [Val.beq]; exact beqs_refl a
 | .wtp a => by simp only [Val.beq]; exact beqs_refl a
 | .lst o a => by simp [Val.beq, beqs_refl a]
 | .dct o d ks xs => by simp [Val.beq, beqs_refl ks, beqs_refl xs]
 | .obj o C fs xs => by simp [Val.beq, beqs_refl xs]
 | .exn C fs xs => by simp [Val.beq, beqs_refl xs]
 | .wdk ks xs => by simp [Val.beq, beqs_refl ks, beqs_refl xs]
theorem beqs_refl : ∀ (a : List Val), beqs a a = true
 | [] => by simp [beqs]
 | x :: l => by simp [beqs, Val.beq_refl x, beqs_refl l]
end
instance : DecidableEq Val := fun a b => if h : a.beq b = true then .isTrue (Val.beq_eq a b h) else .isFalse fun e => h (by rw [e]; exact Val.beq_refl b)
def lookK (k : Val) : List Val → List Val → Option Val
 | l :: ks, v :: vs => if l = k then some v else lookK k ks vs
 | _, _ => none
def isKey : DK → Val → Bool
 | .k, .int _ => true
 | .k, .str _ => true
 | .t, .tup xs => xs.all fun x => match x with | .int _ => true | .str _ => true | _ => false
 | _, _ => false
theorem ofKey_inj {k l : Key} (h : ofKey k = ofKey l) : k = l := by
 cases k <;> cases l <;> simp [ofKey] at h <;> rw [h]
theorem ofKey_map_inj : ∀ {k l : List Key}, k.map ofKey = l.map ofKey → k = l
 | [], [], _ => rfl
 | [], _ :: _, h => by simp at h
 | _ :: _, [], h => by simp at h
 | a :: k, b :: l, h => by
  simp only [List.map_cons, List.cons.injEq] at h
  rw [ofKey_inj h.1, ofKey_map_inj h.2]
section
variable {G : Gam} {W : Addr → Prop} {H : Hp}
theorem look_of {κ : Type} [DecidableEq κ] {f : κ → Val} (inj : ∀ a b, f a = f b → a = b) (k : κ) : ∀ {kvs : List (κ × V)} {vs : List Val} {O : List Addr}, Reps G W H (kvs.map (·.2)) vs O →
    match lookK (f k) (kvs.map fun p => f p.1) vs with
    | some v => ∃ x O', valV kvs k = some x ∧ Rep G W H x v O' ∧ ∀ a ∈ O', a ∈ O
    | none => valV kvs k = none
 | [], vs, O, r => by
  cases r
  simp [lookK, valV]
 | p :: kvs, vs, O, r => by
  cases r with
  | @cons x v _ vs' O1 O2 r t =>
   simp only [List.map_cons, lookK]
   by_cases h : f p.1 = f k
   · rw [if_pos h]
     have e := inj _ _ h
     exact ⟨p.2, O1, valV_pos e, r, fun a ha => List.mem_append_left _ ha⟩
   · rw [if_neg h]
     have e : ¬ p.1 = k := fun z => h (by rw [z])
     have ih := look_of inj k t
     cases hv : lookK (f k) (kvs.map fun p => f p.1) vs' with
     | some v' =>
      rw [hv] at ih
      obtain ⟨x', O', e1, r', s⟩ := ih
      exact ⟨x', O', by rw [valV_neg e]; exact e1, r', fun a ha => List.mem_append_right _ (s a ha)⟩
     | none =>
      rw [hv] at ih
      dsimp only
      rw [valV_neg e]; exact ih
theorem isKey_k {v : Val} {x : V} {O : List Addr} (h : isKey .k v = true) (r : Rep G W H x v O) : ∃ k : Key, v = ofKey k ∧ x = kV k := by
 cases r <;> simp [isKey] at h
 · exact ⟨.inl _, rfl, rfl⟩
 · exact ⟨.inr _, rfl, rfl⟩
theorem isKeys {vs : List Val} (h : (vs.all fun x => match x with | .int _ => true | .str _ => true | _ => false) = true) : ∀ {xs : List V} {O : List Addr}, Reps G W H xs vs O → ∃ ks : List Key, vs = ks.map ofKey ∧ xs = ks.map kV := by
 induction vs with
 | nil => intro xs O r; cases r; exact ⟨[], rfl, rfl⟩
 | cons v vs ih =>
  intro xs O r
  simp only [List.all_cons, Bool.and_eq_true] at h
  cases r with
  | cons r t =>
   obtain ⟨ks, e1, e2⟩ := ih h.2 t
   obtain ⟨k, e3, e4⟩ := isKey_k (G := G) (W := W) (H := H) (v := v) (by have := h.1; cases v <;> simp_all [isKey]) r
   exact ⟨k :: ks, by simp [e1, e3], by simp [e2, e4]⟩
end
def semIx : List Val → Option Val
 | [.lst _ xs, .int i] => match atI xs i with
  | some v => if v.fz = true then some v else none
  | none => none
 | [.tup xs, .int i] => match atI xs i with
  | some v => if v.fz = true then some v else none
  | none => none
 | [.wtp xs, .int i] => match atI xs i with
  | some v => some v
  | none => none
 | [.scr ns, .int i] => match atI ns i with
  | some n => some (.int n)
  | none => none
 | [.str z, .int i] => if z.length ≤ 16777216 then (match atI z.cps.toList i with
  | some c => some (.str ⟨#[c]⟩)
  | none => none) else none
 | [.dct _ d ks vs, k] => if isKey d k = true then (match lookK k ks vs with
  | some v => if v.fz = true then some v else none
  | none => none) else none
 | [.wdk ks vs, .str z] => match lookK (.str z) ks vs with
  | some v => if v.fz = true then some v else none
  | none => none
 | _ => none
section
variable {G : Gam} {X : Cx}
def rIxDG : R2 := fun x y H Q => ∃ a v, x = .ref a ∧ DGet H a y (some v) ∧ Q v H
theorem ix_dict (hu : X.A.units + 1 < cLine) : IxR X rIxDG := by
 intro value slice pins s σ H x y v u Q I rx ry h hs
 obtain ⟨a, z, rfl, g, q⟩ := h
 obtain rfl : v = Value.ref a := rx
 exact PyProof.Rows.tail_any (dict_typeIs I g) PySem.F.slot_dict_getitem.lookup (d_getItem hu I g ry fun w' s3 I3 rw' => ⟨z, H, I3, rw', q⟩) hs
def rIxV (K : PySem.W.Frag) (w : World) : R2 := fun x y H Q => rIx K x y H Q ∨ (rIxDG x y H Q ∨ rIxD K w x y H Q)
theorem IxR.or' {r r' : R2} (h : IxR X r) (h' : IxR X r') : IxR X (fun x y H Q => r x y H Q ∨ r' x y H Q) := by
 intro value slice pins s σ H x y v u Q I rx ry q hs
 rcases q with q | q
 · exact h value slice pins s σ H x y v u Q I rx ry q hs
 · exact h' value slice pins s σ H x y v u Q I rx ry q hs
theorem ix_any (hK : X.K = G.K) (hw : X.w = G.w) (hu : X.A.units + 1 < cLine) : IxR X (rIxV G.K G.w) := by
 rw [← hK, ← hw]
 exact IxR.or' ix_seq (IxR.or' (ix_dict hu) ix_kdict)
theorem Reps.at {W : Addr → Prop} {H : Hp} {xs : List V} {vs : List Val} {O : List Addr} (r : Reps G W H xs vs O) {i : Int} {v : Val} (h : atI vs i = some v) : ∃ x Oi, atI xs i = some x ∧ Rep G W H x v Oi := by
 unfold atI at h ⊢
 rw [r.length]
 cases e : ixN vs.length i with
 | none => rw [e] at h; cases h
 | some j =>
  rw [e] at h
  simp only [Option.bind_some] at h ⊢
  obtain ⟨x, _, Oi, _, e1, _, q⟩ := r.split h
  exact ⟨x, Oi, e1, q⟩
theorem atI_map {α β : Type} (f : α → β) (l : List α) (i : Int) : atI (l.map f) i = (atI l i).map f := by
 unfold atI
 rw [List.length_map]
 cases ixN l.length i with
 | none => rfl
 | some j => simp
theorem atI_mem {α : Type} {l : List α} {i : Int} {v : α} (h : atI l i = some v) : v ∈ l := by
 unfold atI at h
 cases e : ixN l.length i with
 | none => rw [e] at h; cases h
 | some j => rw [e] at h; exact List.mem_of_getElem? (by simpa using h)
theorem ok_ix : OkF G (r2 (rIxV G.K G.w)) semIx := by
 intro W H xs vs Ol v Q w r hs m
 unfold semIx at hs
 split at hs
 · obtain ⟨x, y, O, O', rfl, r1, r2⟩ := r.inv2
   cases r2
   split at hs
   · rename_i v' hv
     split at hs
     · rename_i hf
       cases hs
       obtain ⟨a, ys, O1, rfl, e1, q1⟩ := rep_lstL r1
       obtain ⟨z, Oi, e2, q2⟩ := q1.at hv
       exact .inl (.inl ⟨a, ys, _, z, rfl, rfl, .inl (.inl e1), e2, m.same (q2.fz' hf)⟩)
     · cases hs
   · cases hs
 · obtain ⟨x, y, O, O', rfl, r1, r2⟩ := r.inv2
   cases r2
   split at hs
   · rename_i v' hv
     split at hs
     · rename_i hf
       cases hs
       obtain ⟨a, ys, rfl, e1, q1⟩ := rep_tupT r1
       obtain ⟨z, Oi, e2, q2⟩ := q1.at hv
       exact .inl (.inr (.inl ⟨a, ys, _, z, rfl, rfl, e1, e2, m.same (q2.fz' hf)⟩))
     · cases hs
   · cases hs
 · obtain ⟨x, y, O, O', rfl, r1, r2⟩ := r.inv2
   cases r2
   split at hs
   · rename_i v' hv
     cases hs
     cases r1 with
     | @wtp a ys us h q1 =>
      obtain ⟨z, Oi, e2, q2⟩ := q1.at hv
      have hf : Rep G W H z v [] := by
       have := q1.fz_of_none rfl
       rw [fzs_all, List.all_eq_true] at this
       exact q2.fz' (this v (atI_mem hv))
      exact .inl (.inr (.inl ⟨a, ys, _, z, rfl, rfl, h.elim (fun q => by rcases q with q | ⟨o, q⟩ <;> cases q) .inr, e2, m.same hf⟩))
   · cases hs
 · obtain ⟨x, y, O, O', rfl, r1, r2⟩ := r.inv2
   cases r2
   split at hs
   · rename_i n hv
     cases hs
     cases r1 with
     | scr h =>
      exact .inl (.inl ⟨_, _, _, .int _, rfl, rfl, h.elim (fun ⟨o, e, _⟩ => Or.inl (Or.inr ⟨o, e⟩)) (fun z => z.elim (fun q => by rcases q with q | ⟨o, q⟩ <;> cases q) .inr), by rw [atI_map, hv]; rfl, m.same (.int _)⟩)
   · cases hs
 · obtain ⟨x, y, O, O', rfl, r1, r2⟩ := r.inv2
   cases r2; cases r1
   split at hs
   · rename_i hz
     split at hs
     · rename_i c hc
       cases hs
       exact .inl (.inr (.inr ⟨_, _, c, rfl, rfl, sz_le hz, hc, m.same (.str _)⟩))
     · cases hs
   · cases hs
 · obtain ⟨x, y, O, O', rfl, r1, r2⟩ := r.inv2
   split at hs
   · rename_i hk
     split at hs
     · rename_i v' hv
       split at hs
       · rename_i hf
         cases hs
         cases r1 with
         | @dkO a kvs ks vs O1 h hk' q =>
          obtain ⟨k, rfl, rfl⟩ := isKey_k hk r2
          have l := look_of (f := ofKey) (fun a b => ofKey_inj) k q
          rw [← hk', hv] at l
          obtain ⟨x', O'', e1, r', _⟩ := l
          exact .inr (.inl ⟨a, x', rfl, .inl ⟨kvs, k, .inl h, rfl, e1.symm⟩, m.same (r'.fz' hf)⟩)
         | @dkF a kvs ks vs h hk' q =>
          obtain ⟨k, rfl, rfl⟩ := isKey_k hk r2
          have l := look_of (f := ofKey) (fun a b => ofKey_inj) k q
          rw [← hk', hv] at l
          obtain ⟨x', O'', e1, r', _⟩ := l
          exact .inr (.inl ⟨a, x', rfl, .inl ⟨kvs, k, h.1, rfl, e1.symm⟩, m.same (r'.fz' hf)⟩)
         | dnO => simp [isKey] at hk
         | dnF => simp [isKey] at hk
         | @dtO a kvs ks vs O1 h hk' q =>
          cases r2 <;> simp [isKey] at hk
          rename_i b ys us hb q2
          obtain ⟨kl, e2, e3⟩ := isKeys (by simpa using hk) q2
          subst e2 e3
          have l := look_of (f := fun k : List Key => Val.tup (k.map ofKey)) (fun a b e => ofKey_map_inj (by simpa using e)) kl q
          rw [← hk', hv] at l
          obtain ⟨x', O'', e1, r', _⟩ := l
          exact .inr (.inl ⟨a, x', rfl, .inr ⟨kvs, kl, b, .inl h, rfl, hb.1, e1.symm⟩, m.same (r'.fz' hf)⟩)
         | @dtF a kvs ks vs h hk' q =>
          cases r2 <;> simp [isKey] at hk
          rename_i b ys us hb q2
          obtain ⟨kl, e2, e3⟩ := isKeys (by simpa using hk) q2
          subst e2 e3
          have l := look_of (f := fun k : List Key => Val.tup (k.map ofKey)) (fun a b e => ofKey_map_inj (by simpa using e)) kl q
          rw [← hk', hv] at l
          obtain ⟨x', O'', e1, r', _⟩ := l
          exact .inr (.inl ⟨a, x', rfl, .inr ⟨kvs, kl, b, .inl h.1, rfl, hb.1, e1.symm⟩, m.same (r'.fz' hf)⟩)
       · cases hs
     · cases hs
   · cases hs
 · obtain ⟨x, y, O, O', rfl, r1, r2⟩ := r.inv2
   cases r2
   split at hs
   · rename_i v' hv
     split at hs
     · rename_i hf
       cases hs
       cases r1 with
       | @wdk a kvs ks vs h hk' q =>
        have l := look_of (f := ofKey) (fun a b => ofKey_inj) (.inr ‹Str›) q
        rw [← hk'] at l
        simp only [ofKey] at l
        rw [hv] at l
        obtain ⟨x', O'', e1, r', _⟩ := l
        exact .inr (.inr ⟨a, _, x', rfl, rfl, h.2.1 _ _ e1, m.same (r'.fz' hf)⟩)
     · cases hs
   · cases hs
 · cases hs
end
end VL
namespace VL
open PySem L2
section
variable {G : Gam} {R : Addr → Prop} {E : WX} {σ : L2.St} {H H1 : Hp} {Os Os1 : Nat → List Addr} {ρ ρ1 : VEnv} {Q : VK} {r : RE}
theorem Post.later {p p1 p2 s s2 : Bool} (hp : p = true → p1 = true ∧ p2 = true) (hs : s = true → s2 = true) (post : Post G R E σ H Os p s ρ Q r) (k : KeepE H Os H1 Os1 fun _ => False) (pu : p1 = true → ρ1 = ρ ∧ Os1 = Os ∧ Same H H1) : Post G R E σ H1 Os1 p2 s2 ρ1 Q r := by
 cases r with
 | bad => exact post
 | exc e ρ' => exact fun c d H' Os' rel rx keep => post c d H' Os' rel rx (k.trans keep)
 | ok v ρ' =>
  intro x H' Os' O rel rep nd keep pure
  have hw : ∀ a, Rp R s O a → Rp R s2 O a := fun a z => z.imp id fun z => ⟨hs z.1, z.2⟩
  refine post x H' Os' O (rel.weak hw) (rep.mono (fun a o e nw => ⟨e, fun z => nw (z.imp (hw a) id)⟩) fun _ _ _ e => e) (fun z => nd (hs z)) ((k.trans keep).imp fun a z => ⟨hs z.1, z.2⟩) fun z => ?_
  obtain ⟨h1, h2⟩ := hp z
  obtain ⟨a1, a2, a3⟩ := pu h1
  obtain ⟨b1, b2, b3⟩ := pure h2
  exact ⟨b1.trans a1, b2.trans a2, a3.trans b3⟩
end
def PostT (G : Gam) (R : Addr → Prop) (E : WX) (σ : L2.St) (H : Hp) (Os : Nat → List Addr) (p : Bool) (ρ : VEnv) (Q : Bool → Hp → Prop) : RE → Prop
 | .ok (.bl b) ρ' => ∀ H' Os', Rel G R H' σ ρ' Os' → KeepE H Os H' Os' (fun _ => False) → (p = true → ρ' = ρ ∧ Os' = Os ∧ Same H H') → Q b H'
 | .ok _ _ => False
 | .exc e ρ' => ∀ c d H' Os', Rel G R H' σ ρ' Os' → RepX G (WW R Os') H' c d e → KeepE H Os H' Os' (fun _ => False) → E c d σ H'
 | .bad => False
def tT (G : Gam) (E : WX) (p : Bool) (m : ME) : TT := fun σ H Q => ∃ R ρ Os, Rel G R H σ ρ Os ∧ PostT G R E σ H Os p ρ Q (m ρ)
def VT (G : Gam) (X : Cx) (E : WX) (p : Bool) (e : Expr) (m : ME) : Prop := PT X e (tT G E p m)
section
variable {G : Gam} {R : Addr → Prop} {E : WX} {σ : L2.St} {H H1 : Hp} {Os Os1 : Nat → List Addr} {ρ ρ1 : VEnv}
theorem PostT.later {p p1 p2 : Bool} {Q : Bool → Hp → Prop} {r : RE} (hp : p = true → p1 = true ∧ p2 = true) (post : PostT G R E σ H Os p ρ Q r) (k : KeepE H Os H1 Os1 fun _ => False) (pu : p1 = true → ρ1 = ρ ∧ Os1 = Os ∧ Same H H1) : PostT G R E σ H1 Os1 p2 ρ1 Q r := by
 cases r with
 | bad => exact post
 | exc e ρ' => exact fun c d H' Os' rel rx keep => post c d H' Os' rel rx (k.trans keep)
 | ok v ρ' =>
  cases v with
  | bl b =>
   intro H' Os' rel keep pure
   refine post H' Os' rel (k.trans keep) fun z => ?_
   obtain ⟨h1, h2⟩ := hp z
   obtain ⟨a1, a2, a3⟩ := pu h1
   obtain ⟨b1, b2, b3⟩ := pure h2
   exact ⟨b1.trans a1, b2.trans a2, a3.trans b3⟩
  | _ => exact post.elim
theorem PostT.post {p s : Bool} {Q : Bool → Hp → Prop} {r : RE} (post : PostT G R E σ H Os p ρ Q r) : Post G R E σ H Os p s ρ (fun x H' => ∃ c, x = .bl c ∧ Q c H') r := by
 cases r with
 | bad => exact post
 | exc e ρ' => exact post
 | ok v ρ' =>
  cases v with
  | bl b =>
   intro x H' Os' O rel rep nd keep pure
   cases rep
   exact ⟨b, rfl, post H' Os' (rel.weak fun a z => .inl z) (keep.imp fun _ z => z.elim) pure⟩
  | _ => exact post.elim
end
section
variable {G : Gam} {X : Cx} {E : WX} {e a b c : Expr} {pos : Pos} {p s p1 s1 p2 s2 p3 s3 : Bool} {m m1 m2 m3 : ME}
theorem vt_val (h : VE G X E p s e m) (he : ∀ whole, isTrue e X.env whole = (do let v ← whole; standAt e.pos; holding [v] (truthy v)) := by intro _; rfl) : VT G X E p e m :=
 PT.pre (pt_val h he) fun σ H Q ⟨R, ρ, Os, rel, post⟩ => ⟨R, ρ, Os, rel, post.post⟩
theorem vt_cmp {op : CmpOp} {r : R2} {sem : List Val → Option Val} (ho : OpR X (compareOp op) r) (ok : OkF G (r2 r) sem) (h1 : VE G X E p1 s1 a m1) (h2 : VE G X E p2 s2 b m2) (hm : behindInMarks op b = false) (wf : (s1 || p2) = true := by rfl) :
    VT G X E (p1 && p2) (.Compare a [op] [b] pos) (mFun sem [m1, m2]) := by
 refine PT.pre (pt_cmpR ho h1 h2 hm) fun σ H Q ⟨R, ρ, Os, rel, post⟩ => ?_
 have := fun_pre (G := G) (E := E) (os := [⟨p1, s1, m1⟩, ⟨p2, s2, m2⟩]) (r := r2 r) (t := tOp r (rd G E p1 s1 m1) (rd G E p2 s2 m2)) (fun σ H Q z => z) ok (wf2 wf) σ H (fun x H' => ∃ c, x = .bl c ∧ Q c H') ⟨R, ρ, Os, rel, ?_⟩
 · exact this
 · have := post.post (s := true)
   simpa using this
def mNot (m : ME) : ME := fun ρ => match m ρ with
 | .ok (.bl b) ρ' => .ok (.bl (!b)) ρ'
 | .ok _ _ => .bad
 | .exc e ρ' => .exc e ρ'
 | .bad => .bad
def mAnd (m1 m2 : ME) : ME := fun ρ => match m1 ρ with
 | .ok (.bl b) ρ' => if b = true then m2 ρ' else .ok (.bl false) ρ'
 | .ok _ _ => .bad
 | .exc e ρ' => .exc e ρ'
 | .bad => .bad
def mOr (m1 m2 : ME) : ME := fun ρ => match m1 ρ with
 | .ok (.bl b) ρ' => if b = true then .ok (.bl true) ρ' else m2 ρ'
 | .ok _ _ => .bad
 | .exc e ρ' => .exc e ρ'
 | .bad => .bad
def mIf (m1 m2 m3 : ME) : ME := fun ρ => match m1 ρ with
 | .ok (.bl b) ρ' => if b = true then m2 ρ' else m3 ρ'
 | .ok _ _ => .bad
 | .exc e ρ' => .exc e ρ'
 | .bad => .bad
theorem vt_not (h : VT G X E p e m) : VT G X E p (.UnaryOp .Not e pos) (mNot m) := by
 refine PT.pre (pt_not h) fun σ H Q ⟨R, ρ, Os, rel, post⟩ => ⟨R, ρ, Os, rel, ?_⟩
 unfold mNot at post
 cases hm : m ρ with
 | bad => rw [hm] at post; exact post
 | exc e ρ' => rw [hm] at post; exact post
 | ok v ρ' =>
  rw [hm] at post
  cases v with
  | bl b => exact post
  | _ => exact post.elim
def VW (G : Gam) (X : Cx) (E : WX) (p : Bool) (e : Expr) (m : ME) : Prop := PW X e (tT G E p m)
theorem vt_of (h : VW G X E p e m) : VT G X E p e m := PW.pt h
theorem PW.pre {X : Cx} {e : Expr} {t t' : TT} (h : PW X e t) (k : ∀ σ H Q, t' σ H Q → t σ H Q) : PW X e t' := ⟨fun wh pins s σ H Q I q => h.run wh pins s σ H Q I (k σ H Q q)⟩
theorem vw_or1 (h : VT G X E p a m) : VW G X E p (.BoolOp .Or [a] pos) m := pw_or1 h
theorem vw_or {rest : List Expr} (h1 : VT G X E p1 a m1) (h2 : VW G X E p2 (.BoolOp .Or (b :: rest) pos) m2) : VW G X E (p1 && p2) (.BoolOp .Or (a :: b :: rest) pos) (mOr m1 m2) := by
 refine PW.pre (pw_or h1 h2) fun σ H Q ⟨R, ρ, Os, rel, post⟩ => ⟨R, ρ, Os, rel, ?_⟩
 unfold mOr at post
 cases hm : m1 ρ with
 | bad => rw [hm] at post; exact post
 | exc e ρ' => rw [hm] at post; exact post
 | ok v ρ' =>
  rw [hm] at post
  cases v with
  | bl b =>
   intro H' Os' rel' keep pure
   cases b with
   | false => exact ⟨R, ρ', Os', rel', PostT.later (p1 := p1) (by simp) post keep pure⟩
   | true => exact post H' Os' rel' keep fun z => pure (by simp at z; exact z.1)
  | _ => exact post.elim
theorem ve_one {op} (h : VE G X E p s a m) : VE G X E p s (.BoolOp op [a] pos) m := pe_one h
theorem ve_and {rest : List Expr} (h1 : VE G X E p1 s1 a m1) (h2 : VE G X E p2 s2 (.BoolOp .And (b :: rest) pos) m2) : VE G X E (p1 && p2) s2 (.BoolOp .And (a :: b :: rest) pos) (mAnd m1 m2) := by
 refine PE.pre (pe_and h1 h2) fun σ H Q ⟨R, ρ, Os, rel, post⟩ => ⟨R, ρ, Os, rel, ?_⟩
 unfold mAnd at post
 cases hm : m1 ρ with
 | bad => rw [hm] at post; exact post
 | exc e ρ' => rw [hm] at post; exact post
 | ok v ρ' =>
  rw [hm] at post
  cases v with
  | bl b =>
   intro x H' Os' O rel' rep nd keep pure
   cases rep
   refine ⟨b, rfl, ?_⟩
   have hr : Rel G R H' σ ρ' Os' := rel'.weak fun a z => .inl z
   cases b with
   | true =>
    rw [if_pos rfl]
    exact ⟨R, ρ', Os', hr, Post.later (p1 := p1) (by simp) id post (keep.imp fun _ z => z.elim) pure⟩
   | false =>
    rw [if_neg Bool.false_ne_true]
    exact post (.bl false) H' Os' [] (hr.weak fun a z => z.elim id fun z => nomatch z.2) (.bl false) (fun _ => List.nodup_nil) (keep.imp fun a z => nomatch z.2) fun z => pure (by simp at z; exact z.1)
  | _ => exact post.elim
theorem ve_not (h : VE G X E p s e m) : VE G X E p true (.UnaryOp .Not e pos) (mNot m) := by
 refine PE.pre (pe_not h) fun σ H Q ⟨R, ρ, Os, rel, post⟩ => ⟨R, ρ, Os, rel, ?_⟩
 unfold mNot at post
 cases hm : m ρ with
 | bad => rw [hm] at post; exact post
 | exc e ρ' => rw [hm] at post; exact post
 | ok v ρ' =>
  rw [hm] at post
  cases v with
  | bl b =>
   intro x H' Os' O rel' rep nd keep pure
   cases rep
   exact ⟨b, rfl, post (.bl (!b)) H' Os' [] (rel'.weak fun a z => .inl (z.elim id fun z => nomatch z.2)) (.bl _) (fun _ => List.nodup_nil) (keep.imp fun a z => nomatch z.2) pure⟩
  | _ => exact post.elim
def mChain (f g : Int → Int → Bool) (m1 m2 m3 : ME) : ME := fun ρ => match evalM [m1, m2] ρ with
 | .ok [.int i, .int j] ρ1 => if f i j = true then (match m3 ρ1 with
  | .ok (.int k) ρ2 => .ok (.bl (g j k)) ρ2
  | .ok _ _ => .bad
  | .exc e ρ2 => .exc e ρ2
  | .bad => .bad) else .ok (.bl false) ρ1
 | .ok _ _ => .bad
 | .exc e ρ1 => .exc e ρ1
 | .bad => .bad
theorem chain_pre {f g : Int → Int → Bool} (wf : (s1 || p2) = true) (σ : L2.St) (H : Hp) (Q : VK) (h : rd G E (p1 && (p2 && p3)) true (mChain f g m1 m2 m3) σ H Q) :
    tChain (rI0 fun i j => .bl (f i j)) (rI0 fun i j => .bl (g i j)) (rd G E p1 s1 m1) (rd G E p2 s2 m2) (rd G E p3 s3 m3) σ H Q := by
 obtain ⟨R, ρ, Os, rel, post⟩ := h
 have key := nest_of (G := G) (E := E) (σ := σ) (os := [⟨p1, s1, m1⟩, ⟨p2, s2, m2⟩]) (wf2 wf) rel (K := fun xs H2 => match xs with
  | [x, y] => ∃ i j, x = .int i ∧ y = .int j ∧ ∃ k, V.bl (f i j) = .bl k ∧ (if k = true then rd G E p3 s3 m3 σ H2 fun w' H4 => ∃ j' k, y = .int j' ∧ w' = .int k ∧ Q (.bl (g j' k)) H4 else Q (.bl false) H2)
  | _ => False) ?_
 · exact key
 · rw [evalA_eq]
   unfold mChain at post
   simp only [List.map_cons, List.map_nil]
   cases he : evalM [m1, m2] ρ with
   | bad => rw [he] at post; exact post
   | exc e ρ' => rw [he] at post; exact post
   | ok vs ρ1 =>
    rw [he] at post
    intro xs H1 Os1 Ol rel1 reps nd keep pure
    match vs, reps, post with
    | [.int i, .int j], reps, post =>
     obtain ⟨x, y, O, O', rfl, r1, r2⟩ := reps.inv2
     cases r1; cases r2
     have keep' : KeepE H Os H1 Os1 fun _ => False := keep.imp fun _ z => z.elim
     refine ⟨i, j, rfl, rfl, f i j, rfl, ?_⟩
     cases hf : f i j with
     | false =>
      rw [if_neg Bool.false_ne_true]
      simp only [hf, Bool.false_eq_true, if_false] at post
      exact post (.bl false) H1 Os1 [] (rel1.weak fun a z => .inl (z.elim id fun z => nomatch z.2)) (.bl false) (fun _ => List.nodup_nil) (keep'.imp fun a z => nomatch z.2) fun z => pure (by simp at z ⊢; exact ⟨z.1, z.2.1⟩)
     | true =>
      rw [if_pos rfl]
      simp only [hf, if_true] at post
      refine ⟨R, ρ1, Os1, rel1.weak fun a z => .inl z, ?_⟩
      have pure' : (p1 && p2) = true → ρ1 = ρ ∧ Os1 = Os ∧ Same H H1 := fun z => pure (by simpa using z)
      cases hm : m3 ρ1 with
      | bad => rw [hm] at post; exact post
      | exc e ρ' => rw [hm] at post; exact fun c d H' Os' rel' rx k => post c d H' Os' rel' rx (keep'.trans k)
      | ok v ρ2 =>
       rw [hm] at post
       cases v with
       | int k =>
        intro x H' Os' O rel' rep nd' k' pu'
        cases rep
        refine ⟨j, k, rfl, rfl, ?_⟩
        refine post (.bl (g j k)) H' Os' [] (rel'.weak fun a z => .inl (z.elim id fun z => nomatch z.2)) (.bl _) (fun _ => List.nodup_nil) ((keep'.trans k').imp fun a z => nomatch z.2) fun z => ?_
        simp only [Bool.and_eq_true] at z
        obtain ⟨a1, a2, a3⟩ := pure' (by simp [z.1, z.2.1])
        obtain ⟨b1, b2, b3⟩ := pu' z.2.2
        exact ⟨b1.trans a1, b2.trans a2, a3.trans b3⟩
       | _ => exact post.elim
theorem ve_chain {op op' : CmpOp} {f g : Int → Int → Bool} (ho : OpR X (compareOp op) (rI0 fun i j => .bl (f i j))) (ho' : OpR X (compareOp op') (rI0 fun i j => .bl (g i j))) (h1 : VE G X E p1 s1 a m1) (h2 : VE G X E p2 s2 b m2) (h3 : VE G X E p3 s3 c m3) (wf : (s1 || p2) = true := by rfl)
    (hm : lastMarks [op, op'] [b, c] = false := by with_unfolding_all rfl) : VE G X E (p1 && (p2 && p3)) true (.Compare a [op, op'] [b, c] pos) (mChain f g m1 m2 m3) :=
 PE.pre (pe_chain ho ho' h1 h2 h3 hm) (chain_pre wf)
theorem vt_chain {op op' : CmpOp} {f g : Int → Int → Bool} (ho : OpR X (compareOp op) (rI0 fun i j => .bl (f i j))) (ho' : OpR X (compareOp op') (rI0 fun i j => .bl (g i j))) (h1 : VE G X E p1 s1 a m1) (h2 : VE G X E p2 s2 b m2) (h3 : VE G X E p3 s3 c m3) (wf : (s1 || p2) = true := by rfl)
    (hm : lastMarks [op, op'] [b, c] = false := by with_unfolding_all rfl) : VT G X E (p1 && (p2 && p3)) (.Compare a [op, op'] [b, c] pos) (mChain f g m1 m2 m3) :=
 PT.pre (pt_chain ho ho' h1 h2 h3 hm) fun σ H Q ⟨R, ρ, Os, rel, post⟩ => chain_pre wf σ H _ ⟨R, ρ, Os, rel, post.post⟩
end
end VL
namespace VL
open PySem L2
def mTup (ms : List ME) : ME := fun ρ => match evalM ms ρ with
 | .ok vs ρ' => .ok (.tup vs) ρ'
 | .exc e ρ' => .exc e ρ'
 | .bad => .bad
def mLst (ms : List ME) : ME := fun ρ => match evalM ms ρ with
 | .ok vs ρ' => .ok (.lst true vs) ρ'
 | .exc e ρ' => .exc e ρ'
 | .bad => .bad
section
variable {G : Gam} {X : Cx} {E : WX} {es : List Expr} {os : List Op} {pos : Pos}
theorem RepL.reps {W : Addr → Prop} {H : Hp} {xs : List V} {vs : List Val} {Ol : List (List Addr)} (r : RepL G W H xs vs Ol) : Reps G W H xs vs Ol.flatten := by
 induction r with
 | nil => exact .nil
 | cons r t ih => rw [List.flatten_cons]; exact .cons r ih
theorem stab_all : ∀ {os : List Op} {Ol : List (List Addr)}, os.all (·.s) = true → os.length = Ol.length → stab os Ol = Ol.flatten
 | [], [], _, _ => rfl
 | [], _ :: _, _, h => by simp at h
 | _ :: _, [], _, h => by simp at h
 | o :: os, O :: Ol, h, hl => by
  simp only [List.all_cons, Bool.and_eq_true] at h
  unfold stab
  rw [if_pos h.1, List.flatten_cons, stab_all h.2 (by simpa using hl)]
theorem RepL.len {W : Addr → Prop} {H : Hp} {xs : List V} {vs : List Val} {Ol : List (List Addr)} (r : RepL G W H xs vs Ol) : xs.length = vs.length ∧ vs.length = Ol.length := by
 induction r with
 | nil => exact ⟨rfl, rfl⟩
 | cons r t ih => exact ⟨by simp [ih.1], by simp [ih.2]⟩
theorem evalM_len : ∀ {ms : List ME} {ρ ρ' : VEnv} {vs : List Val}, evalM ms ρ = .ok vs ρ' → vs.length = ms.length
 | [], ρ, ρ', vs, h => by cases h; rfl
 | m :: ms, ρ, ρ', vs, h => by
  unfold evalM at h
  cases hm : m ρ with
  | bad => rw [hm] at h; cases h
  | exc e ρ1 => rw [hm] at h; cases h
  | ok v ρ1 =>
   rw [hm] at h
   dsimp only at h
   cases he : evalM ms ρ1 with
   | bad => rw [he] at h; cases h
   | exc e ρ2 => rw [he] at h; cases h
   | ok us ρ2 =>
    rw [he] at h
    cases h
    simp [evalM_len he]
theorem wf_all {os : List Op} (h : os.all (·.s) = true) : wfA os = true := by
 induction os with
 | nil => rfl
 | cons o os ih =>
  simp only [List.all_cons, Bool.and_eq_true] at h
  simp [wfA, h.1, ih h.2]
theorem ve_tup {k : Nat} (h : VAs G X E es os) (hs : os.all (·.s) = true := by rfl) (hl : os.length ≤ 1000 := by decide) : VE G X E (os.all (·.p)) true (.Tuple es k pos) (mTup (os.map Op.m)) := by
 refine PE.pre (pe_tup h) fun σ H Q ⟨R, ρ, Os, rel, post⟩ => ?_
 refine nest_of (wf_all hs) rel ?_
 rw [evalA_eq]
 unfold mTup at post
 cases he : evalM (os.map Op.m) ρ with
 | bad => rw [he] at post; exact post
 | exc e ρ' => rw [he] at post; exact post
 | ok vs ρ' =>
  rw [he] at post
  intro xs H' Os' Ol rel' reps nd keep pure
  have hlen := reps.len
  have hv := evalM_len he
  rw [List.length_map] at hv
  refine ⟨sz_le (by omega), fun q hq => ?_⟩
  have es := stab_all hs (hv.symm.trans hlen.2)
  have hR : ∀ a, Rp R true Ol.flatten a ↔ (R a ∨ a ∈ stab os Ol) := fun a => by
   rw [es]; exact ⟨fun z => z.imp id fun z => z.2, fun z => z.imp id fun z => ⟨rfl, z⟩⟩
  have ef : Rp R true Ol.flatten = fun a => R a ∨ a ∈ stab os Ol := funext fun a => propext (hR a)
  have nq : ¬ WW (fun a => R a ∨ a ∈ stab os Ol) Os' q := fresh_nw (fun p hp => rel'.ww hp) q hq
  refine post (.ref q) _ Os' Ol.flatten ?_ ?_ (fun _ => es ▸ nd) ?_ fun z => ?_
  · rw [ef]
    exact rel'.grow (same_upd hq) (fun a z => .inl z) fun a z => let ⟨o, e⟩ := rel'.rt a z; ⟨o, same_upd hq a o e⟩
  · rw [ef]
    exact .tup ⟨upd_same, nq⟩ (reps.reps.upd hq fun z hz => .inl hz)
  · exact (keep.grow (same_upd hq) fun a z => .inl (by rw [es]; exact z.2))
  · obtain ⟨h1, h2, h3⟩ := pure z
    exact ⟨h1, h2, h3.trans (same_upd hq)⟩
theorem ve_lst (h : VAs G X E es os) (hs : os.all (·.s) = true := by rfl) (hl : os.length ≤ 1000 := by decide) : VE G X E (os.all (·.p)) true (.List es pos) (mLst (os.map Op.m)) := by
 refine PE.pre (pe_lst h) fun σ H Q ⟨R, ρ, Os, rel, post⟩ => ?_
 refine nest_of (wf_all hs) rel ?_
 rw [evalA_eq]
 unfold mLst at post
 cases he : evalM (os.map Op.m) ρ with
 | bad => rw [he] at post; exact post
 | exc e ρ' => rw [he] at post; exact post
 | ok vs ρ' =>
  rw [he] at post
  intro xs H' Os' Ol rel' reps nd keep pure
  have hlen := reps.len
  have hv := evalM_len he
  rw [List.length_map] at hv
  refine ⟨sz_le (by omega), fun q hq => ?_⟩
  have es := stab_all hs (hv.symm.trans hlen.2)
  rw [es] at rel' nd keep
  rw [es] at reps
  have hR : ∀ a, Rp R true (q :: Ol.flatten) a → (R a ∨ a ∈ Ol.flatten) ∨ H' a = none := fun a z => by
   rcases z with z | ⟨_, z⟩
   · exact .inl (.inl z)
   · rcases List.mem_cons.mp z with z | z
     · exact .inr (z ▸ hq)
     · exact .inl (.inr z)
  refine post (.ref q) _ Os' (q :: Ol.flatten) (rel'.grow (same_upd hq) hR fun a z => ?_) (.lstO upd_same (reps.reps.upd hq fun z hz => ?_)) (fun _ => ?_) (keep.grow (same_upd hq) fun a z => ?_) fun z => ?_
  · rcases z with z | ⟨_, z⟩
    · obtain ⟨o, e⟩ := rel'.rt a (.inl z)
      exact ⟨o, same_upd hq a o e⟩
    · rcases List.mem_cons.mp z with z | z
      · subst z; exact ⟨_, upd_same⟩
      · obtain ⟨o, e⟩ := rel'.rt a (.inr z)
        exact ⟨o, same_upd hq a o e⟩
  · exact hz.elim (fun z => (hR _ z).imp .inl id) fun z => .inl (.inr z)
  · refine List.nodup_cons.mpr ⟨fun hm => ?_, nd⟩
    obtain ⟨o, e⟩ := reps.reps.there q hm
    rw [hq] at e; cases e
  · rcases List.mem_cons.mp z.2 with z | z
    · exact .inr (z ▸ hq)
    · exact .inl z
  · obtain ⟨h1, h2, h3⟩ := pure z
    exact ⟨h1, h2, h3.trans (same_upd hq)⟩
end
def cutL {α : Type} (xs : List α) (lo hi : Option Int) : List α := (xs.drop (HT.sIx xs.length 0 lo)).take (HT.sIx xs.length xs.length hi - HT.sIx xs.length 0 lo)
def semSl (lo hi : Option Int) : Val → Option Val
 | .lst _ xs => if fzs xs = true then some (.lst true (cutL xs lo hi)) else none
 | .tup xs => if fzs xs = true then some (.tup (cutL xs lo hi)) else none
 | .str z => if z.length ≤ 16777216 then some (.str (cutS z lo hi)) else none
 | _ => none
def rSlV (K : PySem.W.Frag) : V → Option Int → Option Int → Hp → VK → Prop := fun x lo hi H Q => rSlL K x lo hi H Q ∨ (rSlA K x lo hi H Q ∨ rSlS x lo hi H Q)
section
variable {G : Gam} {X : Cx}
theorem sl_any (hK : X.K = G.K) : SlR X (rSlV G.K) := by
 rw [← hK]
 exact sl_list.or (sl_tupA.or sl_str)
theorem Reps.inv0 {W : Addr → Prop} {H : Hp} {ys : List V} {v : Val} {vs : List Val} (r : Reps G W H ys (v :: vs) []) : ∃ x xs, ys = x :: xs ∧ Rep G W H x v [] ∧ Reps G W H xs vs [] := by
 generalize hO : ([] : List Addr) = O at r
 cases r with
 | @cons x _ xs' _ O1 O2 r t =>
  have := hO.symm
  simp at this
  obtain ⟨e1, e2⟩ := this
  subst e1 e2
  exact ⟨x, xs', rfl, r, t⟩
theorem Reps.drop {W : Addr → Prop} {H : Hp} : ∀ (n : Nat) {xs : List V} {vs : List Val}, Reps G W H xs vs [] → Reps G W H (xs.drop n) (vs.drop n) []
 | 0, _, _, r => r
 | n + 1, _, [], r => by cases r; exact .nil
 | n + 1, _, v :: vs, r => by
  obtain ⟨x, xs, rfl, _, t⟩ := r.inv0
  exact Reps.drop n t
theorem Reps.take {W : Addr → Prop} {H : Hp} : ∀ (n : Nat) {xs : List V} {vs : List Val}, Reps G W H xs vs [] → Reps G W H (xs.take n) (vs.take n) []
 | 0, _, _, r => .nil
 | n + 1, _, [], r => by cases r; exact .nil
 | n + 1, _, v :: vs, r => by
  obtain ⟨x, xs, rfl, q, t⟩ := r.inv0
  exact .cons (O := []) (O' := []) q (Reps.take n t)
theorem Reps.cut {W : Addr → Prop} {H : Hp} {xs : List V} {vs : List Val} (r : Reps G W H xs vs []) (lo hi : Option Int) : Reps G W H (cutV xs lo hi) (cutL vs lo hi) [] := by
 unfold cutV cutL
 rw [r.length]
 exact Reps.take _ (Reps.drop _ r)
theorem cut_whole {α : Type} {xs : List α} {lo hi : Option Int} (h : HT.sIx xs.length 0 lo = 0 ∧ HT.sIx xs.length xs.length hi = xs.length) : cutL xs lo hi = xs := by
 unfold cutL
 rw [h.1, h.2]
 simp
theorem ok_sl {W : Addr → Prop} {H : Hp} {x : V} {v u : Val} {O : List Addr} {lo hi : Option Int} {Q : VK} (w : ∀ p, W p → ∃ o, H p = some o) (r : Rep G W H x v O) (hs : semSl lo hi v = some u) (m : Made G W H u Q) : rSlV G.K x lo hi H Q := by
 unfold semSl at hs
 split at hs
 · split at hs
   · rename_i hf
     cases hs
     obtain ⟨a, ys, O1, rfl, e1, q1⟩ := rep_lstL r
     exact .inl ⟨a, ys, rfl, .inl (.inl e1), m.lst ((q1.fz hf).cut lo hi)⟩
   · cases hs
 · split at hs
   · rename_i hf
     cases hs
     obtain ⟨a, ys, rfl, e1, q1⟩ := rep_tupT r
     refine .inr (.inl ⟨a, ys, rfl, e1, fun z => ?_, fun z => m.tup ((q1.fz hf).cut lo hi) (fresh_nw w)⟩)
     rw [q1.length] at z
     rw [cut_whole z] at m
     exact m.same (r.fz' (by simpa [Val.fz] using hf))
   · cases hs
 · split at hs
   · rename_i hz
     cases hs
     cases r
     exact .inr (.inr ⟨_, rfl, sz_le hz, m.same (.str _)⟩)
   · cases hs
 · cases hs
def semSlL : List Val → Option Val
 | [v, .int i] => semSl (some i) none v
 | _ => none
variable {E : WX} {e a b : Expr} {pos p2' : Pos} {p s p1 s1 p2 s2 : Bool} {m m1 m2 : ME}
theorem ve_slL (hK : X.K = G.K) (h : VE G X E p s e m) (h1 : VE G X E p1 s1 a m1) (wf : (s || p1) = true := by rfl) : VE G X E (p && p1) true (.Subscript e (.Slice (some a) none none p2') pos) (mFun semSlL [m, m1]) := by
 have := ve_fun (G := G) (E := E) (os := [⟨p, s, m⟩, ⟨p1, s1, m1⟩]) (pe_slice (pos := pos) (p2 := p2') (sl_any hK) h (po_some h1) po_none) (r := fun xs H Q => match xs with
  | [x, y] => ∃ i, y = .int i ∧ rSlV G.K x (some i) none H Q
  | _ => False) (fun σ H Q z => z) (sem := semSlL) (fun W H xs vs Ol v Q w r hs mk => by
   unfold semSlL at hs
   split at hs
   · obtain ⟨x, y, O, O', rfl, r1, r2⟩ := r.inv2
     cases r2
     exact ⟨_, rfl, ok_sl w r1 hs mk⟩
   · cases hs) (wf2 wf)
 simpa using this
theorem rd_mono {p s : Bool} {m : ME} {σ : L2.St} {H : Hp} {P P' : V → Hp → Prop} (h : rd G E p s m σ H P) (k : ∀ x H', P x H' → P' x H') : rd G E p s m σ H P' := by
 obtain ⟨R, ρ, Os, rel, post⟩ := h
 refine ⟨R, ρ, Os, rel, ?_⟩
 cases hm : m ρ with
 | bad => rw [hm] at post; exact post
 | exc e ρ' => rw [hm] at post; exact post
 | ok v ρ' =>
  rw [hm] at post
  exact fun x H' Os' O rel' rep nd keep pure => k _ _ (post _ H' Os' O rel' rep nd keep pure)
end
end VL
namespace VL
open PySem L2
theorem CallR.or {X : Cx} {f : Value} {r r' : List V → Hp → VK → Prop} (h : CallR X f r) (h' : CallR X f r') : CallR X f (fun xs H Q => r xs H Q ∨ r' xs H Q) := by
 intro pins s σ H xs us Q I rv q
 rcases q with q | q
 · exact h pins s σ H xs us Q I rv q
 · exact h' pins s σ H xs us Q I rv q
def semLen : List Val → Option Val
 | [.str z] => if z.length ≤ 16777216 then some (.int z.length) else none
 | [.lst _ xs] => some (.int xs.length)
 | [.tup xs] => some (.int xs.length)
 | [.wtp xs] => some (.int xs.length)
 | [.scr ns] => some (.int ns.length)
 | [.dct _ .k ks _] => some (.int ks.length)
 | _ => none
def semInt : List Val → Option Val
 | [.int i] => some (.int i)
 | [.bl b] => some (.int (if b then 1 else 0))
 | _ => none
def semStr : List Val → Option Val
 | [.int i] => if i.natAbs.log2 < 1920 then some (.str (toString i)) else none
 | _ => none
def semMax2 : List Val → Option Val
 | [.int i, .int j] => some (.int (if j > i then j else i))
 | _ => none
def semMin2 : List Val → Option Val
 | [.int i, .int j] => some (.int (if j < i then j else i))
 | _ => none
def semRepr : List Val → Option Val
 | [v] => match toD v with
  | some d => if d.showable = true ∧ d.depth ≤ 64 ∧ d.shown.length ≤ 16777216 then some (.str d.shown) else none
  | none => none
 | _ => none
def semList : List Val → Option Val
 | [.lst _ xs] => if fzs xs = true then some (.lst true xs) else none
 | [.tup xs] => if fzs xs = true then some (.lst true xs) else none
 | [.wtp xs] => some (.lst true xs)
 | _ => none
def semTuple : List Val → Option Val
 | [.lst _ xs] => if fzs xs = true then some (.tup xs) else none
 | [.tup xs] => if fzs xs = true then some (.tup xs) else none
 | _ => none
section
variable {G : Gam} {X : Cx}
theorem rep_scr {W : Addr → Prop} {H : Hp} {x : V} {ns : List Int} {O : List Addr} (r : Rep G W H x (.scr ns) O) : ∃ a, x = .ref a ∧ SqL G.K H a (ns.map V.int) := by
 cases r with
 | scr h => exact ⟨_, rfl, h.elim (fun ⟨o, e, _⟩ => Or.inl (Or.inr ⟨o, e⟩)) (fun z => z.elim (fun q => by rcases q with q | ⟨o, q⟩ <;> cases q) .inr)⟩
theorem rep_wtp {W : Addr → Prop} {H : Hp} {x : V} {vs : List Val} {O : List Addr} (r : Rep G W H x (.wtp vs) O) : ∃ a xs, x = .ref a ∧ SqT G.K H a xs ∧ Reps G W H xs vs [] := by
 cases r with
 | wtp h r => exact ⟨_, _, rfl, h.elim (fun q => by rcases q with q | ⟨o, q⟩ <;> cases q) .inr, r⟩
def rLenV (K : PySem.W.Frag) : List V → Hp → VK → Prop := fun xs H Q => (∃ x n, xs = [x] ∧ LenV K x H n ∧ Q (.int n) H) ∨ (∃ (d : Addr) (kvs : List (Key × V)), xs = [.ref d] ∧ Rd H d (.dK kvs) ∧ Q (.int kvs.length) H)
theorem call_lenV (hK : X.K = G.K) : CallR X (.builtin "len") (rLenV G.K) := by
 rw [← hK]
 refine CallR.or call_len ?_
 intro pins s σ H xs us Q I r h
 obtain ⟨d, kvs, e, hd, q⟩ := h
 subst e
 obtain ⟨u1, rfl, r1⟩ := vals1 r
 cases (show u1 = Value.ref d from r1)
 exact d_len I hd fun t s' I' => ⟨.int kvs.length, H, I', ⟨t, rfl⟩, q⟩
theorem ok_len : OkF G (rLenV G.K) semLen := by
 intro W H xs vs Ol v Q w r hs m
 unfold semLen at hs
 split at hs
 · obtain ⟨x, O, rfl, r1⟩ := r.inv1
   split at hs
   · rename_i hz
     cases hs; cases r1
     exact .inl ⟨_, _, rfl, ⟨sz_le hz, rfl⟩, m.same (.int _)⟩
   · cases hs
 · obtain ⟨x, O, rfl, r1⟩ := r.inv1
   cases hs
   obtain ⟨a, ys, O1, rfl, e1, q1⟩ := rep_lstL r1
   exact .inl ⟨_, _, rfl, .inl ⟨ys, .inl (.inl e1), q1.length.symm⟩, m.same (.int _)⟩
 · obtain ⟨x, O, rfl, r1⟩ := r.inv1
   cases hs
   obtain ⟨a, ys, rfl, e1, q1⟩ := rep_tupT r1
   exact .inl ⟨_, _, rfl, .inr ⟨ys, e1, q1.length.symm⟩, m.same (.int _)⟩
 · obtain ⟨x, O, rfl, r1⟩ := r.inv1
   cases hs
   obtain ⟨a, ys, rfl, e1, q1⟩ := rep_wtp r1
   exact .inl ⟨_, _, rfl, .inr ⟨ys, e1, q1.length.symm⟩, m.same (.int _)⟩
 · obtain ⟨x, O, rfl, r1⟩ := r.inv1
   cases hs
   obtain ⟨a, rfl, e1⟩ := rep_scr r1
   exact .inl ⟨_, _, rfl, .inl ⟨_, e1, by simp⟩, m.same (.int _)⟩
 · obtain ⟨x, O, rfl, r1⟩ := r.inv1
   cases hs
   cases r1 with
   | dkO h hk q => exact .inr ⟨_, _, rfl, .inl h, m.same (by rw [hk, List.length_map]; exact .int _)⟩
   | dkF h hk q => exact .inr ⟨_, _, rfl, h.1, m.same (by rw [hk, List.length_map]; exact .int _)⟩
 · cases hs
theorem ok_int : OkF G (fun xs H Q => (∃ i, xs = [.int i] ∧ Q (.int i) H) ∨ ∃ k, xs = [.bl k] ∧ Q (.int (if k then 1 else 0)) H) semInt := by
 intro W H xs vs Ol v Q w r hs m
 unfold semInt at hs
 split at hs
 · obtain ⟨x, O, rfl, r1⟩ := r.inv1
   cases hs; cases r1
   exact .inl ⟨_, rfl, m.same (.int _)⟩
 · obtain ⟨x, O, rfl, r1⟩ := r.inv1
   cases hs; cases r1
   exact .inr ⟨_, rfl, m.same (.int _)⟩
 · cases hs
theorem ok_max2 : OkF G (fun xs H Q => ∃ i j : Int, xs = [.int i, .int j] ∧ Q (.int (if j > i then j else i)) H) semMax2 := by
 intro W H xs vs Ol v Q w r hs m
 unfold semMax2 at hs
 split at hs
 · obtain ⟨x, y, O, O', rfl, r1, r2⟩ := r.inv2
   cases r1; cases r2; cases hs
   exact ⟨_, _, rfl, m.same (.int _)⟩
 · cases hs
theorem ok_min2 : OkF G (fun xs H Q => ∃ i j : Int, xs = [.int i, .int j] ∧ Q (.int (if j < i then j else i)) H) semMin2 := by
 intro W H xs vs Ol v Q w r hs m
 unfold semMin2 at hs
 split at hs
 · obtain ⟨x, y, O, O', rfl, r1, r2⟩ := r.inv2
   cases r1; cases r2; cases hs
   exact ⟨_, _, rfl, m.same (.int _)⟩
 · cases hs
def rReprD (K : PySem.W.Frag) : List V → Hp → VK → Prop := fun xs H Q => ∃ x d, xs = [x] ∧ Dp K H x d ∧ d.showable = true ∧ d.depth ≤ 64 ∧ d.shown.length ≤ sizeLine ∧ Q (.str d.shown) H
mutual
theorem dp_hasDict {K : PySem.W.Frag} {H : Hp} {x : V} {d : PyData} (h : Dp K H x d) : d.hasDict = false := by
 cases h with
 | non => rfl
 | bl b => rfl
 | int i => rfl
 | str x => rfl
 | lst hs r => simp only [PyData.hasDict]; exact dp_hasDictAll r
 | tup hs r => simp only [PyData.hasDict]; exact dp_hasDictAll r
theorem dp_hasDictAll {K : PySem.W.Frag} {H : Hp} {xs : List V} {ds : List PyData} (h : DpAll K H xs ds) : PyData.hasDictAll ds = false := by
 cases h with
 | nil => simp [PyData.hasDictAll]
 | cons h t => simp only [PyData.hasDictAll]; rw [dp_hasDict h, dp_hasDictAll t]; rfl
end
theorem call_reprD (hK : X.K = G.K) (hg : X.A.guards = some []) (hu : X.A.units + 70 < cLine) : CallR X (.builtin "repr") (rReprD G.K) := by
 rw [← hK]
 intro pins s σ H xs us Q I r h
 obtain ⟨x, d, rfl, dp, hs, hd, hz, q⟩ := h
 obtain ⟨u, rfl, rx⟩ := vals1 r
 have fin : ∀ (h' : Heap) (u : Tok) (tk : Nat), (∀ b o, s.heap.get? b = some o → h'.get? b = some o) → EP X pins σ Q (.str d.shown u) { s with heap := h', toks := tk } := fun h' u tk k => ⟨.str d.shown, H, I.kept k, ⟨_, rfl⟩, q⟩
 cases dp with
 | non => cases rx; exact PySem.P.repr_of_none (fin s.heap _ _ fun _ _ e => e)
 | bl b => cases rx; exact PySem.P.repr_of_bool (fin s.heap _ _ fun _ _ e => e)
 | int i =>
  obtain ⟨t, rfl⟩ := rx
  exact PySem.P.repr_of_int (by simpa [PyData.showable] using hs) (fin s.heap _ _ fun _ _ e => e)
 | str y =>
  obtain ⟨t, rfl⟩ := rx
  exact PySem.P.repr_of_str (fin s.heap _ _ fun _ _ e => e) (by simpa [PyData.shown] using hz)
 | @lst a ys ds hs' r' =>
  cases (show u = Value.ref a from rx)
  obtain ⟨as, rd⟩ := Dp.reads I (.list ds) (.ref a) (.ref a) (.lst hs' r') rfl
  have hn := dp_hasDict (K := X.K) (H := H) (x := .ref a) (.lst hs' r')
  exact PySem.repr_of_reads' rd hs (fun z => by rw [hn] at z; cases z) hg (by omega) (fun _ _ e => e) fin hz
 | @tup a ys ds hs' r' =>
  cases (show u = Value.ref a from rx)
  obtain ⟨as, rd⟩ := Dp.reads I (.tuple ds) (.ref a) (.ref a) (.tup hs' r') rfl
  have hn := dp_hasDict (K := X.K) (H := H) (x := .ref a) (.tup hs' r')
  exact PySem.repr_of_reads' rd hs (fun z => by rw [hn] at z; cases z) hg (by omega) (fun _ _ e => e) fin hz
theorem ok_repr : OkF G (rReprD G.K) semRepr := by
 intro W H xs vs Ol v Q w r hs m
 unfold semRepr at hs
 split at hs
 · obtain ⟨x, O, rfl, r1⟩ := r.inv1
   split at hs
   · rename_i d hd
     split at hs
     · rename_i h
       cases hs
       exact ⟨x, d, rfl, r1.dp hd, h.1, h.2.1, sz_le h.2.2, m.same (.str _)⟩
     · cases hs
   · cases hs
 · cases hs
theorem ok_list (hK : X.K = G.K) : OkF G (fun xs H Q => ∃ p ys, xs = [.ref p] ∧ (SqL X.K H p ys ∨ SqT X.K H p ys) ∧ ∀ l, H l = none → Q (.ref l) (upd H l (.lst ys))) semList := by
 rw [hK]
 intro W H xs vs Ol v Q w r hs m
 unfold semList at hs
 split at hs
 · obtain ⟨x, O, rfl, r1⟩ := r.inv1
   split at hs
   · rename_i hf
     cases hs
     obtain ⟨a, ys, O1, rfl, e1, q1⟩ := rep_lstL r1
     exact ⟨a, ys, rfl, .inl (.inl (.inl e1)), m.lst (q1.fz hf)⟩
   · cases hs
 · obtain ⟨x, O, rfl, r1⟩ := r.inv1
   split at hs
   · rename_i hf
     cases hs
     obtain ⟨a, ys, rfl, e1, q1⟩ := rep_tupT r1
     exact ⟨a, ys, rfl, .inr e1, m.lst (q1.fz hf)⟩
   · cases hs
 · obtain ⟨x, O, rfl, r1⟩ := r.inv1
   cases hs
   obtain ⟨a, ys, rfl, e1, q1⟩ := rep_wtp r1
   exact ⟨a, ys, rfl, .inr e1, m.lst q1⟩
 · cases hs
theorem ok_tuple (hK : X.K = G.K) : OkF G (fun xs H Q => ∃ p ys, xs = [.ref p] ∧ ((SqL X.K H p ys ∧ ∀ l, H l = none → Q (.ref l) (upd H l (.tup ys))) ∨ (SqT X.K H p ys ∧ Q (.ref p) H))) semTuple := by
 rw [hK]
 intro W H xs vs Ol v Q w r hs m
 unfold semTuple at hs
 split at hs
 · obtain ⟨x, O, rfl, r1⟩ := r.inv1
   split at hs
   · rename_i hf
     cases hs
     obtain ⟨a, ys, O1, rfl, e1, q1⟩ := rep_lstL r1
     exact ⟨a, ys, rfl, .inl ⟨.inl (.inl e1), m.tup (q1.fz hf) (fresh_nw w)⟩⟩
   · cases hs
 · obtain ⟨x, O, rfl, r1⟩ := r.inv1
   split at hs
   · rename_i hf
     cases hs
     obtain ⟨a, ys, rfl, e1, q1⟩ := rep_tupT r1
     exact ⟨a, ys, rfl, .inr ⟨e1, m.same (r1.fz' (by simpa [Val.fz] using hf))⟩⟩
   · cases hs
 · cases hs
end
def tyName : Val → Option String
 | .non => some "NoneType" | .bl _ => some "bool" | .int _ => some "int" | .str _ => some "str"
 | .tup _ => some "tuple" | .wtp _ => some "tuple" | .lst _ _ => some "list" | .scr _ => some "list" | .dct _ .k _ _ => some "dict" | .dct _ .t _ _ => some "dict"
 | _ => none
structure IsiFacts (G : Gam) (sub : Nat → Nat → Bool) : Prop where
 own : ∀ n C m D, G.cn n = some C → G.cn m = some D → PySem.W.kitOne G.K (.ref C) (.ref D) = some (sub n m)
 toOwn : ∀ t m D, t ∈ ["NoneType", "bool", "int", "str", "tuple", "list", "dict"] → G.cn m = some D → PySem.W.kitOne G.K (.type t) (.ref D) = some false
 ofOwn : ∀ n C t, t ∈ ["NoneType", "bool", "int", "str", "tuple", "list", "dict"] → G.cn n = some C → PySem.W.kitOne G.K (.ref C) (.type t) = some false
 cls : ∀ n C, G.cn n = some C → Cls G.K C ∧ PySem.W.findIn G.K (.ref C) "__class__" = some (some (.builtin "object.__class__")) ∧ PySem.W.specialIn G.K (.builtin "object.__class__") "__get__" = some (some (.builtin "getset_descriptor.__get__")) ∧
  PySem.W.takesIn G.K (.builtin "object.__class__") = some true ∧ PySem.W.mroIn G.K C (.type "object") = some true
def isiB (t u : String) : Option Bool := if t ∈ ["NoneType", "bool", "int", "str", "tuple", "list", "dict"] ∧ u ∈ ["bool", "int", "str", "tuple", "list", "dict"] then some (t == u || (t == "bool" && u == "int")) else none
def semIsi (sub : Nat → Nat → Bool) : List Val → Option Val
 | [.obj _ n _ _, .cn m] => some (.bl (sub n m))
 | [.obj _ n _ _, .ty u] => if u ∈ ["NoneType", "bool", "int", "str", "tuple", "list", "dict"] then some (.bl false) else none
 | [v, .cn _] => match tyName v with
  | some t => some (.bl false)
  | none => none
 | [v, .ty u] => match tyName v with
  | some t => (isiB t u).map Val.bl
  | none => none
 | _ => none
theorem tyName_mem {v : Val} {t : String} (h : tyName v = some t) : t ∈ ["NoneType", "bool", "int", "str", "tuple", "list", "dict"] := by
 unfold tyName at h
 split at h <;> first | (cases h; decide) | cases h
theorem isiB_ok {K : PySem.W.Frag} {t u : String} {b : Bool} (h : isiB t u = some b) : PySem.W.kitOne K (.type t) (.type u) = some b := by
 unfold isiB at h
 split at h
 · rename_i hm
   cases h
   refine kit_ty ?_
   have all : ∀ t ∈ ["NoneType", "bool", "int", "str", "tuple", "list", "dict"], ∀ u ∈ ["bool", "int", "str", "tuple", "list", "dict"], kitB t u = some (t == u || (t == "bool" && u == "int")) := by decide +kernel
   exact all t hm.1 u hm.2
 · cases h
section
variable {G : Gam} {X : Cx}
theorem rep_tyX {W : Addr → Prop} {H : Hp} {x : V} {v : Val} {O : List Addr} {t : String} (r : Rep G W H x v O) (h : tyName v = some t) : TyX G.K H x (.type t) := by
 cases r with
 | non => simp [tyName] at h; subst h; exact .base .non
 | bl b => simp [tyName] at h; subst h; exact .base (.bl b)
 | int i => simp [tyName] at h; subst h; exact .base (.int i)
 | str s => simp [tyName] at h; subst h; exact .base (.str s)
 | tup h' r => simp [tyName] at h; subst h; exact .base (.tup h'.1)
 | wtp h' r =>
  simp [tyName] at h; subst h
  rcases h' with q | ⟨o, its, n, e, c, _⟩
  · rcases q with q | ⟨o, q⟩ <;> cases q
  · exact .kTuple e c
 | lstO h' r => simp [tyName] at h; subst h; exact .base (.lst h')
 | lstF h' r => simp [tyName] at h; subst h; exact .base (.lst h'.1)
 | scr h' =>
  simp [tyName] at h; subst h
  rcases h' with ⟨o, e, _⟩ | q | ⟨o, its, n, e, c, _⟩
  · exact .base (.frz e)
  · rcases q with q | ⟨o, q⟩ <;> cases q
  · exact .kList e c
 | dkO h' hk r => simp [tyName] at h; subst h; exact .base (.dK h')
 | dkF h' hk r =>
  simp [tyName] at h; subst h
  rcases h'.1 with e | ⟨o, e⟩
  · exact .base (.dK e)
  · exact .fDict e
 | dtO h' hk r => simp [tyName] at h; subst h; exact .base (.dT h')
 | dtF h' hk r => simp [tyName] at h; subst h; exact .base (.dT h'.1)
 | _ => simp [tyName] at h
theorem rep_obj {W : Addr → Prop} {H : Hp} {x : V} {o : Bool} {n : Nat} {ns : List Str} {vs : List Val} {O : List Addr} (r : Rep G W H x (.obj o n ns vs) O) : ∃ a C dx fs, x = .ref a ∧ H a = some (.ins C dx fs) ∧ G.cn n = some C ∧ ns = fs.map (·.1) := by
 cases r with
 | objO h hc hn r => exact ⟨_, _, _, _, rfl, h, hc, hn⟩
 | objF h hc hn r => exact ⟨_, _, _, _, rfl, h.1, hc, hn⟩
theorem ok_isi {sub : Nat → Nat → Bool} (F : IsiFacts G sub) : OkF G (rIsi G.K) (semIsi sub) := by
 intro W H xs vs Ol v Q w r hs m
 unfold semIsi at hs
 split at hs
 · obtain ⟨x, y, O, O', rfl, r1, r2⟩ := r.inv2
   cases r2 with
   | cn hc =>
    cases hs
    obtain ⟨a, C, dx, fs, rfl, e, hC, _⟩ := rep_obj r1
    obtain ⟨c1, c2, c3, c4, c5⟩ := F.cls _ C hC
    exact ⟨_, _, _, _, _, rfl, .own _, .base (.ins e c1 c2 c3 c4 c5), F.own _ C _ _ hC hc, m.same (.bl _)⟩
 · obtain ⟨x, y, O, O', rfl, r1, r2⟩ := r.inv2
   split at hs
   · rename_i hu
     cases hs
     cases r2
     obtain ⟨a, C, dx, fs, rfl, e, hC, _⟩ := rep_obj r1
     obtain ⟨c1, c2, c3, c4, c5⟩ := F.cls _ C hC
     exact ⟨_, _, _, _, _, rfl, .ty _, .base (.ins e c1 c2 c3 c4 c5), F.ofOwn _ C _ hu hC, m.same (.bl _)⟩
   · cases hs
 · obtain ⟨x, y, O, O', rfl, r1, r2⟩ := r.inv2
   split at hs
   · rename_i t ht
     cases hs
     cases r2 with
     | cn hc => exact ⟨_, _, _, _, _, rfl, .own _, rep_tyX r1 ht, F.toOwn t _ _ (tyName_mem ht) hc, m.same (.bl _)⟩
   · cases hs
 · obtain ⟨x, y, O, O', rfl, r1, r2⟩ := r.inv2
   split at hs
   · rename_i t ht
     cases r2
     cases hb : isiB t _ with
     | none => rw [hb] at hs; cases hs
     | some b =>
      rw [hb] at hs
      cases hs
      exact ⟨_, _, _, _, _, rfl, .ty _, rep_tyX r1 ht, isiB_ok hb, m.same (.bl _)⟩
   · cases hs
 · cases hs
end
end VL
namespace VL
open PySem L2
inductive Arg where
 | v (o : Op) | r (i : Nat) | k (x : V) (u : Val)
def vals : List Arg → List Op
 | [] => []
 | .v o :: as => o :: vals as
 | .r _ :: as => vals as
 | .k _ _ :: as => vals as
def slotOk (ρ : VEnv) (i : Nat) : Bool := match ρ[i]? with
 | some (some _) => true
 | _ => false
def refsOk (ρ : VEnv) : List Arg → Bool
 | [] => true
 | .r i :: as => slotOk ρ i && refsOk ρ as
 | _ :: as => refsOk ρ as
def nestG (G : Gam) (E : WX) : List Arg → L2.St → Hp → (List V → Hp → Prop) → Prop
 | [], _, H, K => K [] H
 | .v o :: as, σ, H, K => rd G E o.p o.s o.m σ H fun x H1 => nestG G E as σ H1 fun xs H2 => K (x :: xs) H2
 | .r i :: as, σ, H, K => ∃ x, σ[i]? = some (some x) ∧ nestG G E as σ H fun xs H2 => K (x :: xs) H2
 | .k x _ :: as, σ, H, K => nestG G E as σ H fun xs H2 => K (x :: xs) H2
def at0 (σ : L2.St) (i : Nat) : V := match σ[i]? with
 | some (some x) => x
 | _ => .non
def merge (σ : L2.St) : List Arg → List V → List V
 | [], _ => []
 | .v _ :: as, x :: xs => x :: merge σ as xs
 | .v _ :: as, [] => .non :: merge σ as []
 | .r i :: as, xs => at0 σ i :: merge σ as xs
 | .k x _ :: as, xs => x :: merge σ as xs
def fill : List Arg → VEnv → List Val → Option (List Val × VEnv)
 | [], ρ, [] => some ([], ρ)
 | [], _, _ :: _ => none
 | .v _ :: as, ρ, v :: vs => match fill as ρ vs with
  | some (us, ρ') => some (v :: us, ρ')
  | none => none
 | .v _ :: _, _, [] => none
 | .r i :: as, ρ, vs => match ρ[i]? with
  | some (some v) => (match fill as (ρ.set i none) vs with
   | some (us, ρ') => some (v :: us, ρ')
   | none => none)
  | _ => none
 | .k _ u :: as, ρ, vs => match fill as ρ vs with
  | some (us, ρ') => some (u :: us, ρ')
  | none => none
def back : List Arg → VEnv → VEnv → VEnv
 | [], _, ρ => ρ
 | _ :: _, [], ρ => ρ
 | .r i :: as, some f :: fs, ρ => back as fs (ρ.set i (some f))
 | _ :: as, _ :: fs, ρ => back as fs ρ
abbrev MF := List Val → RE
def mCall (mf : MF) (as : List Arg) : ME := fun ρ => if refsOk ρ as = true then (match evalM ((vals as).map Op.m) ρ with
 | .ok vs ρ1 => (match fill as ρ1 vs with
  | some (us, ρ2) => (match mf us with
   | .ok v fs => .ok v (back as fs ρ2)
   | .exc e fs => .exc e (back as fs ρ2)
   | .bad => .bad)
  | none => .bad)
 | .exc e ρ1 => .exc e ρ1
 | .bad => .bad) else .bad
def spV (G : Gam) (n : Nat) (mf : MF) : Sp := fun xs H Q E => xs.length = n ∧ ∃ R vs Oa, Rel G R H (xs.map some) (vs.map some) Oa ∧ Post G R (fun c d _ H => E c d H) (xs.map some) H Oa false true (vs.map some) Q (mf vs)
def noRefs : List Arg → Bool
 | [] => true
 | .r _ :: _ => false
 | _ :: as => noRefs as
def argsP : List Arg → Bool
 | [] => true
 | .v o :: as => o.p && argsP as
 | .r _ :: _ => false
 | .k _ _ :: as => argsP as
def Dfl (G : Gam) : List Arg → Prop
 | [] => True
 | .k x u :: as => (∀ W H, Rep G W H x u []) ∧ Dfl G as
 | _ :: as => Dfl G as
section
variable {G : Gam} {E : WX} {σ : L2.St}
theorem nestG_of {as : List Arg} : ∀ {ρ : VEnv} {H : Hp} {K : List V → Hp → Prop}, (∀ (i : Nat) (v : Val), ρ[i]? = some (some v) → ∃ x, σ[i]? = some (some x)) → refsOk ρ as = true → nest G E (vals as) σ H (fun xs H' => K (merge σ as xs) H') → nestG G E as σ H K := by
 induction as with
 | nil => intro ρ H K hs ok h; exact h
 | cons a as ih =>
  intro ρ H K hs ok h
  cases a with
  | v o => exact rd_mono h fun x H1 h1 => ih hs ok h1
  | k x u => exact ih hs ok h
  | r i =>
   simp only [refsOk, Bool.and_eq_true] at ok
   obtain ⟨o1, o2⟩ := ok
   unfold slotOk at o1
   split at o1
   · rename_i v hv
     obtain ⟨x, hx⟩ := hs i v hv
     refine ⟨x, hx, ih hs o2 ?_⟩
     have e : at0 σ i = x := by unfold at0; rw [hx]
     have h' : nest G E (vals as) σ H (fun xs H' => K (merge σ (.r i :: as) xs) H') := h
     simpa only [merge, e] using h'
   · cases o1
theorem nestG_app {as : List Arg} {ks : List (V × Val)} : ∀ {H : Hp} {K : List V → Hp → Prop}, nestG G E (as ++ ks.map fun p => Arg.k p.1 p.2) σ H K → nestG G E as σ H (fun xs H' => K (xs ++ ks.map (·.1)) H') := by
 induction as with
 | nil =>
  intro H K h
  simp only [List.nil_append] at h
  unfold nestG
  induction ks generalizing K with
  | nil => exact h
  | cons k ks ih => simpa using ih h
 | cons a as ih =>
  intro H K h
  cases a with
  | v o => exact rd_mono h fun x H1 h1 => by simpa using ih h1
  | r i => obtain ⟨x, hx, h⟩ := h; exact ⟨x, hx, by simpa using ih h⟩
  | k x u =>
   unfold nestG
   have := ih (K := fun xs H' => K (x :: xs) H') h
   simpa using this
structure Held (G : Gam) (R : Addr → Prop) (H : Hp) (σ : L2.St) (ρ : VEnv) (Os : Nat → List Addr) (xs : List V) (vs : List Val) (Ol : List (List Addr)) : Prop where
 rel : Rel G (fun a => R a ∨ a ∈ Ol.flatten) H σ ρ Os
 rep : RepL G (WW (fun a => R a ∨ a ∈ Ol.flatten) Os) H xs vs Ol
 nd : Ol.flatten.Nodup
 nr : ∀ a ∈ Ol.flatten, ¬ R a
theorem setEq {p q : Addr → Prop} (h : ∀ a, p a ↔ q a) : p = q := funext fun a => propext (h a)
theorem Held.fill {as : List Arg} (df : Dfl G as) : ∀ {R : Addr → Prop} {H : Hp} {ρ ρ' : VEnv} {Os : Nat → List Addr} {xs : List V} {vs us : List Val} {Ol : List (List Addr)}, Held G R H σ ρ Os xs vs Ol → VL.fill as ρ vs = some (us, ρ') →
    ∃ Os' Ul, Held G R H σ ρ' Os' (merge σ as xs) us Ul ∧ (∀ a, (We Os' a ∨ a ∈ Ul.flatten) ↔ (We Os a ∨ a ∈ Ol.flatten)) ∧ (noRefs as = true → ρ' = ρ ∧ Os' = Os) := by
 induction as with
 | nil =>
  intro R H ρ ρ' Os xs vs us Ol h e
  cases vs with
  | cons v vs => simp [VL.fill] at e
  | nil =>
   simp only [VL.fill, Option.some.injEq, Prod.mk.injEq] at e
   obtain ⟨rfl, rfl⟩ := e
   obtain ⟨h1, h2, h3, h4⟩ := h
   cases h2
   exact ⟨Os, [], ⟨h1, .nil, h3, h4⟩, fun a => Iff.rfl, fun _ => ⟨rfl, rfl⟩⟩
 | cons a as ih =>
  intro R H ρ ρ' Os xs vs us Ol h e
  cases a with
  | v o =>
   cases vs with
   | nil => simp [VL.fill] at e
   | cons v vs =>
    simp only [VL.fill] at e
    cases hf : VL.fill as ρ vs with
    | none => rw [hf] at e; cases e
    | some p =>
     obtain ⟨us', ρ2⟩ := p
     rw [hf] at e
     simp only [Option.some.injEq, Prod.mk.injEq] at e
     obtain ⟨rfl, rfl⟩ := e
     obtain ⟨h1, h2, h3, h4⟩ := h
     cases h2 with
     | @cons x _ O xs' _ Ol' r t =>
      rw [List.flatten_cons] at h1 r t h3 h4
      have s1 : (fun a => R a ∨ a ∈ O ++ Ol'.flatten) = fun a => (R a ∨ a ∈ O) ∨ a ∈ Ol'.flatten := setEq fun a => by rw [List.mem_append]; exact or_assoc.symm
      obtain ⟨n1, n2, n3⟩ := List.nodup_append.mp h3
      rw [s1] at h1 r t
      have H' : Held G (fun a => R a ∨ a ∈ O) H σ ρ Os xs' vs Ol' := ⟨h1, t, n2, fun a ha z => z.elim (h4 a (List.mem_append_right _ ha)) fun z => n3 a z a ha rfl⟩
      obtain ⟨Os', Ul, g, eqv, nrf⟩ := ih df H' hf
      have s2 : (fun a => (R a ∨ a ∈ O) ∨ a ∈ Ul.flatten) = fun a => R a ∨ a ∈ (O :: Ul).flatten := setEq fun a => by rw [List.flatten_cons, List.mem_append]; exact or_assoc
      have s3 : WW (fun a => (R a ∨ a ∈ O) ∨ a ∈ Ol'.flatten) Os = WW (fun a => (R a ∨ a ∈ O) ∨ a ∈ Ul.flatten) Os' := setEq fun a => by
       unfold WW
       have := eqv a
       constructor
       · rintro ((z | z) | z)
         · exact .inl (.inl z)
         · exact (this.mpr (.inr z)).elim .inr fun z => .inl (.inr z)
         · exact (this.mpr (.inl z)).elim .inr fun z => .inl (.inr z)
       · rintro ((z | z) | z)
         · exact .inl (.inl z)
         · exact (this.mp (.inr z)).elim .inr fun z => .inl (.inr z)
         · exact (this.mp (.inl z)).elim .inr fun z => .inl (.inr z)
      rw [s3] at r
      obtain ⟨g1, g2, g3, g4⟩ := g
      rw [s2] at g1 g2 r
      refine ⟨Os', O :: Ul, ⟨g1, .cons r g2, ?_, fun a ha => ?_⟩, fun a => ?_, nrf⟩
      · rw [List.flatten_cons]
        exact List.nodup_append.mpr ⟨n1, g3, fun a ha b hb e => g4 b hb (.inr (e ▸ ha))⟩
      · rw [List.flatten_cons] at ha
        rcases List.mem_append.mp ha with z | z
        · exact h4 a (List.mem_append_left _ z)
        · exact fun q => g4 a z (.inl q)
      · rw [List.flatten_cons, List.flatten_cons, List.mem_append, List.mem_append]
        have := eqv a
        constructor
        · rintro (z | z | z)
          · exact (this.mp (.inl z)).imp id .inr
          · exact .inr (.inl z)
          · exact (this.mp (.inr z)).imp id .inr
        · rintro (z | z | z)
          · exact (this.mpr (.inl z)).imp id .inr
          · exact .inr (.inl z)
          · exact (this.mpr (.inr z)).imp id .inr
  | k x u =>
   simp only [VL.fill] at e
   cases hf : VL.fill as ρ vs with
   | none => rw [hf] at e; cases e
   | some p =>
    obtain ⟨us', ρ2⟩ := p
    rw [hf] at e
    simp only [Option.some.injEq, Prod.mk.injEq] at e
    obtain ⟨rfl, rfl⟩ := e
    obtain ⟨Os', Ul, g, eqv, nrf⟩ := ih df.2 h hf
    obtain ⟨g1, g2, g3, g4⟩ := g
    refine ⟨Os', [] :: Ul, ⟨by simpa using g1, by simpa [merge] using RepL.cons (df.1 _ _) g2, by simpa using g3, by simpa using g4⟩, by simpa using eqv, nrf⟩
  | r i =>
   simp only [VL.fill] at e
   cases hv : ρ[i]? with
   | none => rw [hv] at e; cases e
   | some q =>
    cases q with
    | none => rw [hv] at e; cases e
    | some v =>
     rw [hv] at e
     dsimp only at e
     cases hf : VL.fill as (ρ.set i none) vs with
     | none => rw [hf] at e; cases e
     | some p =>
      obtain ⟨us', ρ2⟩ := p
      rw [hf] at e
      simp only [Option.some.injEq, Prod.mk.injEq] at e
      obtain ⟨rfl, rfl⟩ := e
      obtain ⟨h1, h2, h3, h4⟩ := h
      obtain ⟨x, hx, rel', rep⟩ := h1.take hv
      have weq : ∀ a, (We (fun j => if j = i then [] else Os j) a ∨ a ∈ Os i) ↔ We Os a := fun a => by
       constructor
       · rintro (⟨j, z⟩ | z)
         · by_cases hj : j = i
           · simp [hj] at z
           · simp only [hj, if_false] at z; exact ⟨j, z⟩
         · exact ⟨i, z⟩
       · rintro ⟨j, z⟩
         by_cases hj : j = i
         · exact .inr (hj ▸ z)
         · exact .inl ⟨j, by simp only [hj, if_false]; exact z⟩
      have s1 : (fun a => (R a ∨ a ∈ Ol.flatten) ∨ a ∈ Os i) = fun a => (R a ∨ a ∈ Os i) ∨ a ∈ Ol.flatten := setEq fun a => by
       constructor
       · rintro ((z | z) | z)
         · exact .inl (.inl z)
         · exact .inr z
         · exact .inl (.inr z)
       · rintro ((z | z) | z)
         · exact .inl (.inl z)
         · exact .inr z
         · exact .inl (.inr z)
      have s0 : WW (fun a => R a ∨ a ∈ Ol.flatten) Os = WW (fun a => (R a ∨ a ∈ Os i) ∨ a ∈ Ol.flatten) (fun j => if j = i then [] else Os j) := setEq fun a => by
       unfold WW
       rw [← weq a]
       constructor
       · rintro ((z | z) | z | z)
         · exact .inl (.inl (.inl z))
         · exact .inl (.inr z)
         · exact .inr z
         · exact .inl (.inl (.inr z))
       · rintro (((z | z) | z) | z)
         · exact .inl (.inl z)
         · exact .inr (.inr z)
         · exact .inl (.inr z)
         · exact .inr (.inl z)
      rw [s1] at rel' rep
      rw [s0] at h2
      have H' : Held G (fun a => R a ∨ a ∈ Os i) H σ (ρ.set i none) (fun j => if j = i then [] else Os j) xs vs Ol := ⟨rel', h2, h3, fun a ha z => z.elim (h4 a ha) fun z => h1.dr i a z (.inr ha)⟩
      obtain ⟨Os', Ul, g, eqv, nrf⟩ := ih df H' hf
      obtain ⟨g1, g2, g3, g4⟩ := g
      have s2 : (fun a => (R a ∨ a ∈ Os i) ∨ a ∈ Ul.flatten) = fun a => R a ∨ a ∈ (Os i :: Ul).flatten := setEq fun a => by rw [List.flatten_cons, List.mem_append]; exact or_assoc
      have s3 : WW (fun a => (R a ∨ a ∈ Os i) ∨ a ∈ Ol.flatten) (fun j => if j = i then [] else Os j) = WW (fun a => (R a ∨ a ∈ Os i) ∨ a ∈ Ul.flatten) Os' := setEq fun a => by
       unfold WW
       have := eqv a
       constructor
       · rintro ((z | z) | z)
         · exact .inl (.inl z)
         · exact (this.mpr (.inr z)).elim .inr fun z => .inl (.inr z)
         · exact (this.mpr (.inl z)).elim .inr fun z => .inl (.inr z)
       · rintro ((z | z) | z)
         · exact .inl (.inl z)
         · exact (this.mp (.inr z)).elim .inr fun z => .inl (.inr z)
         · exact (this.mp (.inl z)).elim .inr fun z => .inl (.inr z)
      rw [s3] at rep
      rw [s2] at g1 g2 rep
      have ea : at0 σ i = x := by unfold at0; rw [hx]
      refine ⟨Os', Os i :: Ul, ⟨g1, ?_, ?_, fun a ha => ?_⟩, fun a => ?_, fun z => by cases z⟩
      · unfold merge
        rw [ea]
        exact .cons rep g2
      · rw [List.flatten_cons]
        exact List.nodup_append.mpr ⟨h1.nd i, g3, fun a ha b hb e => g4 b hb (.inr (e ▸ ha))⟩
      · rw [List.flatten_cons] at ha
        rcases List.mem_append.mp ha with z | z
        · exact fun q => h1.dr i a z (.inl q)
        · exact fun q => g4 a z (.inl q)
      · rw [List.flatten_cons, List.mem_append, ← weq a]
        have := eqv a
        constructor
        · rintro (z | z | z)
          · exact (this.mp (.inl z)).imp .inl id
          · exact .inl (.inr z)
          · exact (this.mp (.inr z)).imp .inl id
        · rintro ((z | z) | z)
          · exact (this.mpr (.inl z)).imp id .inr
          · exact .inr (.inl z)
          · exact (this.mpr (.inr z)).imp id .inr
theorem flat_get : ∀ {Ul : List (List Addr)} {i : Nat} {a : Addr}, a ∈ Ul.getD i [] → a ∈ Ul.flatten
 | [], i, a, h => by simp at h
 | O :: Ul, 0, a, h => by rw [List.flatten_cons]; exact List.mem_append_left _ (by simpa using h)
 | O :: Ul, i + 1, a, h => by rw [List.flatten_cons]; exact List.mem_append_right _ (flat_get (i := i) (by simpa using h))
theorem get_flat : ∀ {Ul : List (List Addr)} {a : Addr}, a ∈ Ul.flatten → ∃ i, a ∈ Ul.getD i []
 | [], a, h => by simp at h
 | O :: Ul, a, h => by
  rw [List.flatten_cons] at h
  rcases List.mem_append.mp h with z | z
  · exact ⟨0, by simpa using z⟩
  · obtain ⟨i, q⟩ := get_flat z
    exact ⟨i + 1, by simpa using q⟩
theorem flat_nd : ∀ {Ul : List (List Addr)} {i : Nat}, Ul.flatten.Nodup → (Ul.getD i []).Nodup
 | [], i, _ => by simp
 | O :: Ul, 0, h => by rw [List.flatten_cons] at h; simpa using (List.nodup_append.mp h).1
 | O :: Ul, i + 1, h => by rw [List.flatten_cons] at h; simpa using flat_nd (i := i) (List.nodup_append.mp h).2.1
theorem flat_dj : ∀ {Ul : List (List Addr)} {i j : Nat} {a : Addr}, Ul.flatten.Nodup → a ∈ Ul.getD i [] → a ∈ Ul.getD j [] → i = j
 | [], i, j, a, _, h, _ => by simp at h
 | O :: Ul, 0, 0, a, _, _, _ => rfl
 | O :: Ul, 0, j + 1, a, h, h1, h2 => by
  rw [List.flatten_cons] at h
  exact absurd rfl ((List.nodup_append.mp h).2.2 a (by simpa using h1) a (flat_get (i := j) (by simpa using h2)))
 | O :: Ul, i + 1, 0, a, h, h1, h2 => by
  rw [List.flatten_cons] at h
  exact absurd rfl ((List.nodup_append.mp h).2.2 a (by simpa using h2) a (flat_get (i := i) (by simpa using h1)))
 | O :: Ul, i + 1, j + 1, a, h, h1, h2 => by
  rw [List.flatten_cons] at h
  exact congrArg (· + 1) (flat_dj (i := i) (j := j) (List.nodup_append.mp h).2.1 (by simpa using h1) (by simpa using h2))
theorem RepL.get {W : Addr → Prop} {H : Hp} {xs : List V} {vs : List Val} {Ol : List (List Addr)} (r : RepL G W H xs vs Ol) : ∀ {i : Nat} {v : Val}, vs[i]? = some v → ∃ x, xs[i]? = some x ∧ Rep G W H x v (Ol.getD i []) := by
 induction r with
 | nil => intro i v h; simp at h
 | cons r t ih =>
  intro i v h
  cases i with
  | zero => simp at h; subst h; exact ⟨_, List.getElem?_cons_zero, by simpa using r⟩
  | succ i => obtain ⟨x, e, q⟩ := ih (i := i) (by simpa using h); exact ⟨x, by simpa using e, by simpa using q⟩
theorem Held.view {R : Addr → Prop} {H : Hp} {ρ : VEnv} {Os : Nat → List Addr} {xs : List V} {us : List Val} {Ul : List (List Addr)} (h : Held G R H σ ρ Os xs us Ul) :
    Rel G (fun a => R a ∨ We Os a) H (xs.map some) (us.map some) (fun j => Ul.getD j []) := by
 have wf : ∀ a, We (fun j => Ul.getD j []) a ↔ a ∈ Ul.flatten := fun a => ⟨fun ⟨i, z⟩ => flat_get z, fun z => get_flat z⟩
 have hw : WW (fun a => R a ∨ a ∈ Ul.flatten) Os = WW (fun a => R a ∨ We Os a) (fun j => Ul.getD j []) := setEq fun a => by
  unfold WW
  rw [wf a]
  constructor
  · rintro ((z | z) | z)
    · exact .inl (.inl z)
    · exact .inr z
    · exact .inl (.inr z)
  · rintro ((z | z) | z)
    · exact .inl (.inl z)
    · exact .inr z
    · exact .inl (.inr z)
 obtain ⟨h1, h2, h3, h4⟩ := h
 rw [hw] at h2
 obtain ⟨l1, l2⟩ := h2.len
 refine ⟨by simp [l1], fun i v hv => ?_, fun i hi => ?_, fun i => flat_nd h3, fun i j a ha hb => flat_dj h3 ha hb, fun i a ha z => ?_, fun a z => ?_⟩
 · rw [List.getElem?_map] at hv
   cases e : us[i]? with
   | none => rw [e] at hv; cases hv
   | some u =>
    rw [e] at hv
    cases hv
    obtain ⟨x, e1, r⟩ := h2.get e
    exact ⟨x, by rw [List.getElem?_map, e1]; rfl, r⟩
 · have : us.length ≤ i := by
     by_cases q : i < us.length
     · exact absurd (by rw [List.getElem?_map, List.getElem?_eq_getElem q]; rfl) (hi us[i])
     · omega
   show Ul.getD i [] = []
   rw [List.getD_eq_getElem?_getD, List.getElem?_eq_none (by omega)]
   rfl
 · rcases z with z | z
   · exact h4 a (flat_get ha) z
   · exact h1.nr (.inr (flat_get ha)) z
 · exact z.elim (fun z => h1.rt a (.inl z)) fun z => h1.we z
theorem Rel.tail {R : Addr → Prop} {H : Hp} {x : Option V} {xs : L2.St} {f : Option Val} {fs : VEnv} {Oa : Nat → List Addr} (r : Rel G R H (x :: xs) (f :: fs) Oa) : Rel G (fun a => R a ∨ a ∈ Oa 0) H xs fs (fun j => Oa (j + 1)) := by
 have we : ∀ a, WW R Oa a ↔ WW (fun a => R a ∨ a ∈ Oa 0) (fun j => Oa (j + 1)) a := fun a => by
  constructor
  · rintro (z | ⟨i, z⟩)
    · exact .inl (.inl z)
    · cases i with
      | zero => exact .inl (.inr z)
      | succ i => exact .inr ⟨i, z⟩
  · rintro ((z | z) | ⟨i, z⟩)
    · exact .inl z
    · exact .inr ⟨0, z⟩
    · exact .inr ⟨i + 1, z⟩
 have hw := setEq we
 refine ⟨by have := r.len; simpa using this, fun i v hv => ?_, fun i hi => r.nil (i + 1) fun v hv => hi v (by simpa using hv), fun i => r.nd (i + 1), fun i j a ha hb => by have := r.dj (i + 1) (j + 1) a ha hb; omega, fun i a ha z => ?_, fun a z => ?_⟩
 · obtain ⟨y, e, q⟩ := r.rep (i + 1) v (by simpa using hv)
   exact ⟨y, by simpa using e, by rw [← hw]; exact q⟩
 · rcases z with z | z
   · exact r.dr (i + 1) a ha z
   · have := r.dj (i + 1) 0 a ha z; omega
 · exact z.elim (r.rt a) fun z => r.there a z
theorem back_of {as : List Arg} : ∀ {R : Addr → Prop} {H : Hp} {ρ : VEnv} {Os Oa : Nat → List Addr} {xs : List V} {ys : L2.St} {fs : VEnv}, Rel G (fun a => R a ∨ We Oa a) H σ ρ Os → (∀ a, R a → ¬ We Oa a) → Rel G (fun a => R a ∨ We Os a) H ((merge σ as xs).map some ++ ys) fs Oa → refsOk (σ.map fun o => o.map fun _ => Val.non) as = true → (∀ i, Arg.r i ∈ as → i < ρ.length) →
    ∃ Os', Rel G R H σ (back as fs ρ) Os' ∧ (∀ a, We Os' a → We Os a ∨ We Oa a) ∧ (noRefs as = true → back as fs ρ = ρ ∧ Os' = Os) := by
 induction as with
 | nil => intro R H ρ Os Oa xs ys fs h hd c ok il; exact ⟨Os, h.weak fun a z => .inl z, fun a z => .inl z, fun _ => ⟨rfl, rfl⟩⟩
 | cons a as ih =>
  intro R H ρ Os Oa xs ys fs h hd c ok il
  cases fs with
  | nil => have := c.len; cases a <;> cases xs <;> simp [merge] at this
  | cons f fs =>
   obtain ⟨x, xs', e, ex⟩ : ∃ x xs', merge σ (a :: as) xs = x :: merge σ as xs' ∧ ∀ i, a = .r i → x = at0 σ i := by
    cases a with
    | v o => cases xs with
     | nil => exact ⟨_, [], rfl, fun i z => by cases z⟩
     | cons x xs => exact ⟨x, xs, rfl, fun i z => by cases z⟩
    | r i => exact ⟨_, xs, rfl, fun j z => by cases z; rfl⟩
    | k x u => exact ⟨x, xs, rfl, fun i z => by cases z⟩
   rw [e] at c
   have il' : ∀ i, Arg.r i ∈ as → i < ρ.length := fun i hi => il i (List.mem_cons_of_mem _ hi)
   have ok' : refsOk (σ.map fun o => o.map fun _ => Val.non) as = true := by
    cases a with
    | v o => exact ok
    | k x u => exact ok
    | r i => simp only [refsOk, Bool.and_eq_true] at ok; exact ok.2
   have sW : ∀ a, We Oa a ↔ (a ∈ Oa 0 ∨ We (fun j => Oa (j + 1)) a) := fun a => by
    constructor
    · rintro ⟨i, z⟩
      cases i with
      | zero => exact .inl z
      | succ i => exact .inr ⟨i, z⟩
    · rintro (z | ⟨i, z⟩)
      · exact ⟨0, z⟩
      · exact ⟨i + 1, z⟩
   have drop : ∃ Os', Rel G R H σ (back as fs ρ) Os' ∧ (∀ a, We Os' a → We Os a ∨ We Oa a) ∧ (noRefs as = true → back as fs ρ = ρ ∧ Os' = Os) := by
    obtain ⟨Os', h1, h2, h3⟩ := ih (R := R) (ρ := ρ) (Os := Os) (Oa := fun j => Oa (j + 1)) (h.weak fun a z => z.imp id fun z => (sW a).mpr (.inr z)) (fun a z q => hd a z ((sW a).mpr (.inr q))) (c.tail.weak fun a z => .inl z) ok' il'
    exact ⟨Os', h1, fun a z => (h2 a z).imp id fun z => (sW a).mpr (.inr z), h3⟩
   cases a with
   | v o => cases f <;> exact drop
   | k x u => cases f <;> exact drop
   | r i =>
    cases f with
    | none =>
     obtain ⟨Os', h1, h2, h3⟩ := drop
     exact ⟨Os', h1, h2, fun z => by cases z⟩
    | some u =>
     obtain ⟨y, ey, ru⟩ := c.rep 0 u rfl
     have ey' : x = y := by simpa using ey
     subst ey'
     have s1 : (fun a => R a ∨ We Oa a) = fun a => (R a ∨ We (fun j => Oa (j + 1)) a) ∨ a ∈ Oa 0 := setEq fun a => by
      rw [sW a]
      constructor
      · rintro (z | z | z)
        · exact .inl (.inl z)
        · exact .inr z
        · exact .inl (.inr z)
      · rintro ((z | z) | z)
        · exact .inl z
        · exact .inr (.inr z)
        · exact .inr (.inl z)
     rw [s1] at h
     have s2 : WW (fun a => R a ∨ We Os a) Oa = WW (fun a => (R a ∨ We (fun j => Oa (j + 1)) a) ∨ a ∈ Oa 0) Os := setEq fun a => by
      unfold WW
      rw [sW a]
      constructor
      · rintro ((z | z) | z | z)
        · exact .inl (.inl (.inl z))
        · exact .inr z
        · exact .inl (.inr z)
        · exact .inl (.inl (.inr z))
      · rintro (((z | z) | z) | z)
        · exact .inl (.inl z)
        · exact .inr (.inr z)
        · exact .inr (.inl z)
        · exact .inl (.inr z)
     rw [s2] at ru
     have hi := il i List.mem_cons_self
     have put := h.put ru (c.nd 0) hi (fun a ha z => z.elim (fun z => hd a z ⟨0, ha⟩) fun ⟨j, z⟩ => by have := c.dj 0 (j + 1) a ha z; omega)
     have es : σ.set i (some x) = σ := by
      have hx := ex i rfl
      have ok1 : slotOk (σ.map fun o => o.map fun _ => Val.non) i = true := by simp only [refsOk, Bool.and_eq_true] at ok; exact ok.1
      unfold slotOk at ok1
      unfold at0 at hx
      rw [List.getElem?_map] at ok1
      cases q : σ[i]? with
      | none => rw [q] at ok1; cases ok1
      | some o =>
       cases o with
       | none => rw [q] at ok1; cases ok1
       | some y =>
        rw [q] at hx
        simp only at hx
        subst hx
        apply List.ext_getElem?
        intro j
        by_cases hj : j = i
        · subst hj
          rw [List.getElem?_set_self (by have := (List.getElem?_eq_some_iff.mp q).1; exact this), q]
        · rw [List.getElem?_set_ne (Ne.symm hj)]
     rw [es] at put
     have weq : ∀ a, We (fun j => if j = i then Oa 0 else Os j) a → We Os a ∨ a ∈ Oa 0 := fun a ⟨j, z⟩ => by
      by_cases hj : j = i
      · simp only [hj, if_true] at z; exact .inr z
      · simp only [hj, if_false] at z; exact .inl ⟨j, z⟩
     obtain ⟨Os', h1, h2, h3⟩ := ih (R := R) (ρ := ρ.set i (some u)) (Oa := fun j => Oa (j + 1)) put (fun a z q => hd a z ((sW a).mpr (.inr q))) (c.tail.weak fun a z => z.elim (fun z => .inl (.inl z)) fun z => (weq a z).elim (fun z => .inl (.inr z)) .inr) ok' (fun j hj => by rw [List.length_set]; exact il' j hj)
     refine ⟨Os', h1, fun a z => ?_, fun z => by cases z⟩
     rcases h2 a z with z | z
     · exact (weq a z).imp id fun z => (sW a).mpr (.inl z)
     · exact .inr ((sW a).mpr (.inr z))
theorem refs_some {as : List Arg} {ρ : VEnv} (hs : ∀ (i : Nat) (v : Val), ρ[i]? = some (some v) → ∃ x, σ[i]? = some (some x)) (ok : refsOk ρ as = true) : refsOk (σ.map fun o => o.map fun _ => Val.non) as = true := by
 induction as with
 | nil => rfl
 | cons a as ih =>
  cases a with
  | v o => exact ih ok
  | k x u => exact ih ok
  | r i =>
   simp only [refsOk, Bool.and_eq_true] at ok ⊢
   refine ⟨?_, ih ok.2⟩
   have o1 := ok.1
   unfold slotOk at o1 ⊢
   split at o1
   · rename_i v hv
     obtain ⟨x, hx⟩ := hs i v hv
     rw [List.getElem?_map, hx]
     rfl
   · cases o1
theorem refs_lt {as : List Arg} {ρ : VEnv} (ok : refsOk ρ as = true) : ∀ i, Arg.r i ∈ as → i < ρ.length := by
 induction as with
 | nil => intro i h; cases h
 | cons a as ih =>
  intro i h
  cases a with
  | v o => rcases List.mem_cons.mp h with z | z
           · cases z
           · exact ih ok i z
  | k x u => rcases List.mem_cons.mp h with z | z
             · cases z
             · exact ih ok i z
  | r j =>
   simp only [refsOk, Bool.and_eq_true] at ok
   rcases List.mem_cons.mp h with z | z
   · cases z
     have o1 := ok.1
     unfold slotOk at o1
     split at o1
     · rename_i v hv
       exact (List.getElem?_eq_some_iff.mp hv).1
     · cases o1
   · exact ih ok.2 i z
theorem fill_len : ∀ {as : List Arg} {ρ ρ' : VEnv} {vs us : List Val}, fill as ρ vs = some (us, ρ') → us.length = as.length ∧ ρ'.length = ρ.length
 | [], ρ, ρ', vs, us, h => by
  cases vs with
  | nil => simp only [fill, Option.some.injEq, Prod.mk.injEq] at h; obtain ⟨rfl, rfl⟩ := h; exact ⟨rfl, rfl⟩
  | cons v vs => simp [fill] at h
 | .v o :: as, ρ, ρ', vs, us, h => by
  cases vs with
  | nil => simp [fill] at h
  | cons v vs =>
   simp only [fill] at h
   cases hf : fill as ρ vs with
   | none => rw [hf] at h; cases h
   | some p => obtain ⟨a, b⟩ := p; rw [hf] at h; simp only [Option.some.injEq, Prod.mk.injEq] at h; obtain ⟨rfl, rfl⟩ := h; obtain ⟨h1, h2⟩ := fill_len hf; exact ⟨by simp [h1], h2⟩
 | .k x u :: as, ρ, ρ', vs, us, h => by
  simp only [fill] at h
  cases hf : fill as ρ vs with
  | none => rw [hf] at h; cases h
  | some p => obtain ⟨a, b⟩ := p; rw [hf] at h; simp only [Option.some.injEq, Prod.mk.injEq] at h; obtain ⟨rfl, rfl⟩ := h; obtain ⟨h1, h2⟩ := fill_len hf; exact ⟨by simp [h1], h2⟩
 | .r i :: as, ρ, ρ', vs, us, h => by
  simp only [fill] at h
  cases hv : ρ[i]? with
  | none => rw [hv] at h; cases h
  | some q =>
   cases q with
   | none => rw [hv] at h; cases h
   | some v =>
    rw [hv] at h
    dsimp only at h
    cases hf : fill as (ρ.set i none) vs with
    | none => rw [hf] at h; cases h
    | some p => obtain ⟨a, b⟩ := p; rw [hf] at h; simp only [Option.some.injEq, Prod.mk.injEq] at h; obtain ⟨rfl, rfl⟩ := h; obtain ⟨h1, h2⟩ := fill_len hf; exact ⟨by simp [h1], by simpa using h2⟩
theorem argsP_iff : ∀ {as : List Arg}, argsP as = true → noRefs as = true ∧ (vals as).all (·.p) = true
 | [], _ => ⟨rfl, rfl⟩
 | .v o :: as, h => by
  simp only [argsP, Bool.and_eq_true] at h
  obtain ⟨h1, h2⟩ := argsP_iff h.2
  exact ⟨h1, by simp [vals, h.1, h2]⟩
 | .k x u :: as, h => argsP_iff (as := as) h
 | .r i :: as, h => by cases h
theorem call_of {as : List Arg} {mf : MF} (df : Dfl G as) (hs : (vals as).all (·.s) = true) {H : Hp} {Q : VK} {n : Nat} (hn : as.length = n) (h : rd G E (argsP as) true (mCall mf as) σ H Q) : nestG G E as σ H (fun xs H1 => spV G n mf xs H1 Q (WE E σ)) := by
 obtain ⟨R, ρ, Os, rel, post⟩ := h
 unfold mCall at post
 by_cases ok : refsOk ρ as = true
 rotate_left
 · rw [if_neg ok] at post; exact post.elim
 rw [if_pos ok] at post
 refine nestG_of (ρ := ρ) (fun i v hv => let ⟨x, hx, _⟩ := rel.rep i v hv; ⟨x, hx⟩) ok (nest_of (wf_all hs) rel ?_)
 rw [evalA_eq]
 cases he : evalM ((vals as).map Op.m) ρ with
 | bad => rw [he] at post; exact post
 | exc e ρ' => rw [he] at post; exact post
 | ok vs ρ1 =>
  rw [he] at post
  dsimp only at post
  cases hf : fill as ρ1 vs with
  | none => rw [hf] at post; exact post.elim
  | some q =>
   obtain ⟨us, ρ2⟩ := q
   rw [hf] at post
   dsimp only at post
   intro xs H1 Os1 Ol rel1 reps nd1 keep1 pure1
   have hlen := reps.len
   have hv := evalM_len he
   rw [List.length_map] at hv
   have es := stab_all hs (hv.symm.trans hlen.2)
   rw [es] at rel1 nd1 reps keep1
   have hnr : ∀ a ∈ Ol.flatten, ¬ R a := fun a ha z => by
    obtain ⟨o, e⟩ := rel.rt a z
    obtain ⟨_, _, n⟩ := keep1 a o e (rel.nr z)
    exact n ha
   obtain ⟨Os2, Ul, held, eqv, nrf⟩ := Held.fill df ⟨rel1, reps, nd1, hnr⟩ hf
   have view := held.view
   have wf : ∀ a, We (fun j => Ul.getD j []) a ↔ a ∈ Ul.flatten := fun a => ⟨fun ⟨i, z⟩ => flat_get z, fun z => get_flat z⟩
   have mlen : (merge σ as xs).length = n := by
    have := held.rep.len.1
    rw [this, (fill_len hf).1, hn]
   refine ⟨mlen, fun a => R a ∨ We Os2 a, us, fun j => Ul.getD j [], view, ?_⟩
   have okσ : refsOk (σ.map fun o => o.map fun _ => Val.non) as = true := refs_some (fun i v hv => let ⟨x, hx, _⟩ := rel.rep i v hv; ⟨x, hx⟩) ok
   have il : ∀ i, Arg.r i ∈ as → i < ρ2.length := fun i hi => by
    have l1 := rel.len
    have l2 := held.rel.len
    rw [← l2, l1]
    exact refs_lt ok i hi
   /- behind the callee: the caller's names, O what is left over -/
   have after : ∀ {O : List Addr} {s : Bool} {H2 : Hp} {Oa2 : Nat → List Addr} {fs : VEnv}, Rel G (Rp (fun a => R a ∨ We Os2 a) s O) H2 ((merge σ as xs).map some) fs Oa2 → KeepE H1 (fun j => Ul.getD j []) H2 Oa2 (fun a => s = true ∧ a ∈ O) →
       ∃ Os3, Rel G (Rp R s O) H2 σ (back as fs ρ2) Os3 ∧ (∀ a, We Os3 a → We Os2 a ∨ We Oa2 a) ∧ (noRefs as = true → back as fs ρ2 = ρ2 ∧ Os3 = Os2) ∧ KeepE H Os H2 Os3 (fun a => s = true ∧ a ∈ O) := by
    intro O s H2 Oa2 fs rel2 k2
    have nWe2 : ∀ a, We Os2 a → ¬ We (fun j => Ul.getD j []) a := fun a z q => view.nr (.inr z) q
    have kept : ∀ a o, H1 a = some o → ¬ a ∈ Ul.flatten → H2 a = some o ∧ ¬ We Oa2 a ∧ ¬ (s = true ∧ a ∈ O) := fun a o e nw => k2 a o e fun z => nw ((wf a).mp z)
    have relC : Rel G (fun a => Rp R s O a ∨ We Oa2 a) H2 σ ρ2 Os2 := by
     have hr := held.rel
     refine ⟨hr.len, fun i v hv => ?_, hr.nil, hr.nd, hr.dj, fun i a ha z => ?_, fun a z => ?_⟩
     · obtain ⟨x, hx, r⟩ := hr.rep i v hv
       refine ⟨x, hx, r.mono (fun a o e nw => ?_) fun a ha o e => (kept a o e fun z => hr.dr i a ha (.inr z)).1⟩
       obtain ⟨e2, n1, n2⟩ := kept a o e fun z => nw (.inl (.inr z))
       refine ⟨e2, fun z => ?_⟩
       rcases z with ((z | z) | z) | z
       · exact nw (.inl (.inl z))
       · exact n2 z
       · exact n1 z
       · exact nw (.inr z)
     · obtain ⟨o, e⟩ := hr.there a ha
       obtain ⟨_, n1, n2⟩ := kept a o e fun z => hr.dr i a ha (.inr z)
       rcases z with (z | z) | z
       · exact hr.dr i a ha (.inl z)
       · exact n2 z
       · exact n1 z
     · rcases z with (z | z) | z
       · exact rel2.rt a (.inl (.inl z))
       · exact rel2.rt a (.inr z)
       · exact rel2.we z
    have rel2' : Rel G (fun a => Rp R s O a ∨ We Os2 a) H2 ((merge σ as xs).map some ++ []) fs Oa2 := by
     rw [List.append_nil]
     exact rel2.weak fun a z => by
      rcases z with (z | z) | z
      · exact .inl (.inl z)
      · exact .inr z
      · exact .inl (.inr z)
    obtain ⟨Os3, r3, w3, n3⟩ := back_of (as := as) relC (fun a z q => by
     rcases z with z | z
     · exact rel2.nr (.inl (.inl z)) q
     · exact rel2.nr (.inr z) q) rel2' okσ il
    refine ⟨Os3, r3, w3, n3, fun a o e nw => ?_⟩
    obtain ⟨e1, m1, m2⟩ := keep1 a o e nw
    have m3 : ¬ (We Os2 a ∨ a ∈ Ul.flatten) := fun z => ((eqv a).mp z).elim m1 m2
    obtain ⟨e2, m4, m5⟩ := kept a o e1 fun z => m3 (.inr z)
    exact ⟨e2, fun z => (w3 a z).elim (fun z => m3 (.inl z)) m4, m5⟩
   cases hm : mf us with
   | bad => rw [hm] at post; exact post
   | exc e fs =>
    rw [hm] at post
    intro c d H2 Oa2 rel2 rx k2
    have e0 : Rp (fun a => R a ∨ We Os2 a) false [] = fun a => R a ∨ We Os2 a := setEq fun a => ⟨fun z => z.elim id (fun z => by cases z.1), .inl⟩
    have e1 : Rp R false [] = R := setEq fun a => ⟨fun z => z.elim id (fun z => by cases z.1), .inl⟩
    obtain ⟨Os3, r3, w3, n3, k3⟩ := after (s := false) (O := []) (by rw [e0]; exact rel2) (k2.imp fun a z => by cases z.1)
    rw [e1] at r3
    refine post c d H2 Os3 r3 (rx.mono fun a o e nw => ⟨e, fun z => nw ?_⟩) (k3.imp fun _ z => z.elim)
    rcases z with z | z
    · exact .inl (.inl z)
    · exact (w3 a z).elim (fun z => .inl (.inr z)) .inr
   | ok v fs =>
    rw [hm] at post
    intro x H2 Oa2 O rel2 rep2 nd2 k2 _
    obtain ⟨Os3, r3, w3, n3, k3⟩ := after rel2 k2
    refine post x H2 Os3 O r3 (rep2.mono (fun a o e nw => ⟨e, fun z => nw ?_⟩) fun _ _ _ e => e) nd2 k3 fun hp => ?_
    · rcases z with (z | z) | z
      · exact .inl (.inl (.inl z))
      · exact .inl (.inr z)
      · exact (w3 a z).elim (fun z => .inl (.inl (.inr z))) .inr
    · obtain ⟨p1, p2⟩ := argsP_iff hp
      obtain ⟨a1, a2, a3⟩ := pure1 p2
      obtain ⟨b1, b2⟩ := nrf p1
      obtain ⟨c1, c2⟩ := n3 p1
      refine ⟨c1.trans (b1.trans a1), c2.trans (b2.trans a2), fun a o e => ?_⟩
      have e1 := a3 a o e
      have hno : ¬ We (fun j => Ul.getD j []) a := fun z => by
       have z' := (wf a).mp z
       by_cases q : We Os a
       · exact held.rel.nr (.inr z') (by rw [b2, a2]; exact q)
       · obtain ⟨_, m1, m2⟩ := keep1 a o e q
         exact ((eqv a).mp (.inr z')).elim m1 m2
      exact (k2 a o e1 hno).1
end
end VL
namespace VL
open PySem L2
inductive RS where
 | nx (ρ : VEnv) | rt (v : Val) (ρ : VEnv) | bk (ρ : VEnv) | ct (ρ : VEnv) | exc (e : Exc) (ρ : VEnv) | bad
abbrev MS := VEnv → RS
def PinB (bs : List Bool) (σ0 σ : L2.St) : Prop := ∀ j : Nat, bs[j]? = some true → σ[j]? = σ0[j]?
theorem PinB.set {bs : List Bool} {σ0 σ : L2.St} (p : PinB bs σ0 σ) {i : Nat} {x : Option V} (h : bs[i]? ≠ some true) : PinB bs σ0 (σ.set i x) := fun j hj => by
 by_cases e : i = j
 · subst e; exact absurd hj h
 · rw [List.getElem?_set_ne e]; exact p j hj
def PostS (G : Gam) (R : Addr → Prop) (E : WX) (D : Ends) (bs : List Bool) (σ0 : L2.St) (H : Hp) (Os : Nat → List Addr) : RS → Prop
 | .nx ρ' => ∀ σ' H' Os', PinB bs σ0 σ' → Rel G R H' σ' ρ' Os' → KeepE H Os H' Os' (fun _ => False) → D.nx σ' H'
 | .bk ρ' => ∀ σ' H' Os', PinB bs σ0 σ' → Rel G R H' σ' ρ' Os' → KeepE H Os H' Os' (fun _ => False) → D.bk σ' H'
 | .ct ρ' => ∀ σ' H' Os', PinB bs σ0 σ' → Rel G R H' σ' ρ' Os' → KeepE H Os H' Os' (fun _ => False) → D.ct σ' H'
 | .rt v ρ' => ∀ x σ' H' Os' O, PinB bs σ0 σ' → Rel G (Rp R true O) H' σ' ρ' Os' → Rep G (WW (Rp R true O) Os') H' x v O → O.Nodup → KeepE H Os H' Os' (fun a => true = true ∧ a ∈ O) → D.rt x H'
 | .exc e ρ' => ∀ c d σ' H' Os', PinB bs σ0 σ' → Rel G R H' σ' ρ' Os' → RepX G (WW R Os') H' c d e → KeepE H Os H' Os' (fun _ => False) → E c d σ' H'
 | .bad => False
def tS (G : Gam) (E : WX) (bs : List Bool) (σ0 : L2.St) (m : MS) : TS := fun D σ H => ∃ R ρ Os, Rel G R H σ ρ Os ∧ PinB bs σ0 σ ∧ PostS G R E D bs σ0 H Os (m ρ)
def VS (G : Gam) (X : Cx) (E : WX) (bs : List Bool) (σ0 : L2.St) (st : Stmt) (m : MS) : Prop := PS X st (tS G E bs σ0 m)
def VSs (G : Gam) (X : Cx) (E : WX) (bs : List Bool) (σ0 : L2.St) (st : List Stmt) (m : MS) : Prop := PSs X st (tS G E bs σ0 m)
def mNext : MS := fun ρ => .nx ρ
def mSeq (m1 m2 : MS) : MS := fun ρ => match m1 ρ with
 | .nx ρ' => m2 ρ'
 | r => r
def mDrop (m : ME) : MS := fun ρ => match m ρ with
 | .ok _ ρ' => .nx ρ'
 | .exc e ρ' => .exc e ρ'
 | .bad => .bad
def mRet (m : ME) : MS := fun ρ => match m ρ with
 | .ok v ρ' => .rt v ρ'
 | .exc e ρ' => .exc e ρ'
 | .bad => .bad
def mNever : MS := fun _ => .bad
def mIfS (c : ME) (a b : MS) : MS := fun ρ => match c ρ with
 | .ok (.bl t) ρ' => if t = true then a ρ' else b ρ'
 | .ok _ _ => .bad
 | .exc e ρ' => .exc e ρ'
 | .bad => .bad
def mSet (i : Nat) (m : ME) : MS := fun ρ => match m ρ with
 | .ok v ρ' => if i < ρ'.length then .nx (ρ'.set i (some v)) else .bad
 | .exc e ρ' => .exc e ρ'
 | .bad => .bad
section
variable {G : Gam} {R : Addr → Prop} {E : WX} {D : Ends} {bs : List Bool} {σ0 σ : L2.St} {H H1 : Hp} {Os Os1 : Nat → List Addr} {ρ ρ1 : VEnv}
theorem PostS.later {r : RS} (post : PostS G R E D bs σ0 H Os r) (k : KeepE H Os H1 Os1 fun _ => False) : PostS G R E D bs σ0 H1 Os1 r := by
 cases r with
 | bad => exact post
 | nx ρ' => exact fun σ' H' Os' p r q => post σ' H' Os' p r (k.trans q)
 | bk ρ' => exact fun σ' H' Os' p r q => post σ' H' Os' p r (k.trans q)
 | ct ρ' => exact fun σ' H' Os' p r q => post σ' H' Os' p r (k.trans q)
 | rt v ρ' => exact fun x σ' H' Os' O p r rx nd q => post x σ' H' Os' O p r rx nd (k.trans q)
 | exc e ρ' => exact fun c d σ' H' Os' p r rx q => post c d σ' H' Os' p r rx (k.trans q)
end
section
variable {G : Gam} {X : Cx} {E : WX} {bs : List Bool} {σ0 : L2.St} {e a b c : Expr} {st : Stmt} {rest s1 s2 : List Stmt} {pos : Pos} {p s : Bool} {m : ME} {m1 m2 : MS}
theorem vss_nil : VSs G X E bs σ0 [] mNext := PSs.pre pss_nil fun D σ H ⟨R, ρ, Os, rel, pin, post⟩ => post σ H Os pin rel KeepE.refl
theorem vss_one (h : VS G X E bs σ0 st m1) : VSs G X E bs σ0 [st] m1 := pss_one h
theorem vss_cons (h1 : VS G X E bs σ0 st m1) (h2 : VSs G X E bs σ0 rest m2) : VSs G X E bs σ0 (st :: rest) (mSeq m1 m2) := by
 refine PSs.pre (pss_cons h1 h2) fun D σ H ⟨R, ρ, Os, rel, pin, post⟩ => ⟨R, ρ, Os, rel, pin, ?_⟩
 unfold mSeq at post
 cases hm : m1 ρ with
 | nx ρ' => rw [hm] at post; exact fun σ' H' Os' p r k => ⟨R, ρ', Os', r, p, post.later k⟩
 | bad => rw [hm] at post; exact post
 | bk ρ' => rw [hm] at post; exact post
 | ct ρ' => rw [hm] at post; exact post
 | rt v ρ' => rw [hm] at post; exact post
 | exc e ρ' => rw [hm] at post; exact post
theorem vss_never : VSs G X E bs σ0 rest mNever := PSs.pre pss_never fun D σ H ⟨R, ρ, Os, rel, pin, post⟩ => post
theorem PostS.post {R : Addr → Prop} {D : Ends} {σ : L2.St} {H : Hp} {Os : Nat → List Addr} {ρ : VEnv} {r : RE} {Q : VK} {f : Val → VEnv → RS} (pin : PinB bs σ0 σ)
    (post : PostS G R E D bs σ0 H Os (match (generalizing := false) r with | .ok v ρ' => f v ρ' | .exc e ρ' => .exc e ρ' | .bad => .bad))
    (h : ∀ v ρ' x H' Os' O, r = .ok v ρ' → PostS G R E D bs σ0 H Os (f v ρ') → Rel G (Rp R s O) H' σ ρ' Os' → Rep G (WW (Rp R s O) Os') H' x v O → (s = true → O.Nodup) → KeepE H Os H' Os' (fun a => s = true ∧ a ∈ O) → Q x H') : Post G R E σ H Os p s ρ Q r := by
 cases r with
 | bad => exact post
 | exc e ρ' => exact fun c d H' Os' rel rx k => post c d σ H' Os' pin rel rx k
 | ok v ρ' => exact fun x H' Os' O rel rep nd k _ => h v ρ' x H' Os' O rfl post rel rep nd k
theorem vs_expr (he : VE G X E p s e m) (hs : swapsWith e none pos.line X.env = pure false := by rfl) : VS G X E bs σ0 (.Expr e pos) (mDrop m) := by
 refine PS.pre (ps_expr he hs) fun D σ H ⟨R, ρ, Os, rel, pin, post⟩ => ⟨R, ρ, Os, rel, ?_⟩
 refine PostS.post (f := fun _ ρ' => .nx ρ') pin post fun v ρ' x H' Os' O _ post rel rep nd k => ?_
 exact post σ H' Os' pin (rel.weak fun a z => .inl z) (k.imp fun _ z => z.elim)
theorem vs_ret (he : VE G X E p true e m) : VS G X E bs σ0 (.Return (some e) pos) (mRet m) := by
 refine PS.pre (ps_ret he) fun D σ H ⟨R, ρ, Os, rel, pin, post⟩ => ⟨R, ρ, Os, rel, ?_⟩
 exact PostS.post (f := fun v ρ' => .rt v ρ') pin post fun v ρ' x H' Os' O _ post rel rep nd k => post x σ H' Os' O pin rel rep (nd rfl) k
theorem vs_if (hc : VT G X E p c m) (ha : VSs G X E bs σ0 s1 m1) (hb : VSs G X E bs σ0 s2 m2) : VS G X E bs σ0 (.If c s1 s2 pos) (mIfS m m1 m2) := by
 refine PS.pre (ps_if hc ha hb) fun D σ H ⟨R, ρ, Os, rel, pin, post⟩ => ⟨R, ρ, Os, rel, ?_⟩
 unfold mIfS at post
 cases hm : m ρ with
 | bad => rw [hm] at post; exact post
 | exc e ρ' => rw [hm] at post; exact fun c d H' Os' rel rx k => post c d σ H' Os' pin rel rx k
 | ok v ρ' =>
  rw [hm] at post
  cases v with
  | bl t =>
   intro H' Os' rel k _
   cases t with
   | true => exact ⟨R, ρ', Os', rel, pin, PostS.later post k⟩
   | false => exact ⟨R, ρ', Os', rel, pin, PostS.later post k⟩
  | _ => exact post.elim
theorem set_of {R : Addr → Prop} {D : Ends} {σ : L2.St} {H H' : Hp} {Os Os' : Nat → List Addr} {ρ' : VEnv} {x : V} {v : Val} {O : List Addr} {i : Nat} (relH : Rel G R H σ ρ' Os ∨ True) (hr : ∀ a, R a → ∃ o, H a = some o ∧ ¬ We Os a) (rel : Rel G (Rp R true O) H' σ ρ' Os') (rep : Rep G (WW (Rp R true O) Os') H' x v O) (nd : O.Nodup) (k : KeepE H Os H' Os' (fun a => true = true ∧ a ∈ O)) (hi : i < ρ'.length) :
    ∃ Os2, Rel G R H' (σ.set i (some x)) (ρ'.set i (some v)) Os2 ∧ KeepE H Os H' Os2 (fun _ => False) := by
 have e0 : Rp R true O = fun a => R a ∨ a ∈ O := setEq fun a => ⟨fun z => z.imp id fun z => z.2, fun z => z.imp id fun z => ⟨rfl, z⟩⟩
 rw [e0] at rel rep
 refine ⟨_, rel.put rep nd hi (fun a ha z => ?_), fun a o e nw => ?_⟩
 · obtain ⟨o, e, nw⟩ := hr a z
   exact (k a o e nw).2.2 ⟨rfl, ha⟩
 · obtain ⟨e1, n1, n2⟩ := k a o e nw
   refine ⟨e1, fun ⟨j, z⟩ => ?_, id⟩
   by_cases hj : j = i
   · simp only [hj, if_true] at z; exact n2 ⟨rfl, z⟩
   · simp only [hj, if_false] at z; exact n1 ⟨j, z⟩
theorem Rel.hr {R : Addr → Prop} {σ : L2.St} {H : Hp} {Os : Nat → List Addr} {ρ : VEnv} (rel : Rel G R H σ ρ Os) : ∀ a, R a → ∃ o, H a = some o ∧ ¬ We Os a := fun a z => let ⟨o, e⟩ := rel.rt a z; ⟨o, e, rel.nr z⟩
theorem vs_set {i : Nat} {x : Str} {pos' : Pos} (hN : X.N.Nodup) (hi : X.N[i]? = some x) (hx : Loc X.env.scope x) (he : VE G X E p true e m) (hb : bs[i]? ≠ some true := by decide) (hs : swapsWith e (some (.Name x pos')) pos.line X.env = pure false := by rfl)
    (hf : X.fn x = true ∨ X.env.scope.names.lookup x = some .local := by first | exact .inl rfl | exact .inr rfl | assumption) : VS G X E bs σ0 (.Assign [.Name x pos'] e pos) (mSet i m) := by
 refine PS.pre (ps_set hN hi hx he hs hf) fun D σ H ⟨R, ρ, Os, rel, pin, post⟩ => ⟨R, ρ, Os, rel, ?_⟩
 refine PostS.post (s := true) (f := fun v ρ' => if i < ρ'.length then .nx (ρ'.set i (some v)) else .bad) pin post fun v ρ' x H' Os' O _ post rel' rep nd k => ?_
 by_cases hi' : i < ρ'.length
 · rw [if_pos hi'] at post
   obtain ⟨Os2, r2, k2⟩ := set_of (D := D) (.inr trivial) rel.hr rel' rep (nd rfl) k hi'
   exact post _ _ Os2 (pin.set hb) r2 k2
 · rw [if_neg hi'] at post
   exact post.elim
abbrev MG := Val → VEnv → Option VEnv
abbrev MGs := List Val → VEnv → Option VEnv
def tG (G : Gam) (bs : List Bool) (σ0 : L2.St) (g : MG) : TG := fun x σ H Q => ∃ R ρ Os v O, Rel G (fun a => R a ∨ a ∈ O) H σ ρ Os ∧ Rep G (WW (fun a => R a ∨ a ∈ O) Os) H x v O ∧ O.Nodup ∧ (∀ a ∈ O, ¬ R a) ∧ PinB bs σ0 σ ∧
 (match g v ρ with
  | some ρ' => ∀ σ' Os', PinB bs σ0 σ' → σ'.length = σ.length → Rel G R H σ' ρ' Os' → (∀ a, We Os' a → We Os a ∨ a ∈ O) → Q σ' H
  | none => False)
def tGs (G : Gam) (bs : List Bool) (σ0 : L2.St) (g : MGs) : TGs := fun xs σ H Q => ∃ R ρ Os vs O, Rel G (fun a => R a ∨ a ∈ O) H σ ρ Os ∧ Reps G (WW (fun a => R a ∨ a ∈ O) Os) H xs vs O ∧ O.Nodup ∧ (∀ a ∈ O, ¬ R a) ∧ PinB bs σ0 σ ∧
 (match g vs ρ with
  | some ρ' => ∀ σ' Os', PinB bs σ0 σ' → σ'.length = σ.length → Rel G R H σ' ρ' Os' → (∀ a, We Os' a → We Os a ∨ a ∈ O) → Q σ' H
  | none => False)
def VG (G : Gam) (X : Cx) (bs : List Bool) (σ0 : L2.St) (tg : Expr) (g : MG) : Prop := PG X tg (tG G bs σ0 g)
def VGs (G : Gam) (X : Cx) (bs : List Bool) (σ0 : L2.St) (tg : List Expr) (g : MGs) : Prop := PGs X tg (tGs G bs σ0 g)
theorem PG.pre {X : Cx} {e : Expr} {t t' : TG} (h : PG X e t) (k : ∀ v σ H Q, t' v σ H Q → t v σ H Q) : PG X e t' := ⟨fun pins s σ H v u Q I r q => h.run pins s σ H v u Q I r (k v σ H Q q)⟩
theorem PGs.pre {X : Cx} {e : List Expr} {t t' : TGs} (h : PGs X e t) (k : ∀ v σ H Q, t' v σ H Q → t v σ H Q) : PGs X e t' := ⟨fun pins s σ H v u Q I r q => h.run pins s σ H v u Q I r (k v σ H Q q)⟩
def gV (i : Nat) : MG := fun v ρ => if i < ρ.length then some (ρ.set i (some v)) else none
def gTupV (g : MGs) (n : Nat) : MG := fun v ρ => match v with
 | .tup vs => if vs.length = n then g vs ρ else none
 | .wtp vs => if vs.length = n then g vs ρ else none
 | _ => none
def gNilV : MGs := fun vs ρ => match vs with
 | [] => some ρ
 | _ => none
def gConsV (g : MG) (gs : MGs) : MGs := fun vs ρ => match vs with
 | v :: vs => (match g v ρ with
  | some ρ' => gs vs ρ'
  | none => none)
 | [] => none
theorem vg_name {i : Nat} {x : Str} (hN : X.N.Nodup) (hi : X.N[i]? = some x) (hx : Loc X.env.scope x) (hb : bs[i]? ≠ some true := by decide) (hf : X.fn x = true ∨ X.env.scope.names.lookup x = some .local := by first | exact .inl rfl | exact .inr rfl | assumption) : VG G X bs σ0 (.Name x pos) (gV i) := by
 refine PG.pre (pg_name hN hi hx hf) fun x σ H Q ⟨R, ρ, Os, v, O, rel, rep, nd, nr, pin, post⟩ => ?_
 unfold gV at post
 by_cases hi' : i < ρ.length
 · rw [if_pos hi'] at post
   refine post _ _ (pin.set hb) (by rw [List.length_set]) (rel.put rep nd hi' nr) fun a ⟨j, z⟩ => ?_
   by_cases hj : j = i
   · simp only [hj, if_true] at z; exact .inr z
   · simp only [hj, if_false] at z; exact .inl ⟨j, z⟩
 · rw [if_neg hi'] at post
   exact post.elim
theorem vgs_nil : VGs G X bs σ0 [] gNilV := by
 refine PGs.pre pgs_nil fun xs σ H Q ⟨R, ρ, Os, vs, O, rel, reps, nd, nr, pin, post⟩ => ?_
 unfold gNilV at post
 cases vs with
 | cons v vs => exact post.elim
 | nil =>
  cases reps
  exact ⟨rfl, post σ Os pin rfl (rel.weak fun a z => .inl z) fun a z => .inl z⟩
theorem vgs_cons {es : List Expr} {g : MG} {gs : MGs} (h1 : VG G X bs σ0 e g) (h2 : VGs G X bs σ0 es gs) (hs : (assignEach (e :: es) X.env).map (·.2) = assign e X.env :: (assignEach es X.env).map (·.2) := by rfl) : VGs G X bs σ0 (e :: es) (gConsV g gs) := by
 refine PGs.pre (pgs_cons h1 h2 hs) fun xs σ H Q ⟨R, ρ, Os, vs, O, rel, reps, nd, nr, pin, post⟩ => ?_
 unfold gConsV at post
 cases vs with
 | nil => exact post.elim
 | cons v vs =>
  dsimp only at post
  cases reps with
  | @cons x _ xs' _ O1 O2 r t =>
   obtain ⟨n1, n2, n3⟩ := List.nodup_append.mp nd
   have s1 : (fun a => R a ∨ a ∈ O1 ++ O2) = fun a => (R a ∨ a ∈ O2) ∨ a ∈ O1 := setEq fun a => by
    rw [List.mem_append]
    constructor
    · rintro (z | z | z)
      · exact .inl (.inl z)
      · exact .inr z
      · exact .inl (.inr z)
    · rintro ((z | z) | z)
      · exact .inl z
      · exact .inr (.inr z)
      · exact .inr (.inl z)
   rw [s1] at rel r t
   refine ⟨x, xs', rfl, fun a => R a ∨ a ∈ O2, ρ, Os, v, O1, rel, r, n1, fun a ha z => z.elim (nr a (List.mem_append_left _ ha)) fun z => n3 a ha a z rfl, pin, ?_⟩
   cases hg : g v ρ with
   | none => rw [hg] at post; exact post
   | some ρ' =>
    rw [hg] at post
    dsimp only at post
    intro σ' Os' pin' hl' rel' we'
    have hw : ∀ a, WW (fun a => R a ∨ a ∈ O2) Os' a → WW (fun a => (R a ∨ a ∈ O2) ∨ a ∈ O1) Os a := fun a z => by
     rcases z with z | z
     · exact .inl (.inl z)
     · exact (we' a z).elim .inr fun z => .inl (.inr z)
    refine ⟨R, ρ', Os', vs, O2, rel', t.mono (fun a o e nw => ⟨e, fun z => nw (hw a z)⟩) fun _ _ _ e => e, n2, fun a ha => nr a (List.mem_append_right _ ha), pin', ?_⟩
    cases hgs : gs vs ρ' with
    | none => rw [hgs] at post; exact post
    | some ρ2 =>
     rw [hgs] at post
     intro σ2 Os2 p2 l2 r2 w2
     refine post σ2 Os2 p2 (l2.trans hl') r2 fun a z => ?_
     rcases w2 a z with z | z
     · exact (we' a z).imp id fun z => List.mem_append_left _ z
     · exact .inr (List.mem_append_right _ z)
theorem vg_tup {es : List Expr} {k : Nat} {gs : MGs} {n : Nat} (hK : X.K = G.K) (hc : X.calm = true) (h : VGs G X bs σ0 es gs) (hn : (assignEach es X.env).length = n := by rfl) (hst : (assignEach es X.env).findIdx? (·.1) = none := by rfl) :
    VG G X bs σ0 (.Tuple es k pos) (gTupV gs n) := by
 refine PG.pre (pg_tup hc h hn hst) fun x σ H Q ⟨R, ρ, Os, v, O, rel, rep, nd, nr, pin, post⟩ => ?_
 unfold gTupV at post
 rw [hK]
 cases v with
 | tup vs =>
  dsimp only at post
  by_cases hl : vs.length = n
  · rw [if_pos hl] at post
    obtain ⟨a, xs, rfl, hq, reps⟩ := rep_tupT rep
    exact ⟨a, xs, rfl, hq, by rw [reps.length]; exact hl, R, ρ, Os, vs, O, rel, reps, nd, nr, pin, post⟩
  · rw [if_neg hl] at post
    exact post.elim
 | wtp vs =>
  dsimp only at post
  by_cases hl : vs.length = n
  · rw [if_pos hl] at post
    obtain ⟨a, xs, rfl, hq, reps⟩ := rep_wtp rep
    cases rep
    exact ⟨a, xs, rfl, hq, by rw [reps.length]; exact hl, R, ρ, Os, vs, [], rel, reps, nd, nr, pin, post⟩
  · rw [if_neg hl] at post
    exact post.elim
 | _ => exact post.elim
def mAsg (m : ME) (g : MG) : MS := fun ρ => match m ρ with
 | .ok v ρ' => (match g v ρ' with
  | some ρ2 => .nx ρ2
  | none => .bad)
 | .exc e ρ' => .exc e ρ'
 | .bad => .bad
theorem tG_of {R : Addr → Prop} {σ : L2.St} {H H' : Hp} {Os Os' : Nat → List Addr} {ρ' : VEnv} {x : V} {v : Val} {O : List Addr} {g : MG} {Q : L2.St → Hp → Prop} (hr : ∀ a, R a → ∃ o, H a = some o ∧ ¬ We Os a) (rel : Rel G (Rp R true O) H' σ ρ' Os') (rep : Rep G (WW (Rp R true O) Os') H' x v O) (nd : O.Nodup)
    (k : KeepE H Os H' Os' (fun a => true = true ∧ a ∈ O)) (pin : PinB bs σ0 σ)
    (h : match g v ρ' with
     | some ρ2 => ∀ σ' Os2, PinB bs σ0 σ' → Rel G R H' σ' ρ2 Os2 → KeepE H Os H' Os2 (fun _ => False) → Q σ' H'
     | none => False) : tG G bs σ0 g x σ H' Q := by
 have e0 : Rp R true O = fun a => R a ∨ a ∈ O := setEq fun a => ⟨fun z => z.imp id fun z => z.2, fun z => z.imp id fun z => ⟨rfl, z⟩⟩
 rw [e0] at rel rep
 refine ⟨R, ρ', Os', v, O, rel, rep, nd, fun a ha z => let ⟨o, e, nw⟩ := hr a z; (k a o e nw).2.2 ⟨rfl, ha⟩, pin, ?_⟩
 cases hg : g v ρ' with
 | none => rw [hg] at h; exact h
 | some ρ2 =>
  rw [hg] at h
  exact fun σ' Os2 p _ r w => h σ' Os2 p r fun a o e nw => let ⟨e1, n1, n2⟩ := k a o e nw; ⟨e1, fun z => (w a z).elim n1 fun z => n2 ⟨rfl, z⟩, id⟩
theorem vs_asg {tg : Expr} {g : MG} (he : VE G X E p true e m) (hg : VG G X bs σ0 tg g) (hs : swapsWithSole [tg] e pos.line X.env = pure false := by rfl) (hw : swappedStores [tg] e X.env = pure none := by rfl) (h1 : (assignEach [tg] X.env).map (·.2) = [assign tg X.env] := by rfl) :
    VS G X E bs σ0 (.Assign [tg] e pos) (mAsg m g) := by
 refine PS.pre (ps_asg he hg hs hw h1) fun D σ H ⟨R, ρ, Os, rel, pin, post⟩ => ⟨R, ρ, Os, rel, ?_⟩
 refine PostS.post (s := true) (f := fun v ρ' => match g v ρ' with
  | some ρ2 => .nx ρ2
  | none => .bad) pin post fun v ρ' x H' Os' O _ post rel' rep nd k => ?_
 refine tG_of rel.hr rel' rep (nd rfl) k pin ?_
 cases hg : g v ρ' with
 | none => rw [hg] at post; exact post
 | some ρ2 => rw [hg] at post; exact fun σ' Os2 p r k => post σ' H' Os2 p r k
end
end VL
namespace VL
open PySem L2
def mPar (i j : Nat) (m1 m2 : ME) : MS := fun ρ => match evalM [m1, m2] ρ with
 | .ok [v, w] ρ' => if i < ρ'.length ∧ j < ρ'.length then .nx ((ρ'.set i (some v)).set j (some w)) else .bad
 | .ok _ _ => .bad
 | .exc e ρ' => .exc e ρ'
 | .bad => .bad
section
variable {G : Gam} {X : Cx} {E : WX} {bs : List Bool} {σ0 : L2.St} {e a b c : Expr} {st : Stmt} {rest s1 s2 : List Stmt} {pos : Pos} {p p1 p2 s : Bool} {m m1' m2' : ME} {m1 m2 : MS}
theorem vs_par {i j : Nat} {x y : Str} {px py pt : Pos} {kt k2 : Nat} {pt2 : Pos} (hc : X.calm = true) (hN : X.N.Nodup) (hi : X.N[i]? = some x) (hj : X.N[j]? = some y) (hij : i ≠ j) (hx : X.env.scope.names.lookup x = some .local) (hy : X.env.scope.names.lookup y = some .local)
    (ha : VE G X E p1 true a m1') (hb : VE G X E p2 true b m2') (hw : swappedStores [.Tuple [.Name x px, .Name y py] kt pt] (.Tuple [a, b] k2 pt2) X.env = pure (some [x, y])) (b1 : bs[i]? ≠ some true := by decide) (b2 : bs[j]? ≠ some true := by decide)
    (hs : swapsWithSole [.Tuple [.Name x px, .Name y py] kt pt] (.Tuple [a, b] k2 pt2) pos.line X.env = pure false := by rfl) (hst : starEach [a, b] X.env = (false, eval a X.env) :: starEach [b] X.env := by rfl) (hst2 : starEach [b] X.env = (false, eval b X.env) :: starEach [] X.env := by rfl) :
    VS G X E bs σ0 (.Assign [.Tuple [.Name x px, .Name y py] kt pt] (.Tuple [a, b] k2 pt2) pos) (mPar i j m1' m2') := by
 refine PS.pre (ps_par hc hN hi hj hij hx hy (pa_cons ha (pa_cons hb pa_nil hst2) hst) hw hs) fun D σ H ⟨R, ρ, Os, rel, pin, post⟩ => ?_
 have key := nest_of (G := G) (E := E) (σ := σ) (os := [⟨p1, true, m1'⟩, ⟨p2, true, m2'⟩]) rfl rel (K := fun vs H1 => ∃ v w, vs = [v, w] ∧ D.nx ((σ.set i (some v)).set j (some w)) H1) ?_
 · exact key
 rw [evalA_eq]
 unfold mPar at post
 simp only [List.map_cons, List.map_nil]
 cases he : evalM [m1', m2'] ρ with
 | bad => rw [he] at post; exact post
 | exc e ρ' => rw [he] at post; exact fun c d H' Os' rel rx k => post c d σ H' Os' pin rel rx k
 | ok vs ρ' =>
  rw [he] at post
  intro xs H1 Os1 Ol rel1 reps nd keep _
  match vs, reps, post with
  | [v, w], reps, post =>
   dsimp only at post
   by_cases hl : i < ρ'.length ∧ j < ρ'.length
   rotate_left
   · rw [if_neg hl] at post; exact post.elim
   rw [if_pos hl] at post
   cases reps with
   | @cons x1 _ O1 _ _ _ r1 t =>
    cases t with
    | @cons x2 _ O2 _ _ _ r2 t2 =>
     cases t2
     refine ⟨x1, x2, rfl, ?_⟩
     have es : stab [⟨p1, true, m1'⟩, ⟨p2, true, m2'⟩] [O1, O2] = O1 ++ (O2 ++ []) := rfl
     rw [es, List.append_nil] at rel1 r1 r2 nd keep
     obtain ⟨n1, n2, n3⟩ := List.nodup_append.mp nd
     have nr : ∀ a ∈ O1 ++ O2, ¬ R a := fun a ha z => let ⟨o, e, nw⟩ := rel.hr a z; (keep a o e nw).2.2 ha
     have s1 : (fun a => R a ∨ a ∈ O1 ++ O2) = fun a => (R a ∨ a ∈ O2) ∨ a ∈ O1 := setEq fun a => by
      rw [List.mem_append]
      constructor
      · rintro (z | z | z)
        · exact .inl (.inl z)
        · exact .inr z
        · exact .inl (.inr z)
      · rintro ((z | z) | z)
        · exact .inl z
        · exact .inr (.inr z)
        · exact .inr (.inl z)
     rw [s1] at rel1 r1 r2
     have q1 := rel1.put r1 n1 hl.1 fun a ha z => z.elim (nr a (List.mem_append_left _ ha)) fun z => n3 a ha a z rfl
     have r2' : Rep G (WW (fun a => R a ∨ a ∈ O2) fun j => if j = i then O1 else Os1 j) H1 x2 w O2 := r2.mono (fun a o e nw => ⟨e, fun z => nw (by
      rcases z with z | ⟨j', z⟩
      · exact .inl (.inl z)
      · by_cases hj' : j' = i
        · simp only [hj', if_true] at z; exact .inl (.inr z)
        · simp only [hj', if_false] at z; exact .inr ⟨j', z⟩)⟩) fun _ _ _ e => e
     have q2 := q1.put r2' n2 (i := j) (by rw [List.length_set]; exact hl.2) fun a ha => nr a (List.mem_append_right _ ha)
     refine post _ H1 _ ((pin.set b1).set b2) q2 fun a o e nw => ?_
     obtain ⟨e1, m1, m2⟩ := keep a o e nw
     refine ⟨e1, fun ⟨j', z⟩ => ?_, id⟩
     by_cases h1 : j' = j
     · simp only [h1, if_true] at z; exact m2 (List.mem_append_right _ z)
     · simp only [h1, if_false] at z
       by_cases h2 : j' = i
       · simp only [h2, if_true] at z; exact m2 (List.mem_append_left _ z)
       · simp only [h2, if_false] at z; exact m1 ⟨j', z⟩
def Walk (G : Gam) (W : Addr → Prop) (H : Hp) (J : It) (us : List Val) : Prop :=
 ∀ W' H', Keep W H W' H' → ∀ i, (us.length ≤ i → J.stop i H') ∧ ∀ u, us[i]? = some u → J.go i H' ∧ ∀ x H'', J.yld i H' x H'' → Same H' H'' ∧ ((∀ p, W' p → ∃ o, H' p = some o) → Rep G W' H'' x u [])
inductive RI where
 | ok (us : List Val) (ρ : VEnv) | exc (e : Exc) (ρ : VEnv) | bad
abbrev MI := VEnv → RI
def tI (G : Gam) (E : WX) (m : MI) : TI := fun σ H K => ∃ R ρ Os, Rel G R H σ ρ Os ∧ (match m ρ with
 | .ok us ρ' => ∀ J H' Os', Rel G R H' σ ρ' Os' → Walk G (WW R Os') H' J us → KeepE H Os H' Os' (fun _ => False) → K J H'
 | .exc e ρ' => ∀ c d H' Os', Rel G R H' σ ρ' Os' → RepX G (WW R Os') H' c d e → KeepE H Os H' Os' (fun _ => False) → E c d σ H'
 | .bad => False)
def VI (G : Gam) (X : Cx) (E : WX) (tg iter : Expr) (m : MI) : Prop := PI X tg iter (tI G E m)
theorem PI.pre {tg iter : Expr} {t t' : TI} (h : PI X tg iter t) (k : ∀ σ H K, t' σ H K → t σ H K) : PI X tg iter t' := ⟨fun pins s σ H K I q => h.run pins s σ H K I (k σ H K q)⟩
def forL (g : MG) (body : MS) : List Val → VEnv → RS
 | [], ρ => .nx ρ
 | u :: us, ρ => match g u ρ with
  | none => .bad
  | some ρ1 => match body ρ1 with
   | .nx ρ2 => forL g body us ρ2
   | .ct ρ2 => forL g body us ρ2
   | .bk ρ2 => .nx ρ2
   | .rt v ρ2 => .rt v ρ2
   | .exc e ρ2 => .exc e ρ2
   | .bad => .bad
def mFor (mi : MI) (g : MG) (body : MS) : MS := fun ρ => match mi ρ with
 | .ok us ρ' => forL g body us ρ'
 | .exc e ρ' => .exc e ρ'
 | .bad => .bad
theorem keep_of {R : Addr → Prop} {σ : L2.St} {H H' : Hp} {Os Os' : Nat → List Addr} {ρ : VEnv} (rel : Rel G R H σ ρ Os) (k : KeepE H Os H' Os' fun _ => False) : Keep (WW R Os) H (WW R Os') H' := fun a o e nw =>
 let ⟨e1, n1, _⟩ := k a o e fun z => nw (.inr z)
 ⟨e1, fun z => z.elim (fun z => nw (.inl z)) n1⟩
theorem for_reading {tb : TS} {mi : MI} {g : MG} {mb : MS} {D : Ends} {σ : L2.St} {H : Hp} (htb : tb = tS G E bs σ0 mb) (h : tS G E bs σ0 (mFor mi g mb) D σ H) : tFor (tI G E mi) (tG G bs σ0 g) tb D σ H := by
 subst htb
 obtain ⟨R, ρ, Os, rel, pin, post⟩ := h
 refine ⟨R, ρ, Os, rel, ?_⟩
 unfold mFor at post
 cases hm : mi ρ with
 | bad => rw [hm] at post; exact post
 | exc e ρ' => rw [hm] at post; exact fun c d H' Os' rel rx k => post c d σ H' Os' pin rel rx k
 | ok us ρ' =>
  rw [hm] at post
  dsimp only at post
  intro J H1 Os1 rel1 walk keep1
  have post1 := PostS.later post keep1
  refine ⟨fun i n σ' H' => n = us.length - i ∧ i ≤ us.length ∧ ∃ ρ2 Os2, Rel G R H' σ' ρ2 Os2 ∧ PinB bs σ0 σ' ∧ KeepE H1 Os1 H' Os2 (fun _ => False) ∧ PostS G R E D bs σ0 H1 Os1 (forL g mb (us.drop i) ρ2), ⟨us.length, by simp, Nat.zero_le _, ρ', Os1, rel1, pin, KeepE.refl, by simpa using post1⟩, ?_⟩
  rintro i n σ' H' ⟨rfl, hile, ρ2, Os2, rel2, pin2, keep2, post2⟩
  obtain ⟨hstop, hgo⟩ := walk _ _ (keep_of rel1 keep2) i
  by_cases hlt : i < us.length
  · refine .inr ?_
    obtain ⟨go, yld⟩ := hgo us[i] (List.getElem?_eq_getElem hlt)
    refine ⟨go, fun σ3 H3 => i + 1 ≤ us.length ∧ ∃ ρ3 Os3, Rel G R H3 σ3 ρ3 Os3 ∧ PinB bs σ0 σ3 ∧ KeepE H1 Os1 H3 Os3 (fun _ => False) ∧ PostS G R E D bs σ0 H1 Os1 (forL g mb (us.drop (i + 1)) ρ3), fun σ3 H3 ⟨h1, h2⟩ => ⟨us.length - (i + 1), by omega, rfl, h1, h2⟩, fun x H'' y => ?_⟩
    obtain ⟨same, repw⟩ := yld x H'' y
    have rep := repw fun p hp => rel2.ww hp
    have rel2' : Rel G R H'' σ' ρ2 Os2 := rel2.grow same (fun a z => .inl z) fun a z => let ⟨o, e⟩ := rel2.rt a z; ⟨o, same a o e⟩
    have keep2' : KeepE H1 Os1 H'' Os2 fun _ => False := keep2.grow same fun a z => z.elim
    rw [List.drop_eq_getElem_cons hlt] at post2
    unfold forL at post2
    have e0 : R = fun a => R a ∨ a ∈ ([] : List Addr) := setEq fun a => ⟨.inl, fun z => z.elim id fun z => nomatch z⟩
    have relE : Rel G (fun a => R a ∨ a ∈ ([] : List Addr)) H'' σ' ρ2 Os2 := e0 ▸ rel2'
    have repE : Rep G (WW (fun a => R a ∨ a ∈ ([] : List Addr)) Os2) H'' x us[i] [] := e0 ▸ rep
    refine ⟨R, ρ2, Os2, us[i], [], relE, repE, List.nodup_nil, fun a z => (nomatch z), pin2, ?_⟩
    cases hg : g us[i] ρ2 with
    | none => rw [hg] at post2; exact post2
    | some ρ3 =>
     rw [hg] at post2
     dsimp only at post2
     intro σ3 Os3 pin3 _ rel3 we3
     have keep3 : KeepE H1 Os1 H'' Os3 fun _ => False := fun a o e nw => let ⟨e1, n1, n2⟩ := keep2' a o e nw; ⟨e1, fun z => (we3 a z).elim n1 (fun z => nomatch z), n2⟩
     refine ⟨R, ρ3, Os3, rel3, pin3, ?_⟩
     refine PostS.later (H := H1) (Os := Os1) ?_ keep3
     cases hbm : mb ρ3 with
     | bad => rw [hbm] at post2; exact post2
     | exc e ρ4 => rw [hbm] at post2; exact post2
     | rt v ρ4 => rw [hbm] at post2; exact post2
     | bk ρ4 => rw [hbm] at post2; exact post2
     | nx ρ4 => rw [hbm] at post2; exact fun σ4 H4 Os4 p4 r4 k4 => ⟨hlt, ρ4, Os4, r4, p4, k4, post2⟩
     | ct ρ4 => rw [hbm] at post2; exact fun σ4 H4 Os4 p4 r4 k4 => ⟨hlt, ρ4, Os4, r4, p4, k4, post2⟩
  · refine .inl ⟨hstop (by omega), ?_⟩
    have e : us.drop i = [] := List.drop_eq_nil_of_le (by omega)
    rw [e] at post2
    exact post2 σ' H' Os2 pin2 rel2 keep2
theorem vs_for {tg iter : Expr} {body : List Stmt} {mi : MI} {g : MG} {mb : MS} (hp : PassesOwn (model X.prog X.w) X.A X.env X.xe) (hc : X.calm = true) (hi : VI G X E tg iter mi) (hg : VG G X bs σ0 tg g) (hb : VSs G X E bs σ0 body mb) (hs : ∀ x, foldedSetIterable iter X.env x = pure x := by intro _; rfl) :
    VS G X E bs σ0 (.For tg iter body [] pos) (mFor mi g mb) := PS.pre (ps_for hp hc hi hg hb hs) fun D σ H h => for_reading rfl h
def mRng1 (m : ME) : MI := fun ρ => match m ρ with
 | .ok (.int j) ρ' => if -(2 ^ 62) ≤ j ∧ j < 2 ^ 62 then .ok ((List.range j.toNat).map fun (i : Nat) => Val.int i) ρ' else .bad
 | .ok _ _ => .bad
 | .exc e ρ' => .exc e ρ'
 | .bad => .bad
theorem walk_rng {W : Addr → Prop} {H : Hp} (i : Int) (n : Nat) : Walk G W H (Itr i n) ((List.range n).map fun (k : Nat) => Val.int (i + k)) := by
 intro W' H' _ j
 refine ⟨fun h => (show n ≤ j from by simpa using h), fun u hu => ?_⟩
 rw [List.getElem?_map] at hu
 have hj : j < n := by
  by_cases h : j < n
  · exact h
  · rw [List.getElem?_eq_none (by simpa using h)] at hu; cases hu
 rw [List.getElem?_range hj] at hu
 cases hu
 exact ⟨hj, fun x H'' ⟨e1, e2⟩ => by subst e1 e2; exact ⟨fun _ _ e => e, fun _ => .int _⟩⟩
theorem vi_rng1 {tg a : Expr} {x1 : Pos} (hg : Gl X "range") (hm : X.mg "range" = none) (ha : VE G X E p s a m) (hs : starEach [a] X.env = [(false, eval a X.env)] := by rfl) (hs2 : starEach [a] X.env = (false, eval a X.env) :: starEach [] X.env := by rfl) : VI G X E tg (.Call (.Name "range" x1) [a] [] pos) (mRng1 m) := by
 refine PI.pre (pi_range1 hg hm (pa_cons ha pa_nil hs2) hs) fun σ H K ⟨R, ρ, Os, rel, post⟩ => ⟨R, ρ, Os, rel, ?_⟩
 unfold mRng1 at post
 cases hm : m ρ with
 | bad => rw [hm] at post; exact post
 | exc e ρ' => rw [hm] at post; exact post
 | ok v ρ' =>
  rw [hm] at post
  cases v with
  | int j =>
   dsimp only at post
   intro x H' Os' O rel' rep nd k _
   cases rep
   by_cases h : -(2 ^ 62) ≤ j ∧ j < 2 ^ 62
   · rw [if_pos h] at post
     refine ⟨j, rfl, h.1, h.2, post _ H' Os' (rel'.weak fun a z => .inl z) ?_ (k.imp fun _ z => z.elim)⟩
     have := walk_rng (G := G) (W := WW R Os') (H := H') 0 j.toNat
     simpa using this
   · rw [if_neg h] at post; exact post.elim
  | _ => exact post.elim
theorem walk_lst {W : Addr → Prop} {H : Hp} {a : Addr} {xs : List V} {us : List Val} (h : (Fz W H a (.lst xs)) ∨ (∃ o, H a = some (.frz o (.lst xs)) ∧ ¬ W a) ∨ SqL G.K (fun _ => none) a xs) (r : Reps G W H xs us []) : Walk G W H (Itl G.K a) us := by
 intro W' H' kp i
 have hl := r.length
 have h' : H' a = some (.lst xs) ∨ (∃ o, H' a = some (.frz o (.lst xs))) ∨ SqL G.K (fun _ => none) a xs := h.imp (fun z => (kp _ _ z.1 z.2).1) fun z => z.imp (fun ⟨o, e, nw⟩ => ⟨o, (kp _ _ e nw).1⟩) id
 have hq : SqL G.K H' a xs := h'.elim (fun e => Or.inl (Or.inl e)) fun z => z.elim (fun ⟨o, e⟩ => Or.inl (Or.inr ⟨o, e⟩)) fun z => z.elim (fun q => by rcases q with q | ⟨o, q⟩ <;> cases q) .inr
 refine ⟨fun h => ⟨xs, hq, by omega⟩, fun u hu => ?_⟩
 obtain ⟨x, O1, Oi, O2, e1, e2, q⟩ := r.split hu
 have eO : Oi = [] := by
  have := e2.symm
  simp at this
  exact this.2.1
 subst eO
 refine ⟨⟨xs, x, hq, e1⟩, fun y H'' ⟨e3, e4⟩ => ?_⟩
 subst e3
 have := e4 xs hq
 rw [e1] at this
 cases this
 exact ⟨fun _ _ e => e, fun _ => q.mono kp fun _ z => nomatch z⟩
theorem Reps.one {W : Addr → Prop} {H : Hp} {xs : List V} {us : List Val} (r : Reps G W H xs us []) {i : Nat} {u : Val} (hu : us[i]? = some u) : ∃ x, xs[i]? = some x ∧ Rep G W H x u [] := by
 obtain ⟨x, O1, Oi, O2, e1, e2, q⟩ := r.split hu
 have eO : Oi = [] := by
  have := e2.symm
  simp at this
  exact this.2.1
 subst eO
 exact ⟨x, e1, q⟩
def mItemsL (m : ME) : MI := fun ρ => match m ρ with
 | .ok (.lst false us) ρ' => .ok us ρ'
 | .ok (.scr ns) ρ' => .ok (ns.map .int) ρ'
 | .ok _ _ => .bad
 | .exc e ρ' => .exc e ρ'
 | .bad => .bad
theorem Rep.weakW {W W' : Addr → Prop} {H : Hp} {x : V} {v : Val} {O : List Addr} (r : Rep G W H x v O) (h : ∀ a, W' a → W a) : Rep G W' H x v O := r.mono (fun a o e nw => ⟨e, fun z => nw (h a z)⟩) fun _ _ _ e => e
theorem Reps.weakW {W W' : Addr → Prop} {H : Hp} {x : List V} {v : List Val} {O : List Addr} (r : Reps G W H x v O) (h : ∀ a, W' a → W a) : Reps G W' H x v O := r.mono (fun a o e nw => ⟨e, fun z => nw (h a z)⟩) fun _ _ _ e => e
theorem WW.up {R : Addr → Prop} {Os : Nat → List Addr} {s : Bool} {O : List Addr} : ∀ a, WW R Os a → WW (Rp R s O) Os a := fun a z => z.imp .inl id
theorem vi_list {tg : Expr} (hK : X.K = G.K) (ha : VE G X E p s a m) : VI G X E tg a (mItemsL m) := by
 refine PI.pre (pi_list ha) fun σ H K ⟨R, ρ, Os, rel, post⟩ => ⟨R, ρ, Os, rel, ?_⟩
 unfold mItemsL at post
 cases hm : m ρ with
 | bad => rw [hm] at post; exact post
 | exc e ρ' => rw [hm] at post; exact post
 | ok v ρ' =>
  rw [hm] at post
  intro x H' Os' O rel' rep nd k _
  rw [hK]
  have rl : Rel G R H' σ ρ' Os' := rel'.weak fun a z => .inl z
  have kl : KeepE H Os H' Os' fun _ => False := k.imp fun _ z => z.elim
  cases v with
  | lst o us =>
   cases o with
   | true => exact post.elim
   | false =>
    cases rep with
    | @lstF b xs _ h r => exact ⟨b, rfl, ⟨xs, .inl (.inl h.1)⟩, post _ H' Os' rl (walk_lst (xs := xs) (.inl ⟨h.1, fun z => h.2 (WW.up _ z)⟩) (r.weakW WW.up)) kl⟩
  | scr ns =>
   cases rep with
   | @scr b _ h =>
    refine ⟨b, rfl, ⟨ns.map .int, h.elim (fun ⟨o, e, _⟩ => Or.inl (Or.inr ⟨o, e⟩)) (fun z => z.elim (fun q => by rcases q with q | ⟨o, q⟩ <;> cases q) .inr)⟩, post _ H' Os' rl (walk_lst (xs := ns.map .int) (.inr (h.imp (fun ⟨o, e, nw⟩ => ⟨o, e, fun z => nw (WW.up _ z)⟩) id)) (Reps.of_ints ns)) kl⟩
  | _ => exact post.elim
def mFz (m : ME) : ME := fun ρ => match m ρ with
 | .ok v ρ' => .ok v.frz ρ'
 | .exc e ρ' => .exc e ρ'
 | .bad => .bad
theorem Post.fz {R : Addr → Prop} {σ : L2.St} {H : Hp} {Os : Nat → List Addr} {ρ : VEnv} {Q : VK} {r : RE} (rel0 : ∀ a, R a → ∃ o, H a = some o ∧ ¬ We Os a)
    (post : Post G R E σ H Os p true ρ Q (match (generalizing := false) r with | .ok v ρ' => .ok v.frz ρ' | .exc e ρ' => .exc e ρ' | .bad => .bad)) : Post G R E σ H Os p true ρ Q r := by
 cases r with
 | bad => exact post
 | exc e ρ' => exact post
 | ok v ρ' =>
  intro x H' Os' O rel rep nd k pure
  have hw : ∀ a, Rp R true [] a → Rp R true O a := fun a z => .inl (z.elim id fun z => nomatch z.2)
  refine post x H' Os' [] (rel.weak hw) (rep.freeze (fun a nw z => nw (z.imp (hw a) id)) fun a ha z => ?_) (fun _ => List.nodup_nil) (k.imp fun a z => nomatch z.2) pure
  rcases z with z | z
  · obtain ⟨o, e, nw⟩ := rel0 a (z.elim id fun z => nomatch z.2)
    exact (k a o e nw).2.2 ⟨rfl, ha⟩
  · exact rel.nr (.inr ⟨rfl, ha⟩) z
theorem ve_fz (h : VE G X E p true e m) : VE G X E p true e (mFz m) := PE.pre h fun σ H Q ⟨R, ρ, Os, rel, post⟩ => ⟨R, ρ, Os, rel, post.fz rel.hr⟩
end
end VL
namespace VL
open PySem L2
variable {ia : Air}
def CalR (X : Cx) (f : Value) (r : L2.St → List V → Hp → VK → Prop) : Prop :=
 ∀ (pins : List (Addr × Obj)) (s : Shared) (σ : L2.St) (H : Hp) (xs : List V) (us : List Value) (Q : VK), Inv X pins σ H s → Vals xs us → r σ xs H Q → wpAny (model X.prog X.w) X.A (call f us) (EP X pins σ Q) X.xe s
def CalV (G : Gam) (X : Cx) (E : WX) (f : Value) (n : Nat) (mf : MF) (dks : List (V × Val)) : Prop := CalR X f fun σ xs H Q => spV G n mf (xs ++ dks.map (·.1)) H Q (WE E σ)
def VAg (G : Gam) (X : Cx) (E : WX) (es : List Expr) (as : List Arg) : Prop := PA X es fun σ H K => nestG G E as σ H K
section
variable {G : Gam} {X : Cx} {E : WX} {es : List Expr} {e o : Expr} {as : List Arg} {p s : Bool} {m : ME} {pos apos px : Pos}
theorem vg_nil : VAg G X E [] [] := pa_nil
theorem vg_v (h : VE G X E p s e m) (t : VAg G X E es as) (hs : starEach (e :: es) X.env = (false, eval e X.env) :: starEach es X.env := by rfl) : VAg G X E (e :: es) (.v ⟨p, s, m⟩ :: as) := pa_cons h t hs
theorem vg_r {i : Nat} (h : PE X e (tVar i)) (t : VAg G X E es as) (hs : starEach (e :: es) X.env = (false, eval e X.env) :: starEach es X.env := by rfl) : VAg G X E (e :: es) (.r i :: as) := pa_cons h t hs
def dArgs (dks : List (V × Val)) : List Arg := dks.map fun q => Arg.k q.1 q.2
def DflL (G : Gam) (dks : List (V × Val)) : Prop := ∀ q ∈ dks, ∀ W H, Rep G W H q.1 q.2 []
theorem dfl_of {dks : List (V × Val)} (h : DflL G dks) : Dfl G (dArgs dks) := by
 induction dks with
 | nil => trivial
 | cons q t ih => exact ⟨h q List.mem_cons_self, ih fun z hz => h z (List.mem_cons_of_mem _ hz)⟩
def noK : List Arg → Bool
 | [] => true
 | .k _ _ :: _ => false
 | _ :: as => noK as
theorem dfl_app {dks : List (V × Val)} (h : DflL G dks) : ∀ {as : List Arg}, noK as = true → Dfl G (as ++ dArgs dks)
 | [], _ => dfl_of h
 | .v o :: as, z => dfl_app h (as := as) z
 | .r i :: as, z => dfl_app h (as := as) z
 | .k _ _ :: as, z => by cases z
theorem vals_k (dks : List (V × Val)) : vals (dArgs dks) = [] := by
 induction dks with
 | nil => rfl
 | cons q t ih => exact ih
theorem vals_app {dks : List (V × Val)} : ∀ {as : List Arg}, vals (as ++ dArgs dks) = vals as
 | [] => vals_k dks
 | .v o :: as => congrArg (o :: ·) (vals_app (as := as))
 | .r i :: as => vals_app (as := as)
 | .k _ _ :: as => vals_app (as := as)
theorem call_dk {mf : MF} {n : Nat} {dks : List (V × Val)} {σ : L2.St} {H : Hp} {Q : VK} (hd : DflL G dks) (hk : noK as = true) (hs : (vals as).all (·.s) = true) (hn : as.length + dks.length = n) (h : rd G E (argsP (as ++ dArgs dks)) true (mCall mf (as ++ dArgs dks)) σ H Q) :
    nestG G E as σ H (fun xs H1 => spV G n mf (xs ++ dks.map (·.1)) H1 Q (WE E σ)) := by
 have := call_of (n := n) (dfl_app hd hk) (by rw [vals_app]; exact hs) (by simp [dArgs, hn]) h
 exact nestG_app (K := fun xs H1 => spV G n mf xs H1 Q (WE E σ)) this
theorem ve_call {x : Str} {u : Value} {n : Nat} {mf : MF} {dks : List (V × Val)} (hc : CalV G X E u n mf dks) (hg : Gl X x) (hm : X.mg x = some u) (hk : PySem.W.keepIn X.K u = true) (ha : VAg G X E (e :: es) as) (hd : DflL G dks) (hs : (vals as).all (·.s) = true := by rfl) (hnk : noK as = true := by rfl) (hn : as.length + dks.length = n := by rfl)
    (hdb : (x == ("__debug__" : Str)) = false := by decide) (he : starEach (e :: es) X.env = (false, eval e X.env) :: starEach es X.env := by rfl) (hpl : (backTo pos (starEach es X.env)).any (·.1) = false := by rfl) :
    VE G X E (argsP (as ++ dArgs dks)) true (.Call (.Name x px) (e :: es) [] pos) (mCall mf (as ++ dArgs dks)) := by
 refine ⟨fun pins s1 σ H Q I h => wpAny_Call_Name_kw (ld_glob I hg hm (PySem.W.callWith_K (h₀ := X.base) I.ok.mod.kin hk ?_ he hpl) hdb)⟩
 exact thn (ha.run pos pins s1 σ H _ I (call_dk hd hnk hs hn h)) fun us s2 ⟨xs, H1, I1, r, q⟩ => ⟨I1.kIn, hc pins s2 σ H1 xs us Q I1 r q⟩
theorem cal_fn {k : Nat} {f : Addr} {fd : FuncData} {ps : List Str} {n : Nat} {mf : MF} {dks : List (V × Val)} {ds : List Value} (F : FnOkG X.prog X.w X.K X.mg X.base (ia.CX X.prog X.w) k f fd ps (spV G n mf)) (hr : RoomG k X.A) (hb : Binds X.K fd ps ds) (hd : Vals (dks.map (·.1)) ds) (tk : ia.Takes X E) : CalV G X E (.ref f) n mf dks :=
 fun pins s1 σ H xs us Q I r h => run_G (E := WE E) F hr hb hd (passAtA tk σ) I r h
def mMake (c : Nat) (mf : MF) : MF := fun vs => match mf (.obj true c [] [] :: vs) with
 | .ok .non (some self :: fs) => .ok self fs
 | .exc e (_ :: fs) => .exc e fs
 | _ => .bad
theorem rel_obj {R : Addr → Prop} {H : Hp} {xs : List V} {vs : List Val} {Oa : Nat → List Addr} (rel : Rel G R H (xs.map some) (vs.map some) Oa) {c : Nat} {C x dx : Addr} (hc : G.cn c = some C) (hx : H x = none) (hdx : H dx = none) (hne : dx ≠ x) :
    Rel G R (upd (upd H dx (.own x)) x (.ins C dx [])) ((V.ref x :: xs).map some) ((Val.obj true c [] [] :: vs).map some) (fun j => match j with | 0 => [x] | j + 1 => Oa j) := by
 have same : Same H (upd (upd H dx (.own x)) x (.ins C dx [])) := (same_upd hdx).trans (same_upd (by rw [upd_ne hne.symm]; exact hx))
 have we : ∀ a, WW R (fun j => match j with | 0 => [x] | j + 1 => Oa j) a → WW R Oa a ∨ H a = none := fun a z => by
  rcases z with z | ⟨j, z⟩
  · exact .inl (.inl z)
  · cases j with
    | zero => exact .inr (by rw [List.mem_singleton.mp z]; exact hx)
    | succ j => exact .inl (.inr ⟨j, z⟩)
 have hx0 : ∀ i, x ∉ Oa i := fun i hm => by obtain ⟨o, e⟩ := rel.there x hm; rw [hx] at e; cases e
 refine ⟨by simpa using rel.len, fun i v hv => ?_, fun i hi => ?_, fun i => ?_, fun i j a ha hb => ?_, fun i a ha z => ?_, fun a z => let ⟨o, e⟩ := rel.rt a z; ⟨o, same a o e⟩⟩
 · cases i with
   | zero =>
    simp at hv
    subst hv
    exact ⟨.ref x, rfl, .objO (fs := []) upd_same hc rfl .nil⟩
   | succ i =>
    obtain ⟨y, e, r⟩ := rel.rep i v (by simpa using hv)
    exact ⟨y, by simpa using e, r.mono (fun a o e nw => ⟨same a o e, fun z => (we a z).elim nw fun z => by rw [e] at z; cases z⟩) fun a _ o e => same a o e⟩
 · cases i with
   | zero => exact absurd rfl (hi (.obj true c [] []))
   | succ i => exact rel.nil i fun v hv => hi v (by simpa using hv)
 · cases i with
   | zero => simp
   | succ i => exact rel.nd i
 · cases i with
   | zero =>
    cases j with
    | zero => rfl
    | succ j => exact absurd ((List.mem_singleton.mp ha) ▸ hb) (hx0 j)
   | succ i =>
    cases j with
    | zero => exact absurd ((List.mem_singleton.mp hb) ▸ ha) (hx0 i)
    | succ j => exact congrArg (· + 1) (rel.dj i j a ha hb)
 · cases i with
   | zero =>
    obtain ⟨o, e⟩ := rel.rt a z
    rw [List.mem_singleton.mp ha, hx] at e; cases e
   | succ i => exact rel.dr i a ha z
theorem rel_made {R : Addr → Prop} {H : Hp} {x : V} {xs : List V} {self : Val} {fs : VEnv} {Oa : Nat → List Addr} {s : Bool} {O : List Addr} (rel : Rel G (Rp R s O) H ((x :: xs).map some) (some self :: fs) Oa) :
    Rel G (Rp R true (Oa 0)) H (xs.map some) fs (fun j => Oa (j + 1)) ∧ Rep G (WW (Rp R true (Oa 0)) (fun j => Oa (j + 1))) H x self (Oa 0) ∧ (Oa 0).Nodup := by
 have t := Rel.tail rel
 have t1 : Rel G (Rp R true (Oa 0)) H (xs.map some) fs (fun j => Oa (j + 1)) := t.weak fun a z => z.elim (fun z => .inl (.inl z)) fun z => .inr z.2
 obtain ⟨y, e, r⟩ := rel.rep 0 self rfl
 have e' : x = y := by simpa using e
 subst e'
 refine ⟨t1, r.weakW fun a z => ?_, rel.nd 0⟩
 rcases z with (z | z) | ⟨j, z⟩
 · exact .inl (.inl z)
 · exact .inr ⟨0, z.2⟩
 · exact .inr ⟨j + 1, z⟩
theorem sp_make {n c : Nat} {C : Addr} {mf : MF} {xs : List V} {H : Hp} {Q : VK} {E0 : XK} (hc : G.cn c = some C) (h : spV G n (mMake c mf) xs H Q E0) {x dx : Addr} (hx : H x = none) (hdx : H dx = none) (hne : dx ≠ x) :
    spV G (n + 1) mf (.ref x :: xs) (upd (upd H dx (.own x)) x (.ins C dx [])) (fun v H2 => v = .non ∧ Q (.ref x) H2) E0 := by
 obtain ⟨hl, R, vs, Oa, rel, post⟩ := h
 refine ⟨by simp [hl], R, _, _, rel_obj rel hc hx hdx hne, ?_⟩
 have same : Same H (upd (upd H dx (.own x)) x (.ins C dx [])) := (same_upd hdx).trans (same_upd (by rw [upd_ne hne.symm]; exact hx))
 have k0 : ∀ {H2 : Hp} {Os2 : Nat → List Addr} {O : Addr → Prop}, KeepE (upd (upd H dx (.own x)) x (.ins C dx [])) (fun j => match j with | 0 => [x] | j + 1 => Oa j) H2 Os2 O → ∀ a o, H a = some o → ¬ We Oa a → H2 a = some o ∧ ¬ We Os2 a ∧ ¬ O a := fun k a o e nw => k a o (same a o e) fun ⟨j, z⟩ => by
  cases j with
  | zero => rw [List.mem_singleton.mp z, hx] at e; cases e
  | succ j => exact nw ⟨j, z⟩
 unfold mMake at post
 cases hm : mf (.obj true c [] [] :: vs) with
 | bad => rw [hm] at post; exact post
 | exc e fs =>
  rw [hm] at post
  cases fs with
  | nil => exact post.elim
  | cons f fs =>
   intro cc d H2 Os2 rel2 rx k
   have rel2' : Rel G R H2 (some (V.ref x) :: xs.map some) (f :: fs) Os2 := rel2
   have t := Rel.tail rel2'
   refine post cc d H2 (fun j => Os2 (j + 1)) (t.weak fun a z => .inl z) (rx.mono fun a o e nw => ⟨e, fun z => nw (z.imp id fun ⟨j, z⟩ => ⟨j + 1, z⟩)⟩) fun a o e nw => ?_
   obtain ⟨e1, n1, n2⟩ := k0 k a o e nw
   exact ⟨e1, fun ⟨j, z⟩ => n1 ⟨j + 1, z⟩, n2⟩
 | ok v fs =>
  rw [hm] at post
  cases v with
  | non =>
   cases fs with
   | nil => exact post.elim
   | cons f fs =>
    cases f with
    | none => exact post.elim
    | some self =>
     intro y H2 Os2 O rel2 rep2 nd2 k _
     cases rep2
     refine ⟨rfl, ?_⟩
     obtain ⟨r1, r2, r3⟩ := rel_made rel2
     refine post (.ref x) H2 (fun j => Os2 (j + 1)) (Os2 0) r1 r2 (fun _ => r3) (fun a o e nw => ?_) fun z => by cases z
     obtain ⟨e1, n1, n2⟩ := k0 k a o e nw
     exact ⟨e1, fun ⟨j, z⟩ => n1 ⟨j + 1, z⟩, fun z => n1 ⟨0, z.2⟩⟩
  | _ => exact post.elim
theorem cal_make {k : Nat} {f C : Addr} {fd : FuncData} {ps : List Str} {n c : Nat} {mf : MF} {dks : List (V × Val)} {ds : List Value} (hC : G.cn c = some C) (M : Mk X.K C f) (F : FnOkG X.prog X.w X.K X.mg X.base (ia.CX X.prog X.w) k f fd ps (spV G (n + 1) mf)) (hr : RoomG (k + 1) X.A) (hb : Binds X.K fd ps ds)
    (hd : Vals (dks.map (·.1)) ds) (tk : ia.Takes X E) : CalV G X E (.ref C) n (mMake c mf) dks := by
 intro pins s1 σ H xs us Q I r h
 have hx := I.hok.fresh (Nat.le_succ s1.heap.objs.size)
 have hdx := I.hok.fresh (Nat.le_refl s1.heap.objs.size)
 have hq := sp_make (x := s1.heap.objs.size + 1) (dx := s1.heap.objs.size) hC h hx hdx (Nat.ne_of_lt (Nat.lt_succ_self _))
 have I2 := Inv.made (C := C) I
 have rv : Vals (V.ref (s1.heap.objs.size + 1) :: (xs ++ dks.map (·.1))) (Value.ref (s1.heap.objs.size + 1) :: (us ++ ds)) := .cons rfl (r.append hd)
 have hl : (Value.ref (s1.heap.objs.size + 1) :: us ++ ds).length = ps.length := by
  rw [← F.len _ _ _ _ hq]
  exact rv.length.symm
 refine wpAny_call (make_map (f := f) I.kIn M.makes M.init (beq_iff_eq.mp M.fn) ?_)
 have run := F.run (X.A.under (.builtin "type.__call__" ⟨.ref C :: us, []⟩)) X.stack _ _ ⟨Value.ref (s1.heap.objs.size + 1) :: us, []⟩ (Value.ref (s1.heap.objs.size + 1) :: (us ++ ds)) _ _ (WE E σ) (hr.make C us []) (I2.env0.make C us []) (hb _ (Value.ref (s1.heap.objs.size + 1) :: us) I2.kIn hl) rv hq
 refine codeAny_mono run fun res s2 hq2 => ?_
 cases res with
 | error er => exact passAtA tk σ pins _ _ er s2 I2 hq2
 | ok fl =>
  cases fl with
  | ret u =>
   obtain ⟨v, H', I3, rv3, ev, q3⟩ := I2.after hq2
   subst ev
   exact ⟨rv3, ⟨V.ref (s1.heap.objs.size + 1), H', I3, rfl, q3⟩⟩
  | next => exact hq2.elim
  | brk => exact hq2.elim
  | cont => exact hq2.elim
end
end VL
namespace VL
open PySem L2
variable {ia : Air}
section
variable {G : Gam} {X : Cx} {E : WX} {es : List Expr} {e o : Expr} {as : List Arg} {p s : Bool} {m : ME} {pos apos px : Pos}
abbrev mcTree (o : Expr) (mn : Str) (apos pos : Pos) (es : List Expr) (pl : Sem Bool) (env : Env) : Sem Value := do
 let ov ← eval o env
 standAt apos.atName
 let (f, first) ← holding [ov] (getMethod ov mn pl)
 callWith pos f first (backTo pos (starEach es env)) (backToKw pos (keywordEach [] env))
theorem pe_calm0 {pl : Sem Bool} {C f : Addr} {mn : Str} {ta : TE} {r : L2.St → List V → Hp → VK → Prop} (he : PE X o ta) (c : Cls X.K C) (hm : Meth X.K C mn f) (hc : CalR X (.ref f) r)
    (ht : eval (.Call (.Attribute o mn apos) [] [] pos) X.env = mcTree o mn apos pos [] pl X.env) :
    PE X (.Call (.Attribute o mn apos) [] [] pos) (fun σ H Q => ta σ H fun x H1 => ∃ a dx fs, x = .ref a ∧ H1 a = some (.ins C dx fs) ∧ fs.lookup mn = none ∧ r σ [x] H1 Q) := by
 refine ⟨fun pins s1 σ H Q I h => PySem.W.methodCall_KW (pl := pl) (thn (he.run pins s1 σ H _ I h) fun u s2 hx => ?_) ht⟩
 obtain ⟨x, H1, I1, rx, a, dx, fs, ex, ea, l, q⟩ := hx
 subst ex
 obtain rfl : u = Value.ref a := rx
 exact getmeth_ok I1 ea c hm l (PySem.W.callWith_K0 (first := [.ref a]) I1.kIn hm.kp (hc pins s2 σ H1 [.ref a] [.ref a] Q I1 (.cons rfl .nil) q))
def objC (c : Nat) (mn : Str) : Val → Bool
 | .obj _ n fs _ => n == c && !(fs.contains mn)
 | _ => false
def mMethR (c : Nat) (mn : Str) (mf : MF) (i : Nat) (as : List Arg) : ME := fun ρ => match ρ[i]? with
 | some (some v) => if objC c mn v = true then mCall mf (.r i :: as) ρ else .bad
 | _ => .bad
theorem look_none {mn : Str} : ∀ {fs : List (Str × V)}, (fs.map (·.1)).contains mn = false → fs.lookup mn = none
 | [], _ => rfl
 | (f, x) :: fs, h => by
  simp only [List.map_cons, List.contains_cons, Bool.or_eq_false_iff] at h
  show (match mn == f with | true => some x | false => fs.lookup mn) = none
  rw [h.1]
  exact look_none h.2
theorem objC_ok {c : Nat} {mn : Str} {C : Addr} (hc : G.cn c = some C) {W : Addr → Prop} {H : Hp} {x : V} {v : Val} {O : List Addr} (r : Rep G W H x v O) (h : objC c mn v = true) : ∃ a dx fs, x = .ref a ∧ H a = some (.ins C dx fs) ∧ fs.lookup mn = none := by
 cases v with
 | obj ow n ns vs =>
  unfold objC at h
  simp only [Bool.and_eq_true, beq_iff_eq, Bool.not_eq_true'] at h
  obtain ⟨rfl, h2⟩ := h
  obtain ⟨a, C', dx, fs, rfl, e, hC, hn⟩ := rep_obj r
  rw [hc] at hC
  cases hC
  exact ⟨a, dx, fs, rfl, e, look_none (by rw [← hn]; exact h2)⟩
 | _ => exact absurd h (by simp [objC])
theorem ve_methR0 {pl : Sem Bool} {C f : Addr} {mn : Str} {i c n : Nat} {mf : MF} {dks : List (V × Val)} (he : PE X o (tVar i)) (hcn : G.cn c = some C) (cl : Cls X.K C) (hm : Meth X.K C mn f) (hc : CalV G X E (.ref f) n mf dks) (hd : DflL G dks) (hn : 1 + dks.length = n := by rfl)
    (ht : eval (.Call (.Attribute o mn apos) [] [] pos) X.env = mcTree o mn apos pos [] pl X.env := by rfl) : VE G X E false true (.Call (.Attribute o mn apos) [] [] pos) (mMethR c mn mf i (dArgs dks)) := by
 refine PE.pre (pe_calm0 he cl hm hc ht) fun σ H Q ⟨R, ρ, Os, rel, post⟩ => ?_
 unfold mMethR at post
 split at post
 · rename_i v hv
   by_cases ho : objC c mn v = true
   · rw [if_pos ho] at post
     obtain ⟨x, hx, rep⟩ := rel.rep i v hv
     obtain ⟨a, dx, fs, e1, e2, e3⟩ := objC_ok hcn rep ho
     obtain ⟨y, hy, q⟩ := call_dk (as := [.r i]) (n := n) hd rfl rfl (by simpa using hn) (σ := σ) ⟨R, ρ, Os, rel, post⟩
     rw [hx] at hy
     cases hy
     exact ⟨x, hx, a, dx, fs, e1, e2, e3, q⟩
   · rw [if_neg ho] at post; exact post.elim
 · exact post.elim
def lookF (f : Str) : List Str → List Val → Option Val
 | n :: ns, v :: vs => if n = f then some v else lookF f ns vs
 | _, _ => none
def semFld (cs : List Nat) (f : Str) : List Val → Option Val
 | [.obj _ n fs xs] => if n ∈ cs then (match lookF f fs xs with
  | some v => if v.fz = true then some v else none
  | none => none) else none
 | _ => none
def FldF (G : Gam) (K : PySem.W.Frag) (cs : List Nat) (f : Str) : Prop := ∀ n ∈ cs, ∀ C, G.cn n = some C → Cls K C ∧ NoAttr K C f
theorem look_fld {W : Addr → Prop} {H : Hp} {f : Str} : ∀ {fs : List (Str × V)} {vs : List Val} {O : List Addr} {v : Val}, Reps G W H (fs.map (·.2)) vs O → lookF f (fs.map (·.1)) vs = some v → ∃ x O', fs.lookup f = some x ∧ Rep G W H x v O' ∧ ∀ a ∈ O', a ∈ O
 | [], vs, O, v, r, h => by cases r; simp [lookF] at h
 | (g, y) :: fs, vs, O, v, r, h => by
  cases r with
  | @cons _ w _ ws O1 O2 r t =>
   simp only [List.map_cons, lookF] at h
   by_cases e : g = f
   · rw [if_pos e] at h
     cases h
     subst e
     exact ⟨y, O1, by simp [List.lookup], r, fun a ha => List.mem_append_left _ ha⟩
   · rw [if_neg e] at h
     obtain ⟨x, O', e1, r', s'⟩ := look_fld t h
     refine ⟨x, O', ?_, r', fun a ha => List.mem_append_right _ (s' a ha)⟩
     show (match f == g with | true => some y | false => fs.lookup f) = some x
     rw [beq_false_of_ne fun z => e z.symm]
     exact e1
theorem rep_objR {W : Addr → Prop} {H : Hp} {x : V} {ow : Bool} {n : Nat} {ns : List Str} {vs : List Val} {O : List Addr} (r : Rep G W H x (.obj ow n ns vs) O) : ∃ a C dx fs O', x = .ref a ∧ H a = some (.ins C dx fs) ∧ G.cn n = some C ∧ ns = fs.map (·.1) ∧ Reps G W H (fs.map (·.2)) vs O' := by
 cases r with
 | objO h hc hn r => exact ⟨_, _, _, _, _, rfl, h, hc, hn, r⟩
 | objF h hc hn r => exact ⟨_, _, _, _, _, rfl, h.1, hc, hn, r⟩
theorem ve_fld {cs : List Nat} {f : Str} (F : FldF G X.K cs f) (he : VE G X E p s o m) (hb : attributeBase o f X.env (eval o X.env) = eval o X.env := by rfl) : VE G X E p true (.Attribute o f pos) (mFun (semFld cs f) [m]) := by
 have := ve_fun (G := G) (E := E) (os := [⟨p, s, m⟩]) (pe_fld (pos := pos) he hb) (r := fun xs H Q => match xs with
  | [x] => ∃ a C dx fs v, x = .ref a ∧ H a = some (.ins C dx fs) ∧ Cls X.K C ∧ NoAttr X.K C f ∧ fs.lookup f = some v ∧ Q v H
  | _ => False) (fun σ H Q z => z) (sem := semFld cs f) (fun W H xs vs Ol v Q w r hs mk => by
   unfold semFld at hs
   split at hs
   · obtain ⟨x, O, rfl, r1⟩ := r.inv1
     split at hs
     · rename_i hn
       split at hs
       · rename_i u hu
         split at hs
         · rename_i hf
           cases hs
           obtain ⟨a, C, dx, fs', O', rfl, ea, hC, rfl, q⟩ := rep_objR r1
           obtain ⟨c1, c2⟩ := F _ hn C hC
           obtain ⟨y, O2, e1, r2, _⟩ := look_fld q hu
           exact ⟨a, C, dx, fs', y, rfl, ea, c1, c2, e1, mk.same (r2.fz' hf)⟩
         · cases hs
       · cases hs
     · cases hs
   · cases hs) (by simp [wfA])
 simpa using this
def outs : List Bool → VEnv → VEnv
 | [], _ => []
 | _ :: bs, [] => none :: outs bs []
 | b :: bs, v :: ρ => (if b = true then v else none) :: outs bs ρ
def mBody (bs : List Bool) (N : Nat) (m : MS) : MF := fun vs => match m (vs.map some ++ List.replicate (N - bs.length) none) with
 | .nx ρ => .ok .non (outs bs ρ)
 | .rt v ρ => .ok v (outs bs ρ)
 | .exc e ρ => .exc e (outs bs ρ)
 | _ => .bad
theorem outs_len : ∀ (bs : List Bool) (ρ : VEnv), (outs bs ρ).length = bs.length
 | [], _ => rfl
 | _ :: bs, [] => by simp [outs, outs_len bs]
 | _ :: bs, _ :: ρ => by simp [outs, outs_len bs]
theorem outs_get : ∀ {bs : List Bool} {ρ : VEnv} {i : Nat} {v : Val}, (outs bs ρ)[i]? = some (some v) → bs[i]? = some true ∧ ρ[i]? = some (some v)
 | [], ρ, i, v, h => by simp [outs] at h
 | b :: bs, [], i, v, h => by
  cases i with
  | zero => simp [outs] at h
  | succ i => have := outs_get (bs := bs) (ρ := []) (i := i) (by simpa [outs] using h); simp at this
 | b :: bs, u :: ρ, i, v, h => by
  cases i with
  | zero =>
   simp only [outs, List.getElem?_cons_zero, Option.some.injEq] at h
   cases b with
   | true => simp only [if_true] at h; simp [h]
   | false => simp at h
  | succ i => simpa using outs_get (bs := bs) (ρ := ρ) (i := i) (by simpa [outs] using h)
theorem get_outs : ∀ {bs : List Bool} {ρ : VEnv} {i : Nat} {v : Val}, bs[i]? = some true → ρ[i]? = some (some v) → (outs bs ρ)[i]? = some (some v)
 | [], ρ, i, v, h, _ => by simp at h
 | b :: bs, [], i, v, _, h => by simp at h
 | b :: bs, u :: ρ, i, v, h, h2 => by
  cases i with
  | zero => simp only [List.getElem?_cons_zero, Option.some.injEq] at h h2; simp [outs, h, h2]
  | succ i => simpa [outs] using get_outs (bs := bs) (ρ := ρ) (i := i) (by simpa using h) (by simpa using h2)
theorem rel_start {R : Addr → Prop} {H : Hp} {xs : List V} {vs : List Val} {Oa : Nat → List Addr} {N : List Str} (rel : Rel G R H (xs.map some) (vs.map some) Oa) : Rel G R H (start N xs) (vs.map some ++ List.replicate (N.length - vs.length) none) Oa := by
 have hl : xs.length = vs.length := by simpa using rel.len
 have key : ∀ (i : Nat) (v : Val), (vs.map some ++ List.replicate (N.length - vs.length) none)[i]? = some (some v) → (vs.map some)[i]? = some (some v) := fun i v h => by
  by_cases hi : i < vs.length
  · rwa [List.getElem?_append_left (by simpa using hi)] at h
  · rw [List.getElem?_append_right (by simpa using hi), List.getElem?_replicate] at h
    split at h <;> cases h
 refine ⟨by simp [L2.start, hl], fun i v hv => ?_, fun i hi => rel.nil i fun v hv => hi v ?_, rel.nd, rel.dj, rel.dr, rel.rt⟩
 · obtain ⟨x, e, r⟩ := rel.rep i v (key i v hv)
   have hi : i < (xs.map some).length := (List.getElem?_eq_some_iff.mp e).1
   exact ⟨x, by unfold L2.start; rw [List.getElem?_append_left hi]; exact e, r⟩
 · have hi : i < (vs.map some).length := (List.getElem?_eq_some_iff.mp hv).1
   rw [List.getElem?_append_left hi]; exact hv
theorem rel_outs {R : Addr → Prop} {H : Hp} {bs : List Bool} {N : List Str} {xs : List V} {σ : L2.St} {ρ : VEnv} {Os : Nat → List Addr} (hl : xs.length = bs.length) (pin : PinB bs (start N xs) σ) (rel : Rel G R H σ ρ Os) :
    ∃ Os', Rel G R H (xs.map some) (outs bs ρ) Os' ∧ ∀ a, We Os' a → We Os a := by
 have sub : ∀ i a, a ∈ (if bs[i]? = some true then Os i else []) → bs[i]? = some true ∧ a ∈ Os i := fun i a h => by
  by_cases e : bs[i]? = some true
  · rw [if_pos e] at h; exact ⟨e, h⟩
  · rw [if_neg e] at h; cases h
 have we : ∀ a, We (fun i => if bs[i]? = some true then Os i else []) a → We Os a := fun a ⟨i, z⟩ => ⟨i, (sub i a z).2⟩
 refine ⟨fun i => if bs[i]? = some true then Os i else [], ⟨by simp [outs_len, hl], fun i v hv => ?_, fun i hi => ?_, fun i => ?_, fun i j a ha hb => rel.dj i j a (sub i a ha).2 (sub j a hb).2, fun i a ha => rel.dr i a (sub i a ha).2, rel.rt⟩, we⟩
 · obtain ⟨h1, h2⟩ := outs_get hv
   obtain ⟨x, e, r⟩ := rel.rep i v h2
   rw [pin i h1] at e
   have hi : i < (xs.map some).length := by
    have := (List.getElem?_eq_some_iff.mp h1).1
    simpa [hl] using this
   unfold L2.start at e
   rw [List.getElem?_append_left hi] at e
   refine ⟨x, e, ?_⟩
   show Rep G _ H x v (if bs[i]? = some true then Os i else [])
   rw [if_pos h1]
   exact r.weakW fun a z => z.imp id (we a)
 · show (if bs[i]? = some true then Os i else []) = []
   by_cases e : bs[i]? = some true
   · rw [if_pos e]
     exact rel.nil i fun v hv => hi v (get_outs e hv)
   · rw [if_neg e]
 · show (if bs[i]? = some true then Os i else []).Nodup
   by_cases e : bs[i]? = some true
   · rw [if_pos e]; exact rel.nd i
   · rw [if_neg e]; exact List.nodup_nil
theorem body_of {Y : Cx} {E0 : XK} {bs : List Bool} {N ps : List Str} {m : MS} {body : List Stmt} {xs : List V} {H : Hp} {Q : VK} (hn : bs.length = ps.length) (hN : ps.length ≤ N.length) (hb : ∀ σ0, VSs G Y (fun c d _ H => E0 c d H) bs σ0 body m) (h : spV G ps.length (mBody bs N.length m) xs H Q E0) :
    ∃ t, PSs Y body t ∧ t { nx := fun _ H' => Q .non H', rt := Q } (start N xs) H := by
 obtain ⟨hl, R, vs, Oa, rel, post⟩ := h
 refine ⟨_, hb (start N xs), ?_⟩
 have hv : xs.length = vs.length := by simpa using rel.len
 have rs := rel_start (N := N) rel
 have hlb : xs.length = bs.length := by omega
 refine ⟨R, _, Oa, rs, fun _ _ => rfl, ?_⟩
 unfold mBody at post
 rw [show N.length - bs.length = N.length - vs.length by omega] at post
 have ret : ∀ {v : Val} {ρ' : VEnv}, Post G R (fun c d _ H => E0 c d H) (xs.map some) H Oa false true (vs.map some) Q (.ok v (outs bs ρ')) → ∀ x σ' H' Os' O, PinB bs (start N xs) σ' → Rel G (Rp R true O) H' σ' ρ' Os' → Rep G (WW (Rp R true O) Os') H' x v O → O.Nodup → KeepE H Oa H' Os' (fun a => true = true ∧ a ∈ O) → Q x H' := by
  intro v ρ' post x σ' H' Os' O pin rel' rep nd k
  obtain ⟨Os2, r2, w2⟩ := rel_outs hlb pin rel'
  exact post x H' Os2 O r2 (rep.weakW fun a z => z.imp id (w2 a)) (fun _ => nd) (fun a o e nw => let ⟨e1, n1, n2⟩ := k a o e nw; ⟨e1, fun z => n1 (w2 a z), n2⟩) fun z => by cases z
 cases hm : m (vs.map some ++ List.replicate (N.length - vs.length) none) with
 | bad => rw [hm] at post; exact post
 | bk ρ' => rw [hm] at post; exact post.elim
 | ct ρ' => rw [hm] at post; exact post.elim
 | nx ρ' =>
  rw [hm] at post
  intro σ' H' Os' pin rel' k
  exact ret post .non σ' H' Os' [] pin (rel'.weak fun a z => z.elim id fun z => nomatch z.2) .non List.nodup_nil (k.imp fun a z => nomatch z.2)
 | rt v ρ' => rw [hm] at post; exact ret post
 | exc e ρ' =>
  rw [hm] at post
  intro c d σ' H' Os' pin rel' rx k
  obtain ⟨Os2, r2, w2⟩ := rel_outs hlb pin rel'
  exact post c d H' Os2 r2 (rx.mono fun a o e nw => ⟨e, fun z => nw (z.imp id (w2 a))⟩) fun a o e nw => let ⟨e1, n1, n2⟩ := k a o e nw; ⟨e1, fun z => n1 (w2 a z), n2⟩
theorem fnv_of {P : Program} {w : World} {K : PySem.W.Frag} {mg : Str → Option Value} {base : Heap} {k : Nat} {f : Addr} {name qual : Str} {params : Arguments} {body : List Stmt} {scope : Scope} {dV kV doc pm cdv ct oc : Value} {an od : Option Addr}
    {osl : Array (Option Value)} {N ps : List Str} {bs : List Bool} {mb : MS} (lk : K.lookup f = some ⟨oc, od, .func (PySem.W.fnOf name qual params body scope dV kV doc pm an cdv ct), osl⟩) (hcd : PySem.W.codeIn K cdv qual = true) (S : FnScope N ps scope) (hn : bs.length = ps.length)
    (hbody : ∀ (A : Around) (outer : List Env) (s : Shared) (H : Hp) (E : XK), RoomG k (A.deeper (PyProof.Rows.envOfC qual scope s.heap.objs.size f cdv)) → ∀ σ0, VSs G (cxOf (ia.CX P w) P w K mg base N qual scope f cdv A outer s H E) (fun c d _ H => E c d H) bs σ0 body mb) :
    FnOkG P w K mg base (ia.CX P w) (k + 1) f (PySem.W.fnOf name qual params body scope dV kV doc pm an cdv ct) ps (spV G ps.length (mBody bs N.length mb)) := by
 refine fn_ofG lk hcd S (fun vs H Q E h => h.1) fun A outer s H vs Q E hr h => body_of hn ?_ (hbody A outer s H E hr) h
 have := congrArg List.length S.pre
 rw [List.length_take] at this
 omega
end
end VL
namespace VL
open PySem L2
def wipeV (ρ : VEnv) : List Nat → VEnv
 | [] => ρ
 | i :: is => (wipeV ρ is).set i none
section
variable {G : Gam} {R : Addr → Prop} {H : Hp} {σ : L2.St} {ρ : VEnv} {Os : Nat → List Addr}
theorem Rel.drop1 (rel : Rel G R H σ ρ Os) (i : Nat) : Rel G R H (σ.set i none) (ρ.set i none) (fun j => if j = i then [] else Os j) := by
 have we : ∀ a, We (fun j => if j = i then [] else Os j) a → We Os a := fun a ⟨j, z⟩ => by
  by_cases hj : j = i
  · simp only [hj, if_true] at z; cases z
  · simp only [hj, if_false] at z; exact ⟨j, z⟩
 refine ⟨by rw [List.length_set, List.length_set]; exact rel.len, fun j v hv => ?_, fun j hj => ?_, fun j => ?_, fun j k a ha hb => ?_, fun j a ha => ?_, rel.rt⟩
 · by_cases h : j = i
   · subst h
     by_cases hi : j < ρ.length
     · rw [List.getElem?_set_self hi] at hv; cases hv
     · rw [List.getElem?_eq_none (by rw [List.length_set]; omega)] at hv; cases hv
   · rw [List.getElem?_set_ne (Ne.symm h)] at hv
     obtain ⟨x, e, r⟩ := rel.rep j v hv
     refine ⟨x, by rw [List.getElem?_set_ne (Ne.symm h)]; exact e, ?_⟩
     show Rep G _ H x v (if j = i then [] else Os j)
     rw [if_neg h]
     exact r.weakW fun a z => z.imp id (we a)
 · by_cases h : j = i
   · simp [h]
   · simp only [h, if_false]
     exact rel.nil j fun v hv => hj v (by rw [List.getElem?_set_ne (Ne.symm h)]; exact hv)
 · by_cases h : j = i
   · simp [h]
   · simp only [h, if_false]; exact rel.nd j
 · by_cases h : j = i
   · simp [h] at ha
   · by_cases h2 : k = i
     · simp [h2] at hb
     · simp only [h, h2, if_false] at ha hb; exact rel.dj j k a ha hb
 · by_cases h : j = i
   · simp [h] at ha
   · simp only [h, if_false] at ha; exact rel.dr j a ha
theorem Rel.wipe (rel : Rel G R H σ ρ Os) : ∀ is : List Nat, ∃ Os', Rel G R H (L2.wipe σ is) (wipeV ρ is) Os' ∧ ∀ a, We Os' a → We Os a
 | [] => ⟨Os, rel, fun _ z => z⟩
 | i :: is => by
  obtain ⟨Os', r, w⟩ := Rel.wipe rel is
  refine ⟨_, r.drop1 i, fun a ⟨j, z⟩ => ?_⟩
  by_cases hj : j = i
  · simp only [hj, if_true] at z; cases z
  · simp only [hj, if_false] at z; exact w a ⟨j, z⟩
theorem Rel.unwipe {is : List Nat} (rel : Rel G R H (L2.wipe σ is) ρ Os) : Rel G R H σ ρ Os := by
 refine ⟨by rw [← rel.len, wipe_length], fun i v hv => ?_, rel.nil, rel.nd, rel.dj, rel.dr, rel.rt⟩
 obtain ⟨x, e, r⟩ := rel.rep i v hv
 exact ⟨x, (wipe_some e).1, r⟩
end
def pinsBut (n : Nat) (own : List Nat) : List Bool := (List.range n).map fun j => !own.contains j
theorem wipe_get {σ : L2.St} {j : Nat} : ∀ {is : List Nat}, j ∉ is → (L2.wipe σ is)[j]? = σ[j]?
 | [], _ => rfl
 | i :: is, h => by
  unfold L2.wipe
  rw [List.getElem?_set_ne (fun e => h (by simp [e])), wipe_get fun z => h (List.mem_cons_of_mem _ z)]
theorem wipe_none {σ : L2.St} {j : Nat} : ∀ {is : List Nat}, j ∈ is → j < σ.length → (L2.wipe σ is)[j]? = some none
 | [], h, _ => by cases h
 | i :: is, h, hl => by
  unfold L2.wipe
  by_cases e : i = j
  · subst e
    exact List.getElem?_set_self (by rw [wipe_length]; exact hl)
  · rw [List.getElem?_set_ne e]
    exact wipe_none ((List.mem_cons.mp h).resolve_left fun z => e z.symm) hl
theorem wipe_eq {σ σ2 : L2.St} {own : List Nat} {n : Nat} (hn : σ.length = n) (hl : σ2.length = σ.length) (pin : PinB (pinsBut n own) (L2.wipe σ own) σ2) : L2.wipe σ2 own = L2.wipe σ own := by
 apply List.ext_getElem?
 intro j
 by_cases hj : j < σ.length
 · by_cases ho : j ∈ own
   · rw [wipe_none ho (by rw [hl]; exact hj), wipe_none ho hj]
   · rw [wipe_get ho]
     have h1 : (pinsBut n own)[j]? = some true := by
      unfold pinsBut
      rw [List.getElem?_map, List.getElem?_range (by omega)]
      simp [ho]
     rw [pin j h1]
 · rw [List.getElem?_eq_none (by rw [wipe_length, hl]; omega), List.getElem?_eq_none (by rw [wipe_length]; omega)]
def lcL (g : MG) (tt me : ME) (own : List Nat) : List Val → List Val → VEnv → RE
 | [], acc, ρ => .ok (.lst true acc) ρ
 | u :: us, acc, ρ => match g u ρ with
  | none => .bad
  | some ρ1 => match tt ρ1 with
   | .ok (.bl b) ρ2 => if b = true then (match me ρ2 with
    | .ok v ρ3 => if acc.length < 16777216 then lcL g tt me own us (acc ++ [v]) (wipeV ρ3 own) else .bad
    | _ => .bad) else lcL g tt me own us acc (wipeV ρ2 own)
   | _ => .bad
def mLc (mi : MI) (g : MG) (tt me : ME) (own : List Nat) : ME := fun ρ => match mi ρ with
 | .ok us ρ1 => lcL g tt me own us [] (wipeV ρ1 own)
 | .exc e ρ' => .exc e ρ'
 | .bad => .bad
def mYes : ME := fun ρ => .ok (.bl true) ρ
abbrev WF : WX := fun _ _ _ _ => False
theorem PTs.pre {X : Cx} {ifs : List Expr} {t t' : TT} (h : PTs X ifs t) (k : ∀ σ H Q, t' σ H Q → t σ H Q) : PTs X ifs t' := ⟨fun pins s σ H Q I q => h.run pins s σ H Q I (k σ H Q q)⟩
section
variable {G : Gam} {X : Cx} {E : WX} {p s : Bool} {m : ME} {pos : Pos}
theorem Rel.chg {R : Addr → Prop} {H : Hp} {σ : L2.St} {ρ : VEnv} {Os : Nat → List Addr} {D : Addr} {o : HO} (rel : Rel G R H σ ρ Os) (hD : R D) : Rel G R (upd H D o) σ ρ Os := by
 refine ⟨rel.len, fun i v hv => ?_, rel.nil, rel.nd, rel.dj, rel.dr, fun a z => ?_⟩
 · obtain ⟨x, e, r⟩ := rel.rep i v hv
   refine ⟨x, e, r.mono (fun a o e nw => ⟨(upd_ne (show a ≠ D from fun z => nw (.inl (by rw [z]; exact hD)))).trans e, nw⟩) fun a ha o e => (upd_ne (show a ≠ D from fun z => rel.dr i a ha (by rw [z]; exact hD))).trans e⟩
 · by_cases h : a = D
   · subst h; exact ⟨_, upd_same⟩
   · rw [upd_ne h]; exact rel.rt a z
theorem lc_reading {tg iter elt : Expr} {ow : List Nat} {n : Nat} {wi : TI} {sb : Bool} {mi : MI} {g : MG} {tt me : ME} {σ : L2.St} {H : Hp} {Q : VK} (hwi : wi = tI G E mi) (hlen : σ.length = n) (h : rd G E false true (mLc mi g tt me ow) σ H Q) :
    tLc wi (fun x σ H Q => ∃ σ0, tG G (pinsBut n ow) σ0 g x σ H Q) (tT G WF p tt) (rd G WF sb true me) ow σ H Q := by
 subst hwi
 obtain ⟨R, ρ, Os, rel, post⟩ := h
 refine ⟨R, ρ, Os, rel, ?_⟩
 unfold mLc at post
 cases hm : mi ρ with
 | bad => rw [hm] at post; exact post
 | exc e ρ' => rw [hm] at post; exact post
 | ok us ρ1 =>
  rw [hm] at post
  dsimp only at post
  intro J H1 Os1 rel1 walk keep1 D hD
  obtain ⟨Osw, relw, wew⟩ := rel1.wipe ow
  refine ⟨fun i n H' => n = us.length - i ∧ i ≤ us.length ∧ ∃ ρ2 Os2 acc xs O, Rel G (fun a => R a ∨ a ∈ D :: O) H' (L2.wipe σ ow) ρ2 Os2 ∧ H' D = some (.lst xs) ∧ Reps G (WW (fun a => R a ∨ a ∈ D :: O) Os2) H' xs acc O ∧ (D :: O).Nodup ∧ KeepE H1 Os1 H' Os2 (fun a => a ∈ D :: O) ∧
   Post G R E σ H Os false true ρ Q (lcL g tt me ow (us.drop i) acc ρ2), ⟨us.length, by simp, Nat.zero_le _, wipeV ρ1 ow, Osw, [], [], [], ?_, upd_same, .nil, by simp, fun a o e nw => ?_, by simpa using post⟩, ?_⟩
  · exact relw.grow (same_upd hD) (fun a z => z.imp id fun z => by rw [List.mem_singleton.mp z]; exact hD) fun a z => by
      rcases z with z | z
      · obtain ⟨o, e⟩ := relw.rt a z
        exact ⟨o, same_upd hD a o e⟩
      · rw [List.mem_singleton.mp z]; exact ⟨_, upd_same⟩
  · exact ⟨same_upd hD a o e, fun z => nw (wew a z), fun z => by rw [List.mem_singleton.mp z, hD] at e; cases e⟩
  · rintro i n H' ⟨rfl, hile, ρ2, Os2, acc, xs, O, rel2, hDx, reps, nd, keep2, post2⟩
    have kw : Keep (WW R Os1) H1 (WW (fun a => R a ∨ a ∈ D :: O) Os2) H' := fun a o e nw => by
     obtain ⟨e1, n1, n2⟩ := keep2 a o e fun z => nw (.inr z)
     refine ⟨e1, fun z => ?_⟩
     rcases z with (z | z) | z
     · exact nw (.inl z)
     · exact n2 z
     · exact n1 z
    obtain ⟨hstop, hgo⟩ := walk _ _ kw i
    by_cases hlt : i < us.length
    rotate_left
    · refine .inl ⟨hstop (by omega), ?_⟩
      rw [List.drop_eq_nil_of_le (by omega)] at post2
      unfold lcL at post2
      have e0 : (fun a => R a ∨ a ∈ D :: O) = Rp R true (D :: O) := setEq fun a => ⟨fun z => z.imp id fun z => ⟨rfl, z⟩, fun z => z.imp id fun z => z.2⟩
      rw [e0] at rel2 reps
      refine post2 (.ref D) H' Os2 (D :: O) rel2.unwipe (.lstO hDx reps) (fun _ => nd) (fun a o e nw => ?_) fun z => by cases z
      obtain ⟨e1, n1, _⟩ := keep1 a o e nw
      obtain ⟨e2, n2, n3⟩ := keep2 a o e1 n1
      exact ⟨e2, n2, fun z => n3 z.2⟩
    refine .inr ?_
    obtain ⟨go, yld⟩ := hgo us[i] (List.getElem?_eq_getElem hlt)
    refine ⟨go, fun H3 => i + 1 ≤ us.length ∧ ∃ ρ2 Os2 acc xs O, Rel G (fun a => R a ∨ a ∈ D :: O) H3 (L2.wipe σ ow) ρ2 Os2 ∧ H3 D = some (.lst xs) ∧ Reps G (WW (fun a => R a ∨ a ∈ D :: O) Os2) H3 xs acc O ∧ (D :: O).Nodup ∧ KeepE H1 Os1 H3 Os2 (fun a => a ∈ D :: O) ∧
     Post G R E σ H Os false true ρ Q (lcL g tt me ow (us.drop (i + 1)) acc ρ2), fun H3 ⟨h1, h2⟩ => ⟨us.length - (i + 1), by omega, rfl, h1, h2⟩, fun x H'' y => ?_⟩
    obtain ⟨same, repw⟩ := yld x H'' y
    have rep := repw fun p hp => rel2.ww hp
    have rel3 : Rel G (fun a => R a ∨ a ∈ D :: O) H'' (L2.wipe σ ow) ρ2 Os2 := rel2.grow same (fun a z => .inl z) fun a z => let ⟨o, e⟩ := rel2.rt a z; ⟨o, same a o e⟩
    have keep3 : KeepE H1 Os1 H'' Os2 fun a => a ∈ D :: O := keep2.grow same fun a z => .inl z
    have hD3 := same D _ hDx
    have reps3 : Reps G (WW (fun a => R a ∨ a ∈ D :: O) Os2) H'' xs acc O := reps.mono (fun a o e nw => ⟨same a o e, nw⟩) fun a _ o e => same a o e
    rw [List.drop_eq_getElem_cons hlt] at post2
    unfold lcL at post2
    have e0 : (fun a => R a ∨ a ∈ D :: O) = fun a => (R a ∨ a ∈ D :: O) ∨ a ∈ ([] : List Addr) := setEq fun a => ⟨.inl, fun z => z.elim id fun z => nomatch z⟩
    refine ⟨L2.wipe σ ow, fun a => R a ∨ a ∈ D :: O, ρ2, Os2, us[i], [], e0 ▸ rel3, e0 ▸ rep, List.nodup_nil, fun a z => (nomatch z), fun _ _ => rfl, ?_⟩
    cases hgu : g us[i] ρ2 with
    | none => rw [hgu] at post2; exact post2
    | some ρ3 =>
     rw [hgu] at post2
     dsimp only at post2
     intro σ3 Os3 pin3 hl3 rel4 we4
     have hw : L2.wipe σ3 ow = L2.wipe σ ow := wipe_eq hlen (by rw [hl3, wipe_length]) pin3
     have keep4 : KeepE H1 Os1 H'' Os3 fun a => a ∈ D :: O := fun a o e nw => let ⟨e1, n1, n2⟩ := keep3 a o e nw; ⟨e1, fun z => (we4 a z).elim n1 (fun z => nomatch z), n2⟩
     have reps4 : Reps G (WW (fun a => R a ∨ a ∈ D :: O) Os3) H'' xs acc O := reps3.weakW fun a z => z.imp id fun z => (we4 a z).elim id fun z => nomatch z
     refine ⟨hw, fun a => R a ∨ a ∈ D :: O, ρ3, Os3, rel4, ?_⟩
     /- what a step within the block leaves -/
     have step : ∀ {H5 : Hp} {Os5 : Nat → List Addr} {ρ5 : VEnv} {Oy : List Addr}, Rel G (fun a => (R a ∨ a ∈ D :: O) ∨ a ∈ Oy) H5 σ3 ρ5 Os5 → KeepE H'' Os3 H5 Os5 (fun a => a ∈ Oy) → H5 D = some (.lst xs) ∧ Reps G (WW (fun a => (R a ∨ a ∈ D :: O) ∨ a ∈ Oy) Os5) H5 xs acc O ∧ KeepE H1 Os1 H5 Os5 (fun a => a ∈ D :: O ∨ a ∈ Oy) ∧ (∀ a ∈ D :: O, a ∉ Oy) := by
      intro H5 Os5 ρ5 Oy rel5 k5
      have fix : ∀ a ∈ D :: O, ∀ o, H'' a = some o → H5 a = some o ∧ a ∉ Oy := fun a ha o e => let ⟨e1, _, n2⟩ := k5 a o e (rel4.nr (.inr ha)); ⟨e1, n2⟩
      refine ⟨(fix D List.mem_cons_self _ hD3).1, reps4.mono (fun a o e nw => ?_) (fun a ha o e => (fix a (List.mem_cons_of_mem _ ha) o e).1), fun a o e nw => ?_, fun a ha => ?_⟩
      · obtain ⟨e1, n1, n2⟩ := k5 a o e fun z => nw (.inr z)
        refine ⟨e1, fun z => ?_⟩
        rcases z with (z | z) | z
        · exact nw (.inl z)
        · exact n2 z
        · exact n1 z
      · obtain ⟨e1, n1, n2⟩ := keep4 a o e nw
        obtain ⟨e2, n3, n4⟩ := k5 a o e1 n1
        exact ⟨e2, n3, fun z => z.elim n2 n4⟩
      · obtain ⟨o, e⟩ := rel4.rt a (.inr ha)
        exact (fix a ha o e).2
     cases htt : tt ρ3 with
     | bad => rw [htt] at post2; exact post2.elim
     | exc e ρ4 => rw [htt] at post2; exact post2.elim
     | ok tv ρ4 =>
      rw [htt] at post2
      cases tv with
      | bl b =>
       intro H5 Os5 rel5 k5 _
       have r5 : Rel G (fun a => (R a ∨ a ∈ D :: O) ∨ a ∈ ([] : List Addr)) H5 σ3 ρ4 Os5 := e0 ▸ rel5
       obtain ⟨hD5, reps5, keep5, _⟩ := step r5 (k5.imp fun a z => nomatch z)
       rw [← e0] at reps5
       cases b with
       | false =>
        simp only [Bool.false_eq_true, if_false] at post2 ⊢
        obtain ⟨Os6, rel6, we6⟩ := rel5.wipe ow
        rw [hw] at rel6
        exact ⟨hlt, wipeV ρ4 ow, Os6, acc, xs, O, rel6, hD5, reps5.weakW fun a z => z.imp id (we6 a), nd, fun a o e nw => let ⟨e1, n1, n2⟩ := keep5 a o e nw; ⟨e1, fun z => n1 (we6 a z), fun z => n2 (.inl z)⟩, post2⟩
       | true =>
        simp only [if_true] at post2 ⊢
        refine ⟨fun a => R a ∨ a ∈ D :: O, ρ4, Os5, rel5, ?_⟩
        cases hme : me ρ4 with
        | bad => rw [hme] at post2; exact post2.elim
        | exc e ρ6 => rw [hme] at post2; exact post2.elim
        | ok v ρ6 =>
         rw [hme] at post2
         dsimp only at post2
         intro yv H6 Os6 Oy rel6 rep6 nd6 k6 _
         by_cases hacc : acc.length < 16777216
         rotate_left
         · rw [if_neg hacc] at post2; exact post2.elim
         rw [if_pos hacc] at post2
         have e1 : Rp (fun a => R a ∨ a ∈ D :: O) true Oy = fun a => (R a ∨ a ∈ D :: O) ∨ a ∈ Oy := setEq fun a => ⟨fun z => z.imp id fun z => z.2, fun z => z.imp id fun z => ⟨rfl, z⟩⟩
         rw [e1] at rel6 rep6
         have k56 : KeepE H'' Os3 H6 Os6 fun a => a ∈ Oy := fun a o e nw => by
          obtain ⟨e2, n2, _⟩ := k5 a o e nw
          obtain ⟨e3, n3, n4⟩ := k6 a o e2 n2
          exact ⟨e3, n3, fun z => n4 ⟨rfl, z⟩⟩
         obtain ⟨hD6, reps6, keep6, dis⟩ := step rel6 k56
         have hxl : xs.length = acc.length := reps6.length
         refine ⟨xs, hD6, by rw [hxl]; exact (sizeLine_eq ▸ hacc), hlt, ?_⟩
         have e2 : (fun a => (R a ∨ a ∈ D :: O) ∨ a ∈ Oy) = fun a => R a ∨ a ∈ D :: (O ++ Oy) := setEq fun a => by
          rw [List.mem_cons, List.mem_cons, List.mem_append]
          constructor
          · rintro ((z | z | z) | z)
            · exact .inl z
            · exact .inr (.inl z)
            · exact .inr (.inr (.inl z))
            · exact .inr (.inr (.inr z))
          · rintro (z | z | z | z)
            · exact .inl (.inl z)
            · exact .inl (.inr (.inl z))
            · exact .inl (.inr (.inr z))
            · exact .inr z
         rw [e2] at rel6 rep6 reps6
         have rel7 := Rel.chg (D := D) (o := .lst (xs ++ [yv])) rel6 (.inr List.mem_cons_self)
         obtain ⟨Os8, rel8, we8⟩ := rel7.wipe ow
         rw [hw] at rel8
         obtain ⟨nd1, nd2⟩ := List.nodup_cons.mp nd
         have dOy : D ∉ Oy := dis D List.mem_cons_self
         have all : Reps G (WW (fun a => R a ∨ a ∈ D :: (O ++ Oy)) Os6) H6 (xs ++ [yv]) (acc ++ [v]) (O ++ (Oy ++ [])) := reps6.append (.cons rep6 .nil)
         rw [List.append_nil] at all
         have all2 : Reps G (WW (fun a => R a ∨ a ∈ D :: (O ++ Oy)) Os6) (upd H6 D (.lst (xs ++ [yv]))) (xs ++ [yv]) (acc ++ [v]) (O ++ Oy) := all.mono (fun a o e nw => ⟨by rw [upd_ne fun z => nw (.inl (.inr (by rw [z]; exact List.mem_cons_self)))]; exact e, nw⟩) fun a ha o e => by
          rw [upd_ne fun z => ?_]; exact e
          subst z
          exact (List.mem_append.mp ha).elim nd1 dOy
         refine ⟨wipeV ρ6 ow, Os8, acc ++ [v], xs ++ [yv], O ++ Oy, rel8, upd_same, all2.weakW fun a z => z.imp id (we8 a), ?_, fun a o e nw => ?_, post2⟩
         · refine List.nodup_cons.mpr ⟨fun z => (List.mem_append.mp z).elim nd1 dOy, List.nodup_append.mpr ⟨nd2, nd6 rfl, fun a ha b hb e => dis a (List.mem_cons_of_mem _ ha) (e ▸ hb)⟩⟩
         · obtain ⟨e3, n3, n4⟩ := keep6 a o e nw
           refine ⟨by rw [upd_ne fun z => n4 (.inl (by rw [z]; exact List.mem_cons_self))]; exact e3, fun z => n3 (we8 a z), fun z => n4 ?_⟩
           rcases List.mem_cons.mp z with z | z
           · exact .inl (by rw [z]; exact List.mem_cons_self)
           · exact (List.mem_append.mp z).imp (List.mem_cons_of_mem _) id
      | _ => exact post2.elim
theorem ve_lc {sb : Bool} {elt tg iter : Expr} {ifs : List Expr} {scope : Scope} {own : List (Str × Nat)} {mi : MI} {g : MG} {tt me : ME} (hc : X.calm = true) (hN : X.N.Nodup) (hi : VI G X E tg iter mi) (ok : BlkOk X.N X.env.scope scope own)
    (hg : ∀ (s : Shared) (H : Hp) (C : Addr) (cl : List (Str × Addr)) (fp : List Addr) (σ0 : L2.St), VG G (X.blk s H scope (compEnvC scope cl C X.env) fp) (pinsBut X.N.length (own.map (·.2))) σ0 tg g)
    (ht : ∀ (s : Shared) (H : Hp) (C : Addr) (cl : List (Str × Addr)) (fp : List Addr), PTs (X.blk s H scope (compEnvC scope cl C X.env) fp) ifs (tT G WF p tt))
    (he : ∀ (s : Shared) (H : Hp) (C : Addr) (cl : List (Str × Addr)) (fp : List Addr), VE G (X.blk s H scope (compEnvC scope cl C X.env) fp) WF sb true elt me) (hs : ∀ x, foldedSetIterable iter X.env x = pure x := by intro _; rfl) :
    VE G X E false true (.ListComp elt [⟨tg, iter, ifs, 0⟩] scope pos) (mLc mi g tt me (own.map (·.2))) := by
 have hg2 : ∀ (s : Shared) (H : Hp) (C : Addr) (cl : List (Str × Addr)) (fp : List Addr), PG (X.blk s H scope (compEnvC scope cl C X.env) fp) tg (fun x σ H Q => ∃ σ0, tG G (pinsBut X.N.length (own.map (·.2))) σ0 g x σ H Q) := fun s H C cl fp =>
  ⟨fun pins st σ H' v u Q I r ⟨σ0, q⟩ => (hg s H C cl fp σ0).run pins st σ H' v u Q I r q⟩
 exact ⟨fun pins s1 σ H Q I h => (pe_lc hc hN hi ok hg2 ht he hs).run pins s1 σ H Q I (lc_reading (tg := tg) (iter := iter) (elt := elt) rfl I.len h)⟩
end
end VL
namespace VL
open PySem L2
section
variable {G : Gam} {X : Cx} {E : WX} {bs : List Bool} {σ0 : L2.St} {p s : Bool} {m : ME} {pos pos' apos : Pos}
theorem Rel.root {R : Addr → Prop} {H : Hp} {σ : L2.St} {ρ : VEnv} {Os : Nat → List Addr} {O P P' : List Addr} {i : Nat} {v w : Val} {a : Addr} {ob ob' : HO} (rel : Rel G (fun a => R a ∨ a ∈ O) H σ ρ Os) (nO : ∀ a ∈ O, ¬ R a) (hv : ρ[i]? = some (some v)) (hx : σ[i]? = some (some (.ref a))) (hO : Os i = a :: P)
    (ha : H a = some ob) (hP : ∀ b ∈ P', b ∈ P ∨ b ∈ O) (nd : P'.Nodup)
    (mk : (∀ z u Oz, (∀ b ∈ Oz, b ∈ P ∨ b ∈ O) → Rep G (WW (fun a => R a ∨ a ∈ O) Os) H z u Oz → Rep G (WW R (fun j => if j = i then a :: P' else Os j)) (upd H a ob') z u Oz) → upd H a ob' a = some ob' → Rep G (WW R (fun j => if j = i then a :: P' else Os j)) (upd H a ob') (.ref a) w (a :: P')) :
    Rel G R (upd H a ob') σ (ρ.set i (some w)) (fun j => if j = i then a :: P' else Os j) ∧ ∀ b o, H b = some o → ¬ We Os b → ¬ b ∈ O → upd H a ob' b = some o ∧ ¬ We (fun j => if j = i then a :: P' else Os j) b := by
 have ain : a ∈ Os i := by rw [hO]; exact List.mem_cons_self
 have hnd := rel.nd i
 rw [hO] at hnd
 obtain ⟨nd1, nd2⟩ := List.nodup_cons.mp hnd
 have aO : a ∉ O := fun z => rel.dr i a ain (.inr z)
 have ne : ∀ b, b ∈ P ∨ b ∈ O → b ≠ a := fun b h e => h.elim (fun z => nd1 (e ▸ z)) fun z => aO (e ▸ z)
 have old : ∀ b ∈ a :: P', b ∈ Os i ∨ b ∈ O := fun b h => by
  rcases List.mem_cons.mp h with z | z
  · exact .inl (z ▸ ain)
  · exact (hP b z).imp (fun z => by rw [hO]; exact List.mem_cons_of_mem _ z) id
 have we : ∀ b, We (fun j => if j = i then a :: P' else Os j) b → We Os b ∨ b ∈ O := fun b ⟨j, z⟩ => by
  by_cases hj : j = i
  · simp only [hj, if_true] at z; exact (old b z).imp (fun z => ⟨i, z⟩) id
  · simp only [hj, if_false] at z; exact .inl ⟨j, z⟩
 have kp : Keep (WW (fun a => R a ∨ a ∈ O) Os) H (WW R (fun j => if j = i then a :: P' else Os j)) (upd H a ob') := fun b o e nw => by
  refine ⟨(upd_ne (show b ≠ a from fun z => nw (.inr ⟨i, by rw [z]; exact ain⟩))).trans e, fun z => ?_⟩
  rcases z with z | z
  · exact nw (.inl (.inl z))
  · exact (we b z).elim (fun z => nw (.inr z)) fun z => nw (.inl (.inr z))
 have hi : i < ρ.length := (List.getElem?_eq_some_iff.mp hv).1
 refine ⟨⟨by rw [List.length_set]; exact rel.len, fun j u hu => ?_, fun j hj => ?_, fun j => ?_, fun j k b hb hb' => ?_, fun j b hb z => ?_, fun b z => ?_⟩, fun b o e nw nO => ⟨(upd_ne (show b ≠ a from fun z => nw ⟨i, by rw [z]; exact ain⟩)).trans e, fun z => (we b z).elim nw nO⟩⟩
 · by_cases h : j = i
   · subst h
     rw [List.getElem?_set_self hi] at hu
     cases hu
     refine ⟨.ref a, hx, ?_⟩
     show Rep G _ _ _ _ (if j = j then a :: P' else Os j)
     rw [if_pos rfl]
     exact mk (fun z u Oz hz r => r.mono kp fun b hb o e => by rw [upd_ne (ne b (hz b hb))]; exact e) upd_same
   · rw [List.getElem?_set_ne (Ne.symm h)] at hu
     obtain ⟨x, e, r⟩ := rel.rep j u hu
     refine ⟨x, e, ?_⟩
     show Rep G _ _ _ _ (if j = i then a :: P' else Os j)
     rw [if_neg h]
     exact r.mono kp fun b hb o e => (upd_ne (show b ≠ a from fun z => h (rel.dj j i a (by rw [← z]; exact hb) ain))).trans e
 · by_cases h : j = i
   · subst h; exact absurd (List.getElem?_set_self hi) (hj w)
   · simp only [h, if_false]
     exact rel.nil j fun u hu => hj u (by rw [List.getElem?_set_ne (Ne.symm h)]; exact hu)
 · by_cases h : j = i
   · simp only [h, if_true]
     exact List.nodup_cons.mpr ⟨fun z => ne a (hP a z) rfl, nd⟩
   · simp only [h, if_false]; exact rel.nd j
 · by_cases h : j = i <;> by_cases h' : k = i
   · rw [h, h']
   · simp only [h, h', if_true, if_false] at hb hb'
     exact (old b hb).elim (fun z => absurd (rel.dj k i b hb' z) h') fun z => absurd (.inr z) (rel.dr k b hb')
   · simp only [h, h', if_true, if_false] at hb hb'
     exact (old b hb').elim (fun z => absurd (rel.dj j i b hb z) h) fun z => absurd (.inr z) (rel.dr j b hb)
   · simp only [h, h', if_false] at hb hb'; exact rel.dj j k b hb hb'
 · by_cases h : j = i
   · simp only [h, if_true] at hb
     exact (old b hb).elim (fun q => rel.dr i b q (.inl z)) fun q => nO b q z
   · simp only [h, if_false] at hb; exact rel.dr j b hb (.inl z)
 · by_cases h : b = a
   · subst h; exact ⟨_, upd_same⟩
   · rw [upd_ne h]; exact rel.rt b (.inl z)
def putFn (f : Str) (ns : List Str) : List Str := if f ∈ ns then ns else ns ++ [f]
def putFv (f : Str) (v : Val) : List Str → List Val → List Val
 | n :: ns, x :: xs => if n = f then v :: xs else x :: putFv f v ns xs
 | _, _ => [v]
theorem putFn_map {f : Str} {y : V} : ∀ fs : List (Str × V), (putF f y fs).map (·.1) = putFn f (fs.map (·.1))
 | [] => by simp [putF, putFn]
 | (g, x) :: r => by
  have ih := putFn_map (f := f) (y := y) r
  unfold putF
  by_cases h : g = f
  · rw [if_pos h]; simp [putFn, h]
  · rw [if_neg h]
    simp only [List.map_cons, ih]
    unfold putFn
    by_cases h2 : f ∈ r.map (·.1)
    · rw [if_pos h2, if_pos (List.mem_cons_of_mem _ h2)]
    · rw [if_neg h2, if_neg (fun z => (List.mem_cons.mp z).elim (fun z => h z.symm) h2)]
      rfl
theorem reps_putF {W W' : Addr → Prop} {H H' : Hp} {P0 O : List Addr} {f : Str} {y : V} {v : Val} (tr : ∀ z u Oz, (∀ b ∈ Oz, b ∈ P0 ∨ b ∈ O) → Rep G W H z u Oz → Rep G W' H' z u Oz) (ry : Rep G W H y v O) (ndO : O.Nodup) :
    ∀ {fs : List (Str × V)} {vs : List Val} {P : List Addr}, Reps G W H (fs.map (·.2)) vs P → (∀ b ∈ P, b ∈ P0) → P.Nodup → (∀ b ∈ P, b ∉ O) →
     ∃ P', Reps G W' H' ((putF f y fs).map (·.2)) (putFv f v (fs.map (·.1)) vs) P' ∧ (∀ b ∈ P', b ∈ P ∨ b ∈ O) ∧ P'.Nodup
 | [], vs, P, r, hs, nd, dj => by
  cases r
  refine ⟨O ++ [], .cons (tr _ _ _ (fun b hb => .inr hb) ry) .nil, fun b hb => .inr (by simpa using hb), by simpa using ndO⟩
 | (g, x) :: fs, vs, P, r, hs, nd, dj => by
  cases r with
  | @cons _ w _ ws O1 O2 r t =>
   obtain ⟨n1, n2, n3⟩ := List.nodup_append.mp nd
   have h2 : ∀ b ∈ O2, b ∈ P0 := fun b hb => hs b (List.mem_append_right _ hb)
   simp only [List.map_cons]
   unfold putF putFv
   by_cases h : g = f
   · rw [if_pos h, if_pos h]
     have t' : Reps G W' H' (fs.map (·.2)) ws O2 := by
      clear r n3 n1 nd dj hs
      generalize fs.map (·.2) = xs at t
      induction ws generalizing xs O2 with
      | nil => cases t; exact .nil
      | cons u us ih =>
       cases t with
       | @cons _ _ _ _ Oa Ob r t =>
        obtain ⟨m1, m2, m3⟩ := List.nodup_append.mp n2
        exact .cons (tr _ _ _ (fun b hb => .inl (h2 b (List.mem_append_left _ hb))) r) (ih m2 (fun b hb => h2 b (List.mem_append_right _ hb)) _ t)
     refine ⟨O ++ O2, .cons (tr _ _ _ (fun b hb => .inr hb) ry) t', fun b hb => ?_, List.nodup_append.mpr ⟨ndO, n2, fun a ha b hb e => dj b (List.mem_append_right _ hb) (e ▸ ha)⟩⟩
     rcases List.mem_append.mp hb with z | z
     · exact .inr z
     · exact .inl (List.mem_append_right _ z)
   · rw [if_neg h, if_neg h]
     obtain ⟨P', q1, q2, q3⟩ := reps_putF tr ry ndO t h2 n2 fun b hb => dj b (List.mem_append_right _ hb)
     refine ⟨O1 ++ P', .cons (tr _ _ _ (fun b hb => .inl (hs b (List.mem_append_left _ hb))) r) q1, fun b hb => ?_, List.nodup_append.mpr ⟨n1, q3, fun a ha b hb e => ?_⟩⟩
     · rcases List.mem_append.mp hb with z | z
       · exact .inl (List.mem_append_left _ z)
       · exact (q2 b z).imp (List.mem_append_right _) id
     · subst e
       exact (q2 a hb).elim (fun z => n3 a ha a z rfl) fun z => dj a (List.mem_append_left _ ha) z
def mSetF (cs : List Nat) (i : Nat) (f : Str) (m : ME) : MS := fun ρ => match m ρ with
 | .ok v ρ1 => (match ρ1[i]? with
  | some (some (.obj true n fs xs)) => if n ∈ cs ∧ fs.length < 1000 then .nx (ρ1.set i (some (.obj true n (putFn f fs) (putFv f v fs xs)))) else .bad
  | _ => .bad)
 | .exc e ρ' => .exc e ρ'
 | .bad => .bad
theorem rep_objO {W : Addr → Prop} {H : Hp} {x : V} {n : Nat} {ns : List Str} {vs : List Val} {O : List Addr} (r : Rep G W H x (.obj true n ns vs) O) : ∃ a C dx fs P, x = .ref a ∧ O = a :: P ∧ H a = some (.ins C dx fs) ∧ G.cn n = some C ∧ ns = fs.map (·.1) ∧ Reps G W H (fs.map (·.2)) vs P := by
 cases r with
 | objO h hc hn r => exact ⟨_, _, _, _, _, rfl, rfl, h, hc, hn, r⟩
theorem vs_setF {cs : List Nat} {i : Nat} {f : Str} {o e : Expr} (F : FldF G X.K cs f) (ho : PE X o (tVar i)) (he : VE G X E p true e m) (hs : swapsWith e (some (.Attribute o f pos')) pos.line X.env = pure false := by rfl) :
    VS G X E bs σ0 (.Assign [.Attribute o f pos'] e pos) (mSetF cs i f m) := by
 refine PS.pre (ps_fld ho he hs) fun D σ H ⟨R, ρ, Os, rel, pin, post⟩ => ⟨R, ρ, Os, rel, ?_⟩
 refine PostS.post (s := true) (f := fun v ρ1 => match ρ1[i]? with
  | some (some (.obj true n fs xs)) => if n ∈ cs ∧ fs.length < 1000 then .nx (ρ1.set i (some (.obj true n (putFn f fs) (putFv f v fs xs)))) else .bad
  | _ => .bad) pin post fun v ρ1 y H1 Os1 O _ post rel1 rep nd k => ?_
 have e0 : Rp R true O = fun a => R a ∨ a ∈ O := setEq fun a => ⟨fun z => z.imp id fun z => z.2, fun z => z.imp id fun z => ⟨rfl, z⟩⟩
 rw [e0] at rel1 rep
 have nO : ∀ a ∈ O, ¬ R a := fun a ha z => let ⟨o, e, nw⟩ := rel.hr a z; (k a o e nw).2.2 ⟨rfl, ha⟩
 split at post
 · rename_i n fs xs hv
   by_cases hn : n ∈ cs ∧ fs.length < 1000
   rotate_left
   · rw [if_neg hn] at post; exact post.elim
   rw [if_pos hn] at post
   obtain ⟨x, hx, rv⟩ := rel1.rep i _ hv
   obtain ⟨a, C, dx, fs', P, rfl, hO, ea, hC, rfl, reps⟩ := rep_objO rv
   obtain ⟨c1, c2⟩ := F _ hn.1 C hC
   have hnd := rel1.nd i
   rw [hO] at hnd
   obtain ⟨nd1, nd2⟩ := List.nodup_cons.mp hnd
   refine ⟨.ref a, hx, a, C, dx, fs', rfl, ea, c1, c2, by simpa using hn.2, ?_⟩
   have djP : ∀ b ∈ P, b ∉ O := fun b hb z => rel1.dr i b (by rw [hO]; exact List.mem_cons_of_mem _ hb) (.inr z)
   obtain ⟨P', _, hP', ndP'⟩ := reps_putF (f := f) (P0 := P) (fun z u Oz _ r => r) rep (nd rfl) reps (fun b hb => hb) nd2 djP
   obtain ⟨r2, k2⟩ := Rel.root (P' := P') (ob' := .ins C dx (putF f y fs')) (w := .obj true n (putFn f (fs'.map (·.1))) (putFv f v (fs'.map (·.1)) xs)) rel1 nO hv hx hO ea hP' ndP' fun tr same => by
    have key : ∀ {fs : List (Str × V)} {vs : List Val} {P2 : List Addr}, Reps G (WW (fun a => R a ∨ a ∈ O) Os1) H1 (fs.map (·.2)) vs P2 → (∀ b ∈ P2, b ∈ P ∨ b ∈ O) → Reps G (WW R (fun j => if j = i then a :: P' else Os1 j)) (upd H1 a (.ins C dx (putF f y fs'))) (fs.map (·.2)) vs P2 := by
     intro fs vs P2 r hP2
     generalize fs.map (·.2) = zs at r
     induction vs generalizing zs P2 with
     | nil => cases r; exact .nil
     | cons u us ih =>
      cases r with
      | cons r t => exact .cons (tr _ _ _ (fun b hb => hP2 b (List.mem_append_left _ hb)) r) (ih (fun b hb => hP2 b (List.mem_append_right _ hb)) _ t)
    exact .objO same hC (putFn_map fs').symm (key ‹_› hP')
   refine post σ _ _ pin r2 fun b o e nw => ?_
   obtain ⟨e1, n1, n2⟩ := k b o e nw
   obtain ⟨e2, n3⟩ := k2 b o e1 n1 fun z => n2 ⟨rfl, z⟩
   exact ⟨e2, n3, id⟩
 · exact post.elim
def mPutL (i : Nat) (mi m : ME) : MS := fun ρ => match m ρ with
 | .ok v ρ1 => (match mi ρ1 with
  | .ok (.int k) ρ2 => if ρ2 = ρ1 then (match ρ2[i]? with
   | some (some (.lst true xs)) => (match ixN xs.length k with
    | some j => .nx (ρ2.set i (some (.lst true (xs.set j v))))
    | none => .bad)
   | _ => .bad) else .bad
  | _ => .bad)
 | .exc e ρ' => .exc e ρ'
 | .bad => .bad
theorem vs_putL {i : Nat} {o e ix : Expr} {mi : ME} {sp2 : Bool} (ho : PE X o (tVar i)) (hi : VE G X E true sp2 ix mi) (he : VE G X E p true e m) (hs : swapsWithSole [.Subscript o ix pos'] e pos.line X.env = pure false := by rfl) (hw : swappedStores [.Subscript o ix pos'] e X.env = pure none := by rfl)
    (h1 : (assignEach [.Subscript o ix pos'] X.env).map (·.2) = [assign (.Subscript o ix pos') X.env] := by rfl)
    (ha : ∀ v, assign (.Subscript o ix pos') X.env v = (do
     let ov ← holding [v] (eval o X.env)
     let iv ← holding [v, ov] (eval ix X.env)
     standAt pos'
     holding [v, ov, iv] (setItem ov iv v)
     release [v, ov, iv] []) := by intro _; rfl) : VS G X E bs σ0 (.Assign [.Subscript o ix pos'] e pos) (mPutL i mi m) := by
 refine PS.pre (ps_asg he (pg_sub ho hi set_list ha) hs hw h1) fun D σ H ⟨R, ρ, Os, rel, pin, post⟩ => ⟨R, ρ, Os, rel, ?_⟩
 refine PostS.post (s := true) (f := fun v ρ1 => match mi ρ1 with
  | .ok (.int k) ρ2 => if ρ2 = ρ1 then (match ρ2[i]? with
   | some (some (.lst true xs)) => (match ixN xs.length k with
    | some j => .nx (ρ2.set i (some (.lst true (xs.set j v))))
    | none => .bad)
   | _ => .bad) else .bad
  | _ => .bad) pin post fun v ρ1 y H1 Os1 O _ post rel1 rep nd k => ?_
 have e0 : Rp R true O = fun a => R a ∨ a ∈ O := setEq fun a => ⟨fun z => z.imp id fun z => z.2, fun z => z.imp id fun z => ⟨rfl, z⟩⟩
 rw [e0] at rel1 rep
 have nO : ∀ a ∈ O, ¬ R a := fun a ha z => let ⟨o, e, nw⟩ := rel.hr a z; (k a o e nw).2.2 ⟨rfl, ha⟩
 have kl : KeepE H Os H1 Os1 fun _ => False := k.imp fun _ z => z.elim
 cases hmi : mi ρ1 with
 | bad => rw [hmi] at post; exact post.elim
 | exc ee ρ2 => rw [hmi] at post; exact post.elim
 | ok kv ρ2 =>
  rw [hmi] at post
  cases kv with
  | int kk =>
   dsimp only at post
   by_cases hp : ρ2 = ρ1
   rotate_left
   · rw [if_neg hp] at post; exact post.elim
   rw [if_pos hp] at post
   subst hp
   split at post
   · rename_i xs hv
     cases hj : ixN xs.length kk with
     | none => rw [hj] at post; exact post.elim
     | some j =>
      rw [hj] at post
      dsimp only at post
      obtain ⟨x, hx, rv⟩ := rel1.rep i _ hv
      refine ⟨x, hx, fun a => R a ∨ a ∈ O, ρ2, Os1, rel1, ?_⟩
      rw [hmi]
      intro kv H2 Os2 Ok rel2 rk ndk k2 pure
      cases rk
      obtain ⟨_, rfl, same⟩ := pure rfl
      have rel3 : Rel G (fun a => R a ∨ a ∈ O) H2 σ ρ2 Os2 := rel2.weak fun a z => .inl z
      obtain ⟨x', hx', rv3⟩ := rel3.rep i _ hv
      rw [hx] at hx'
      cases hx'
      have rep3 : Rep G (WW (fun a => R a ∨ a ∈ O) Os2) H2 y v O := rep.mono (fun a o e nw => ⟨same a o e, nw⟩) fun a _ o e => same a o e
      generalize hOi : Os2 i = Oi at rv3
      cases rv3 with
      | @lstO a ys _ P ea r =>
       obtain ⟨w, hw⟩ : ∃ w, xs[j]? = some w := ⟨xs[j]'((ixN_seq hj).2.1), List.getElem?_eq_getElem _⟩
       obtain ⟨z, O1, Oz, O2, e1, e2, rz, set⟩ := r.set hw
       have hnd := rel3.nd i
       rw [hOi] at hnd
       obtain ⟨nd1, nd2⟩ := List.nodup_cons.mp hnd
       rw [e2] at nd2
       obtain ⟨m1, m2, m3⟩ := List.nodup_append.mp nd2
       obtain ⟨m4, m5, m6⟩ := List.nodup_append.mp m2
       have djP : ∀ b ∈ P, b ∉ O := fun b hb z => rel3.dr i b (by rw [hOi]; exact List.mem_cons_of_mem _ hb) (.inr z)
       have hP' : ∀ b ∈ O1 ++ (O ++ O2), b ∈ P ∨ b ∈ O := fun b hb => by
        rw [e2]
        rcases List.mem_append.mp hb with q | q
        · exact .inl (List.mem_append_left _ q)
        · rcases List.mem_append.mp q with q | q
          · exact .inr q
          · exact .inl (List.mem_append_right _ (List.mem_append_right _ q))
       have ndP' : (O1 ++ (O ++ O2)).Nodup := by
        refine List.nodup_append.mpr ⟨m1, List.nodup_append.mpr ⟨nd rfl, m5, fun b hb c hc e => djP c (by rw [e2]; exact List.mem_append_right _ (List.mem_append_right _ hc)) (e ▸ hb)⟩, fun b hb c hc e => ?_⟩
        subst e
        rcases List.mem_append.mp hc with q | q
        · exact djP b (by rw [e2]; exact List.mem_append_left _ hb) q
        · exact m3 b hb b (List.mem_append_right _ q) rfl
       refine ⟨a, ys, kk, j, rfl, rfl, ea, by rw [r.length]; exact hj, ?_⟩
       obtain ⟨r2, k3⟩ := Rel.root (P' := O1 ++ (O ++ O2)) (ob' := .lst (ys.set j y)) (w := .lst true (xs.set j v)) rel3 nO hv hx hOi ea hP' ndP' fun tr same2 => by
        refine .lstO same2 (set _ _ y v O (fun z u Oz hz r => tr z u Oz (fun b hb => ?_) r) (tr _ _ _ (fun b hb => .inr hb) rep3))
        rw [e2]
        rcases List.mem_append.mp (hz b hb) with q | q
        · exact .inl (List.mem_append_left _ q)
        · exact .inl (List.mem_append_right _ (List.mem_append_right _ q))
       refine post σ _ _ pin r2 fun b o e nw => ?_
       obtain ⟨e3, n1, n2⟩ := k b o e nw
       obtain ⟨e4, n3⟩ := k3 b o (same b o e3) n1 fun z => n2 ⟨rfl, z⟩
       exact ⟨e4, n3, id⟩
   · exact post.elim
  | _ => exact post.elim
end
end VL
namespace VL
open PySem L2
def mJoin : List ME → Str → ME
 | [], acc => fun ρ => .ok (.str acc) ρ
 | m :: ms, acc => fun ρ => match m ρ with
  | .ok (.str y) ρ1 => if (acc ++ y).length ≤ 16777216 then mJoin ms (acc ++ y) ρ1 else .bad
  | .ok _ _ => .bad
  | .exc e ρ1 => .exc e ρ1
  | .bad => .bad
section
variable {G : Gam} {X : Cx} {E : WX} {p s : Bool} {m : ME} {pos : Pos}
inductive VJ (G : Gam) (X : Cx) (E : WX) : List Expr → List Op → Prop where
 | nil : VJ G X E [] []
 | cons {e : Expr} {p s : Bool} {m : ME} {es : List Expr} {os : List Op} (h : VE G X E p s e m) (r : VJ G X E es os) : VJ G X E (e :: es) (⟨p, s, m⟩ :: os)
structure VDef where
 ad : PySem.W.Frag → Addr
 name : Str
 qual : Str
 params : Arguments
 body : List Stmt
 scope : Scope
 dfl : List He.Dv := []
 kwd : List (Str × He.Dv) := []
 cell : Bool := false
def VDef.shape (d : VDef) : He.FnW := some (d.name, d.qual, d.params, .stmts d.body, d.scope, mainGlobals, (if d.cell then [("__class__", 0)] else []), builtinsNs)
def VDef.dvs (K : PySem.W.Frag) (d : VDef) : List V := d.dfl.map (He.Dv.v K)
def VDef.kws (K : PySem.W.Frag) (d : VDef) : List (Str × V) := d.kwd.map fun q => (q.1, q.2.v K)
def VDef.seen (K : PySem.W.Frag) (d : VDef) : He.FnW := match K.lookup (d.ad K) with
 | some ⟨_, _, .func fd, _⟩ => some (fd.name, fd.qualname, fd.params, fd.body, fd.scope, fd.globals, fd.closure.map (fun p => (p.1, 0)), fd.builtins)
 | _ => none
def VDef.good (K : PySem.W.Frag) (d : VDef) : Bool := PySem.W.keepIn K (.ref (d.ad K)) && (match K.lookup (d.ad K) with
 | some ⟨_, _, .func fd, _⟩ => PySem.W.codeIn K fd.code d.qual && (He.dflB K fd.defaults (d.dvs K) && He.kwdB K fd.kwdefaults (d.kws K))
 | _ => false)
abbrev FunV (K : PySem.W.Frag) (d : VDef) (fd : FuncData) : Prop := FunD K d.name d.qual d.params d.body d.scope (d.dvs K) (d.kws K) (d.ad K) fd
theorem VDef.funD {K : PySem.W.Frag} {d : VDef} (e : d.seen K = d.shape) (c : d.good K = true) (hcell : d.cell = false) : ∃ fd, FunV K d fd := by
 unfold VDef.good at c
 rw [Bool.and_eq_true] at c
 obtain ⟨kp, c2⟩ := c
 unfold VDef.seen at e
 cases q : K.lookup (d.ad K) with
 | none => rw [q] at c2; cases c2
 | some o =>
  obtain ⟨oc, od, dt, osl⟩ := o
  rw [q] at c2 e
  cases dt with
  | func fd =>
   obtain ⟨n1, n2, n3, n4, n5, n6, n7, n8, n9, n10, n11, n12, n13, n14, n15⟩ := fd
   simp only [VDef.shape, hcell, Bool.false_eq_true, if_false, Option.some.injEq, Prod.mk.injEq, List.map_eq_nil_iff] at e
   obtain ⟨h1, h2, h3, h4, h5, h6, h7, h8⟩ := e
   subst h1 h2 h3 h4 h5 h6 h7 h8
   simp only [Bool.and_eq_true] at c2
   obtain ⟨k1, k3, k4⟩ := c2
   exact ⟨_, ⟨oc, od, n8, n9, n10, n11, n12, n13, n14, osl, rfl, q, k1, He.dflB_ok k3, He.kwdB_ok k4⟩, kp⟩
  | _ => cases c2
def obsV (fa : List (PySem.W.Frag → Bool)) (fn : List VDef) (K : PySem.W.Frag) : He.AlD := ((fa.all fun f => f K) && fn.all fun d => d.good K, fn.map fun d => d.seen K)
def SaysV (fa : List (PySem.W.Frag → Bool)) (fn : List VDef) (K : PySem.W.Frag) : Prop := obsV fa fn K = (true, fn.map VDef.shape)
theorem SaysV.fact {fa : List (PySem.W.Frag → Bool)} {fn : List VDef} {K : PySem.W.Frag} (c : SaysV fa fn K) (i : Nat) {f : PySem.W.Frag → Bool} (h : fa[i]? = some f := by rfl) : f K = true := by
 have c1 : ((fa.all fun f => f K) && fn.all fun d => d.good K) = true := congrArg (fun z : He.AlD => z.1) c
 exact List.all_eq_true.mp (He.ba c1).1 f (List.mem_of_getElem? h)
theorem SaysV.def_ {fa : List (PySem.W.Frag → Bool)} {fn : List VDef} {K : PySem.W.Frag} (c : SaysV fa fn K) (i : Nat) {d : VDef} (h : fn[i]? = some d := by rfl) (hcell : d.cell = false := by rfl) : ∃ fd, FunV K d fd := by
 have c1 : ((fa.all fun f => f K) && fn.all fun d => d.good K) = true := congrArg (fun z : He.AlD => z.1) c
 have c2 : (fn.map fun d => d.seen K) = fn.map VDef.shape := congrArg (fun z : He.AlD => z.2) c
 have c3 : (fn.map fun d => d.seen K)[i]? = (fn.map VDef.shape)[i]? := by rw [c2]
 rw [List.getElem?_map, List.getElem?_map, h] at c3
 exact VDef.funD (Option.some.inj c3) (List.all_eq_true.mp (He.ba c1).2 d (List.mem_of_getElem? h)) hcell
theorem SaysV.raw {fa : List (PySem.W.Frag → Bool)} {fn : List VDef} {K : PySem.W.Frag} (c : SaysV fa fn K) (i : Nat) {d : VDef} (h : fn[i]? = some d := by rfl) : d.seen K = d.shape ∧ d.good K = true := by
 have c1 : ((fa.all fun f => f K) && fn.all fun d => d.good K) = true := congrArg (fun z : He.AlD => z.1) c
 have c2 : (fn.map fun d => d.seen K) = fn.map VDef.shape := congrArg (fun z : He.AlD => z.2) c
 have c3 : (fn.map fun d => d.seen K)[i]? = (fn.map VDef.shape)[i]? := by rw [c2]
 rw [List.getElem?_map, List.getElem?_map, h] at c3
 exact ⟨Option.some.inj c3, List.all_eq_true.mp (He.ba c1).2 d (List.mem_of_getElem? h)⟩
def OkA (ia : Air) (P : Program) (w : World) (K : PySem.W.Frag) (mg : Str → Option Value) (base : Heap) (G : Gam) (d : VDef) (k : Nat) (ps : List Str) (mf : MF) : Prop :=
 ∃ fd, FunV K d fd ∧ FnOkG P w K mg base (ia.CX P w) k (d.ad K) fd ps (spV G ps.length mf)
abbrev Ok := OkA .l
theorem ok_of {ia : Air} {P : Program} {w : World} {K : PySem.W.Frag} {mg : Str → Option Value} {base : Heap} {G : Gam} {d : VDef} {k : Nat} {N ps : List Str} {bs : List Bool} {mb : MS} (F : ∃ fd, FunV K d fd) (S : FnScope N ps d.scope) (hn : bs.length = ps.length)
    (hbody : ∀ (cdv : Value) (A : Around) (outer : List Env) (s : Shared) (H : Hp) (E : XK), RoomG k (A.deeper (PyProof.Rows.envOfC d.qual d.scope s.heap.objs.size (d.ad K) cdv)) → ia.Takes (cxOf (ia.CX P w) P w K mg base N d.qual d.scope (d.ad K) cdv A outer s H E) (fun c d _ H => E c d H) →
     PassesOwn (model P w) (A.deeper (PyProof.Rows.envOfC d.qual d.scope s.heap.objs.size (d.ad K) cdv)) (PyProof.Rows.envOfC d.qual d.scope s.heap.objs.size (d.ad K) cdv) (cxOf (ia.CX P w) P w K mg base N d.qual d.scope (d.ad K) cdv A outer s H E).xe → ∀ σ0, VSs G (cxOf (ia.CX P w) P w K mg base N d.qual d.scope (d.ad K) cdv A outer s H E) (fun c d _ H => E c d H) bs σ0 d.body mb) :
    OkA ia P w K mg base G d (k + 1) ps (mBody bs N.length mb) := by
 obtain ⟨fd, F⟩ := F
 refine ⟨fd, F, ?_⟩
 obtain ⟨oc, od, dV, kV, doc, pm, an, cdv, ct, osl, e, lk, hcd, _, _⟩ := F.ex
 subst e
 exact fnv_of lk hcd S hn fun A outer s H E hr σ0 => hbody cdv A outer s H E hr (takes_ofA rfl rfl rfl rfl) (passes_of (X := cxOf (ia.CX P w) P w K mg base N d.qual d.scope (d.ad K) cdv A outer s H E) rfl) σ0
theorem takesF {ia : Air} {Y : Cx} : ia.Takes Y WF := takesA0
theorem law_sp {K : PySem.W.Frag} {G : Gam} (hK : G.K = K) {mf : MF} {ns : List Int} {H : Hp} {a : Addr} {fs : VEnv} (h : mf [.scr ns] = .ok (.bl true) fs) (hO : Only H) (hS : SqL K H a (ns.map V.int)) : spV G 1 mf [.ref a] H (fun v _ => v = .bl true) fun _ _ _ => False := by
 subst hK
 refine ⟨rfl, fun _ => False, [.scr ns], fun _ => [], ⟨rfl, fun i v hv => ?_, fun _ _ => rfl, fun _ => List.nodup_nil, fun _ _ _ h => (nomatch h), fun _ _ h => (nomatch h), fun _ z => z.elim⟩, ?_⟩
 · cases i with
   | succ i => simp at hv
   | zero =>
    simp at hv
    subst hv
    refine ⟨.ref a, rfl, .scr ?_⟩
    rcases hS with (e | ⟨o, e⟩) | e
    · rcases hO a with z | ⟨o, xs, z⟩
      · rw [z] at e; cases e
      · rw [z] at e; cases e
    · exact .inl ⟨o, e, fun z => z.elim id fun ⟨i, z⟩ => nomatch z⟩
    · exact .inr (.inr e)
 · show Post G _ _ _ _ _ _ _ _ _ (mf [.scr ns])
   rw [h]
   intro x H' Os' O rel rep nd k _
   cases rep
   rfl
end
end VL
namespace VL
open PySem PySem.Spec PyProof.Rows
section
variable {P : Program} {w : World} {A : Around} {E : Value → Shared → Prop} {s : Shared}
end
end VL
namespace VL
open PySem L2
variable {ia : Air}
section
variable {G : Gam} {R : Addr → Prop} {H : Hp}
theorem Rel.void {σ : L2.St} {ρ : VEnv} {Os : Nat → List Addr} (rel : Rel G R H σ ρ Os) (τ : L2.St) : Rel G R H τ (τ.map fun _ => none) (fun _ => []) := by
 refine ⟨by simp, fun i v hv => ?_, fun _ _ => rfl, fun _ => List.nodup_nil, fun _ _ _ h => (nomatch h), fun _ _ h => (nomatch h), rel.rt⟩
 rw [List.getElem?_map] at hv
 cases e : τ[i]? with
 | none => rw [e] at hv; cases hv
 | some o => rw [e] at hv; cases hv
theorem KeepE.void {H' : Hp} {Os Os' : Nat → List Addr} {O : Addr → Prop} (k : KeepE H Os H' Os' O) : KeepE H Os H' (fun _ => []) O := fun a o e nw => let ⟨e1, _, n2⟩ := k a o e nw; ⟨e1, (fun ⟨i, z⟩ => nomatch z), n2⟩
section
variable {X : Cx} {E : WX} {a b : Expr} {p1 p2 s1 s2 : Bool} {m1 m2 : ME} {pos : Pos} {C f g : Addr} {c : Nat} {ml mr : MF}
end
section
variable {X : Cx} {E : WX} {a b : Expr} {p1 p2 s1 s2 : Bool} {m1 m2 : ME} {pos : Pos} {C f : Addr} {c k : Nat} {ml : MF} {fd : FuncData} {ps : List Str}
end
end
end VL
namespace VL
open PySem L2
variable {ia : Air}
section
variable {G : Gam} {X : Cx} {E : WX} {e : Expr} {p : Bool} {m : ME} {pos px : Pos} {C f : Addr} {c k : Nat} {ml : MF} {fd : FuncData} {ps : List Str}
end
theorem vts0 {G : Gam} {X : Cx} : PTs X [] (tT G WF true mYes) := PTs.pre pts_nil fun σ H Q ⟨R, ρ, Os, rel, post⟩ => post H Os rel KeepE.refl fun _ => ⟨rfl, rfl, fun _ _ e => e⟩
end VL
namespace VL
open PySem L2 PySem.W
def tyL : List String := ["NoneType", "bool", "int", "str", "tuple", "list", "dict"]
abbrev Ftest := Frag → Bool
def clsAt (L : List Str) (K : Frag) (n : Nat) : Option Addr := (L[n]?).map (He.ga K)
def tCls1 (K : Frag) (C : Addr) : Bool := plainGet K C Str.empty && (hasDictIn K C && (plainOver K C && (He.eqO (findIn K (.ref C) "__setattr__") (some (some (.builtin "object.__setattr__"))) &&
 (He.eqO (findIn K (.ref C) "__class__") (some (some (.builtin "object.__class__"))) && (He.eqO (specialIn K (.builtin "object.__class__") "__get__") (some (some (.builtin "getset_descriptor.__get__"))) && (decide (takesIn K (.builtin "object.__class__") = some true) && decide (mroIn K C (.type "object") = some true)))))))
def tIsi (L : List Str) (sub : Nat → Nat → Bool) : Ftest := fun K => ((List.range L.length).all fun n => (List.range L.length).all fun m => match clsAt L K n, clsAt L K m with
    | some C, some D => decide (kitOne K (.ref C) (.ref D) = some (sub n m))
    | _, _ => true) &&
 (((List.range L.length).all fun n => match clsAt L K n with
  | some C => (tyL.all fun t => decide (kitOne K (.type t) (.ref C) = some false)) && (tyL.all fun t => decide (kitOne K (.ref C) (.type t) = some false))
  | _ => true) && ((List.range L.length).all fun n => match clsAt L K n with
  | some C => tCls1 K C
  | _ => true))
theorem cls_lt {L : List Str} {K : Frag} {n : Nat} {C : Addr} (h : clsAt L K n = some C) : n ∈ List.range L.length := by
 unfold clsAt at h
 cases e : L[n]? with
 | none => rw [e] at h; cases h
 | some x => exact List.mem_range.mpr (List.getElem?_eq_some_iff.mp e).1
theorem isi_ok {G : Gam} {L : List Str} {sub : Nat → Nat → Bool} (hg : ∀ n C, G.cn n = some C → clsAt L G.K n = some C) (c : tIsi L sub G.K = true) : IsiFacts G sub := by
 unfold tIsi at c
 simp only [Bool.and_eq_true] at c
 obtain ⟨c1, c2, c3⟩ := c
 refine ⟨fun n C m D h1 h2 => ?_, fun t m D ht h => ?_, fun n C t ht h => ?_, fun n C h => ?_⟩
 · have h1 := hg _ _ h1
   have h2 := hg _ _ h2
   have := List.all_eq_true.mp (List.all_eq_true.mp c1 n (cls_lt h1)) m (cls_lt h2)
   rw [h1, h2] at this
   exact of_decide_eq_true this
 · have h := hg _ _ h
   have := List.all_eq_true.mp c2 m (cls_lt h)
   rw [h] at this
   simp only [Bool.and_eq_true] at this
   exact of_decide_eq_true (List.all_eq_true.mp this.1 t ht)
 · have h := hg _ _ h
   have := List.all_eq_true.mp c2 n (cls_lt h)
   rw [h] at this
   simp only [Bool.and_eq_true] at this
   exact of_decide_eq_true (List.all_eq_true.mp this.2 t ht)
 · have h := hg _ _ h
   have := List.all_eq_true.mp c3 n (cls_lt h)
   rw [h] at this
   unfold tCls1 at this
   simp only [Bool.and_eq_true] at this
   obtain ⟨d1, d2, d3, d4, d5, d6, d7, d8⟩ := this
   exact ⟨⟨d1, d2, d3, He.eqO_ok d4⟩, He.eqO_ok d5, He.eqO_ok d6, of_decide_eq_true d7, of_decide_eq_true d8⟩
theorem FunV.uniq {K : Frag} {d : VDef} {fd fd' : FuncData} (F : FunV K d fd) (F' : FunV K d fd') : fd = fd' := by
 obtain ⟨_, _, _, _, _, _, _, _, _, _, _, l, _⟩ := F.ex
 obtain ⟨_, _, _, _, _, _, _, _, _, _, _, l', _⟩ := F'.ex
 rw [l] at l'
 cases l'
 rfl
theorem law_end {P : Program} {w : World} {K : Frag} {mg : Str → Option Value} {G : Gam} {d : VDef} {k : Nat} {x : Str} {mf : MF} {fd : FuncData} (F : FunV K d fd) (h : ∀ base : Heap, K.In base → base.Ns mainGlobals mg → Ok P w K mg base G d k [x] mf) (base : Heap) (h1 : K.In base) (h2 : base.Ns mainGlobals mg) :
    FnOkG P w K mg base (L2.CX P w) k (d.ad K) fd [x] (spV G 1 mf) := by
 obtain ⟨fd', F', q⟩ := h base h1 h2
 cases F.uniq F'
 exact q
theorem cx_none {P : Program} {w : World} (H : Hp) (s : Shared) (e : Value) (s' : Shared) (h : L2.CX P w [] H s (fun _ _ _ => False) e s') : False := by
 obtain ⟨_, _, _, _, _, _, _, _, _, _, _, _, z⟩ := h
 exact z
theorem walk_ofV {l : PySem.W.OpenLaw} {n k : Nat} {q : Program} {loose : List Str} {XP : (Str → Option Value) → Heap → Prop} {YP : World → Heap → Prop} {r : DefRec} {x : Str} {mf : MF} {G : Frag → World → Gam} (hG : ∀ K w, (G K w).K = K)
    (hn : l.most = some n) (hn2 : n ≤ sizeLine) (hdf : r.params.defaults = []) (hr : RoomG k callerA) (hlaw : ∀ ns : List Int, ns.length ≤ n → ∃ fs, mf [.scr ns] = .ok (.bl true) fs)
    (F : ∀ (w : World) (mg : Str → Option Value) (f : Addr) (h : Heap), YP w h → h.Ns mainGlobals mg → mg r.name = some (.ref f) → ∃ (K : Frag) (fd : FuncData), K.In h ∧ (∀ (s : Shared) (u : Value), BindsTo s fd ⟨[u], []⟩ [(x, u)]) ∧
     ∀ base : Heap, K.In base → base.Ns mainGlobals mg → FnOkG l.prog w K mg base (L2.CX l.prog w) k f fd [x] (spV (G K w) 1 mf)) :
    PySem.W.WalkO q loose XP YP l.row.toRowW r [] (fun f vs => PySem.call f vs) := by
 refine Att.attach_call hn hdf fun w s0 s1 mg mb f o pm cd doc a vs ns Gr Y ho hd hcd hmg hobj hints hlen hg => ?_
 obtain ⟨K, fd, KX, hb, hF⟩ := F w mg f _ Y Gr.T.g hmg
 obtain ⟨fs, hl⟩ := hlaw ns hlen
 exact law_callG KX Gr.T.g Gr.T.b Gr.T.builtins Gr.T.nolimit hg hobj hints (Nat.le_trans hlen hn2) hr hF hb (fun H hO hS => law_sp (hG K w) hl hO hS) fun H e s' z => cx_none H s1 e s' z
end VL
namespace VL
open PySem
section
variable {prog : Program} {w : World} {K : Type} [DecidableEq K] {kk : KeyKind prog w K} {A : Around} {E : Value → Shared → Prop} {s : Shared}
end
end VL
namespace VL
open PySem
section
variable {prog : Program} {w : World} {A : Around} {E : Value → Shared → Prop} {s : Shared}
end
end VL
namespace VL
open PySem L2 PyProof.Rows
section
variable {X : Cx} {pins : List (Addr × Obj)} {s : Shared} {σ : L2.St} {H : Hp}
end
end VL
namespace VL
open PySem L2
section
variable {G : Gam} {R : Addr → Prop} {E : WX} {σ : L2.St} {H H' : Hp} {Os Os' : Nat → List Addr} {ρ ρ' : VEnv} {Q : VK} {O : List Addr} {v : Val} {p : Addr} {o0 o1 : HO}
theorem Rel.fresh (rel : Rel G R H σ ρ Os) (hp : H p = none) : ¬ We Os p := fun z => let ⟨o, e⟩ := rel.we z; by rw [hp] at e; cases e
theorem Rel.root0 (rel : Rel G R H σ ρ Os) (hp : H p = none) : Rel G (fun a => R a ∨ a = p) (upd H p o0) σ ρ Os :=
 rel.grow (same_upd hp) (fun a z => z.imp id fun (z : a = p) => by rw [z]; exact hp) fun a z => by
  rcases z with z | z
  · obtain ⟨o, e⟩ := rel.rt a z
    exact ⟨o, same_upd hp a o e⟩
  · rw [z]; exact ⟨_, upd_same⟩
theorem Reps.other {W : Addr → Prop} {xs : List V} {vs : List Val} (q : Reps G W H' xs vs O) (hW : W p) (hO : p ∉ O) : Reps G W (L2.upd H' p o1) xs vs O :=
 q.mono (fun a o e nw => ⟨by rw [upd_ne (show a ≠ p from fun z => nw (z ▸ hW))]; exact e, nw⟩) fun a ha o e => by rw [upd_ne (show a ≠ p from fun z => hO (z ▸ ha))]; exact e
end
abbrev DL := List (Val × Val)
def putD (d : DL) (k v : Val) : DL := if (d.any fun q => decide (q.1 = k)) = true then d.map (fun q => if q.1 = k then (q.1, v) else q) else d ++ [(k, v)]
def mergeD (d e : DL) : DL := e.foldl (fun acc q => putD acc q.1 q.2) d
structure KRel (G : Gam) (W : Addr → Prop) (H : Hp) (kvs : List (Key × V)) (d : DL) : Prop where
 ks : d.map (·.1) = kvs.map fun q => ofKey q.1
 vs : Reps G W H (kvs.map (·.2)) (d.map (·.2)) []
section
variable {G : Gam} {W : Addr → Prop} {H : Hp}
theorem KRel.any {kvs : List (Key × V)} {d : DL} (r : KRel G W H kvs d) (k : Key) : (d.any fun q => decide (q.1 = ofKey k)) = kvs.any fun q => decide (q.1 = k) := by
 have e := r.ks
 have h : ∀ (d : DL) (kvs : List (Key × V)), d.map (·.1) = kvs.map (fun q => ofKey q.1) → (d.any fun q => decide (q.1 = ofKey k)) = kvs.any fun q => decide (q.1 = k) := by
  intro d
  induction d with
  | nil => intro kvs e; cases kvs with | nil => rfl | cons _ _ => cases e
  | cons p d ih =>
   intro kvs e
   cases kvs with
   | nil => cases e
   | cons q kvs =>
    simp only [List.map_cons, List.cons.injEq] at e
    rw [List.any_cons, List.any_cons, ih kvs e.2, e.1]
    congr 1
    by_cases h : q.1 = k
    · simp [h]
    · have h' : ¬ ofKey q.1 = ofKey k := fun z => h (ofKey_inj z)
      simp [h, h']
 exact h d kvs e
theorem KRel.put {kvs : List (Key × V)} {d : DL} (r : KRel G W H kvs d) (k : Key) {x : V} {v : Val} (rx : Rep G W H x v []) : KRel G W H (putK kvs k x) (putD d (ofKey k) v) := by
 unfold putK putD
 rw [r.any k]
 by_cases a : (kvs.any fun q => decide (q.1 = k)) = true
 · rw [if_pos a, if_pos a]
   obtain ⟨e, rv⟩ := r
   clear a
   induction d generalizing kvs with
   | nil => cases kvs with
    | nil => exact ⟨rfl, .nil⟩
    | cons _ _ => cases e
   | cons p d ih => cases kvs with
    | nil => cases e
    | cons q kvs =>
     simp only [List.map_cons, List.cons.injEq] at e rv
     obtain ⟨y, ys, e1, r1, r2⟩ := rv.inv0
     simp only [List.cons.injEq] at e1
     obtain ⟨rfl, rfl⟩ := e1
     obtain ⟨i1, i2⟩ := ih e.2 r2
     refine ⟨?_, ?_⟩
     · simp only [List.map_cons]
       congr 1
       rw [e.1]
       by_cases h : q.1 = k
       · rw [if_pos h, if_pos (by rw [h])]
       · rw [if_neg h, if_neg fun z => h (ofKey_inj z)]; exact e.1
     · simp only [List.map_cons]
       refine .cons (O := []) (O' := []) ?_ i2
       rw [e.1]
       by_cases h : q.1 = k
       · rw [if_pos h, if_pos (by rw [h])]; exact rx
       · rw [if_neg h, if_neg fun z => h (ofKey_inj z)]; exact r1
 · rw [if_neg a, if_neg a]
   refine ⟨by simp [r.ks], ?_⟩
   simp only [List.map_append, List.map_cons, List.map_nil]
   exact r.vs.append (.cons (O := []) (O' := []) rx .nil)
theorem KRel.merge : ∀ {more : List (Key × V)} {e : DL} {kvs : List (Key × V)} {d : DL}, KRel G W H more e → KRel G W H kvs d → KRel G W H (mergeK kvs more) (mergeD d e)
 | [], [], _, _, _, r => r
 | [], _ :: _, _, _, q, _ => by have := q.ks; simp at this
 | _ :: _, [], _, _, q, _ => by have := q.ks; simp at this
 | p :: more, (k, v) :: e, kvs, d, q, r => by
  have h1 := q.ks
  have h2 := q.vs
  simp only [List.map_cons, List.cons.injEq] at h1 h2
  obtain ⟨x, xs, e1, r1, r2⟩ := h2.inv0
  simp only [List.cons.injEq] at e1
  obtain ⟨rfl, rfl⟩ := e1
  obtain ⟨h3, h4⟩ := h1
  subst h3
  exact KRel.merge (more := more) (e := e) ⟨h4, r2⟩ (r.put p.1 r1)
theorem KRel.mono {W' : Addr → Prop} {H' : Hp} {kvs : List (Key × V)} {d : DL} (r : KRel G W H kvs d) (k : Keep W H W' H') : KRel G W' H' kvs d := ⟨r.ks, r.vs.mono k fun _ z => nomatch z⟩
end
section
variable {G : Gam} {X : Cx} {E : WX} {pos : Pos} {keys : List (Option Expr)} {values : List Expr} {l : List (Str × Op)} {k e a b : Expr} {p s p2 s2 : Bool} {m m2 : ME} {x : Str}
end
end VL
namespace VL
open PySem L2
inductive Stp where
 | f (cs : List Nat) (n : Str) | k (z : Str)
 deriving DecidableEq
def idxL (x : Val) : List Val → Nat → Option Nat
 | [], _ => none
 | y :: ys, j => if y = x then some j else idxL x ys (j + 1)
def idxS (x : Str) : List Str → Nat → Option Nat
 | [], _ => none
 | y :: ys, j => if y = x then some j else idxS x ys (j + 1)
def stepV : Stp → Val → Option Nat
 | .f cs n, .obj true c fs _ => if c ∈ cs then idxS n fs 0 else none
 | .k z, .dct true .k ks _ => idxL (.str z) ks 0
 | _, _ => none
def kids : Val → List Val
 | .obj _ _ _ xs => xs
 | .dct _ _ _ xs => xs
 | _ => []
def withKids (v : Val) (xs : List Val) : Val := match v with
 | .obj o c fs _ => .obj o c fs xs
 | .dct o d ks _ => .dct o d ks xs
 | v => v
def getP : List Stp → Val → Option Val
 | [], v => some v
 | s :: r, v => match stepV s v with
  | some j => (match (kids v)[j]? with
   | some u => getP r u
   | none => none)
  | none => none
def setP : List Stp → Val → Val → Val
 | [], _, w => w
 | s :: r, v, w => match stepV s v with
  | some j => (match (kids v)[j]? with
   | some u => withKids v ((kids v).set j (setP r u w))
   | none => v)
  | none => v
def Nav (K : PySem.W.Frag) (H : Hp) : List Stp → V → V → Prop
 | [], x, y => x = y
 | .f _ n :: r, x, y => ∃ a C dx fs z, x = .ref a ∧ H a = some (.ins C dx fs) ∧ Cls K C ∧ NoAttr K C n ∧ fs.lookup n = some z ∧ Nav K H r z y
 | .k s :: r, x, y => ∃ a kvs z, x = .ref a ∧ H a = some (.dK kvs) ∧ valV kvs (.inr s) = some z ∧ Nav K H r z y
theorem Nav.app {K : PySem.W.Frag} {H : Hp} {y : V} : ∀ {r r' : List Stp} {x : V}, Nav K H (r ++ r') x y → ∃ z, Nav K H r x z ∧ Nav K H r' z y
 | [], r', x, h => ⟨x, rfl, h⟩
 | .f cs n :: r, r', x, ⟨a, C, dx, fs, z, h1, h2, h3, h4, h5, h6⟩ => by
  obtain ⟨u, g1, g2⟩ := Nav.app (r := r) h6
  exact ⟨u, ⟨a, C, dx, fs, z, h1, h2, h3, h4, h5, g1⟩, g2⟩
 | .k s :: r, r', x, ⟨a, kvs, z, h1, h2, h3, h4⟩ => by
  obtain ⟨u, g1, g2⟩ := Nav.app (r := r) h4
  exact ⟨u, ⟨a, kvs, z, h1, h2, h3, g1⟩, g2⟩
def tNav (K : PySem.W.Frag) (i : Nat) (r : List Stp) : TE := fun σ H Q => ∃ x y, σ[i]? = some (some x) ∧ Nav K H r x y ∧ Q y H
section
variable {G : Gam} {X : Cx} {o : Expr} {i : Nat} {r : List Stp} {pos : Pos}
theorem tn_root (h : PE X o (tVar i)) : PE X o (tNav X.K i []) := PE.pre h fun σ H Q ⟨x, y, h1, h2, q⟩ => ⟨x, h1, by cases h2; exact q⟩
end
section
variable {G : Gam} {W : Addr → Prop} {H : Hp}
theorem idxS_get {x : Str} : ∀ {ys : List Str} {j k : Nat}, idxS x ys j = some k → j ≤ k ∧ ys[k - j]? = some x ∧ ∀ l, l < k - j → ys[l]? ≠ some x
 | [], j, k, h => by cases h
 | y :: ys, j, k, h => by
  unfold idxS at h
  by_cases e : y = x
  · rw [if_pos e] at h
    cases h
    exact ⟨Nat.le_refl _, by simp [e], fun l hl => by omega⟩
  · rw [if_neg e] at h
    obtain ⟨h1, h2, h3⟩ := idxS_get h
    have e1 : k - j = (k - (j + 1)) + 1 := by omega
    refine ⟨by omega, by rw [e1]; simpa using h2, fun l hl => ?_⟩
    cases l with
    | zero => simpa using e
    | succ l => simpa using h3 l (by omega)
theorem idxL_get {x : Val} : ∀ {ys : List Val} {j k : Nat}, idxL x ys j = some k → j ≤ k ∧ ys[k - j]? = some x ∧ ∀ l, l < k - j → ys[l]? ≠ some x
 | [], j, k, h => by cases h
 | y :: ys, j, k, h => by
  unfold idxL at h
  by_cases e : y = x
  · rw [if_pos e] at h
    cases h
    exact ⟨Nat.le_refl _, by simp [e], fun l hl => by omega⟩
  · rw [if_neg e] at h
    obtain ⟨h1, h2, h3⟩ := idxL_get h
    have e1 : k - j = (k - (j + 1)) + 1 := by omega
    refine ⟨by omega, by rw [e1]; simpa using h2, fun l hl => ?_⟩
    cases l with
    | zero => simpa using e
    | succ l => simpa using h3 l (by omega)
theorem look_idx {n : Str} : ∀ {fs : List (Str × V)} {j : Nat} {x : V}, (fs.map (·.1))[j]? = some n → (∀ l, l < j → (fs.map (·.1))[l]? ≠ some n) → (fs.map (·.2))[j]? = some x → fs.lookup n = some x
 | [], j, x, h, _, _ => by simp at h
 | (g, y) :: fs, 0, x, h, _, hx => by
  simp at h hx
  subst h; subst hx
  simp [List.lookup]
 | (g, y) :: fs, j + 1, x, h, hl, hx => by
  have e : ¬ g = n := by simpa using hl 0 (by omega)
  show (match n == g with | true => some y | false => fs.lookup n) = some x
  rw [beq_false_of_ne fun z => e z.symm]
  exact look_idx (j := j) (by simpa using h) (fun l h' => by simpa using hl (l + 1) (by omega)) (by simpa using hx)
theorem val_idx {k : Key} : ∀ {kvs : List (Key × V)} {j : Nat} {x : V}, (kvs.map fun q => ofKey q.1)[j]? = some (ofKey k) → (∀ l, l < j → (kvs.map fun q => ofKey q.1)[l]? ≠ some (ofKey k)) → (kvs.map (·.2))[j]? = some x → valV kvs k = some x
 | [], j, x, h, _, _ => by simp at h
 | (g, y) :: fs, 0, x, h, _, hx => by
  simp at h hx
  subst hx
  exact valV_pos (p := (g, y)) (ofKey_inj h)
 | (g, y) :: fs, j + 1, x, h, hl, hx => by
  have e : ¬ g = k := fun z => hl 0 (by omega) (by simp [z])
  rw [valV_neg (p := (g, y)) e]
  exact val_idx (j := j) (by simpa using h) (fun l h' => by simpa using hl (l + 1) (by omega)) (by simpa using hx)
theorem set_same {α : Type} {xs : List α} {j : Nat} {x : α} (h : xs[j]? = some x) : xs.set j x = xs := by
 apply List.ext_getElem?
 intro k
 by_cases e : j = k
 · subst e; rw [List.getElem?_set_self (List.getElem?_eq_some_iff.mp h).1, h]
 · rw [List.getElem?_set_ne e]
theorem Rep.path {K : PySem.W.Frag} : ∀ {r : List Stp} {x : V} {v w : Val} {O : List Addr}, (∀ cs n, Stp.f cs n ∈ r → FldF G K cs n) → Rep G W H x v O → getP r v = some w →
    ∃ y O1 Ow O2, Nav K H r x y ∧ Rep G W H y w Ow ∧ O = O1 ++ (Ow ++ O2) ∧
     ∀ W' H' w' Ow', (∀ z u Oz, (∀ a ∈ Oz, a ∈ O1 ++ O2) → Rep G W H z u Oz → Rep G W' H' z u Oz) → (∀ a ∈ O1, ∀ o, H a = some o → H' a = some o) → Rep G W' H' y w' Ow' → Rep G W' H' x (setP r v w') (O1 ++ (Ow' ++ O2))
 | [], x, v, w, O, _, rep, h => by
  cases h
  exact ⟨x, [], O, [], rfl, rep, by simp, fun W' H' w' Ow' _ _ q => by simpa [setP] using q⟩
 | s :: r, x, v, w, O, F, rep, h => by
  unfold getP at h
  cases hs : stepV s v with
  | none => rw [hs] at h; cases h
  | some j =>
  rw [hs] at h
  dsimp only at h
  cases hu : (kids v)[j]? with
  | none => rw [hu] at h; cases h
  | some u =>
  rw [hu] at h
  dsimp only at h
  have fin : setP (s :: r) v = fun w' => withKids v ((kids v).set j (setP r u w')) := funext fun w' => by rw [setP, hs]; simp only [hu]
  cases s with
  | f cs n =>
   cases v with
   | obj ow c fs xs =>
    cases ow with
    | false => cases hs
    | true =>
     have hs' : (if c ∈ cs then idxS n fs 0 else none) = some j := hs
     by_cases hc : c ∈ cs
     rotate_left
     · rw [if_neg hc] at hs'; cases hs'
     rw [if_pos hc] at hs'
     obtain ⟨_, i1, i2⟩ := idxS_get hs'
     rw [Nat.sub_zero] at i1 i2
     obtain ⟨a, C, dx, gs, P, rfl, rfl, ea, hC, rfl, reps⟩ := rep_objO rep
     obtain ⟨z, O1, Oi, O2, e1, e2, rz, set⟩ := reps.set hu
     obtain ⟨y, P1, Ow, P2, nav, rw', e3, set2⟩ := Rep.path (fun cs n h => F cs n (List.mem_cons_of_mem _ h)) rz h
     obtain ⟨f1, f2⟩ := F cs n List.mem_cons_self c hc C hC
     refine ⟨y, a :: (O1 ++ P1), Ow, P2 ++ O2, ⟨a, C, dx, gs, z, rfl, ea, f1, f2, look_idx i1 i2 e1, nav⟩, rw', by rw [e2, e3]; simp [List.append_assoc], fun W' H' w' Ow' tr stay q => ?_⟩
     rw [fin]
     have q2 := set2 W' H' w' Ow' (fun z u Oz hz => tr z u Oz fun b hb => by
      rcases List.mem_append.mp (hz b hb) with q | q
      · exact List.mem_append_left _ (List.mem_cons_of_mem _ (List.mem_append_right _ q))
      · exact List.mem_append_right _ (List.mem_append_left _ q)) (fun b hb => stay b (List.mem_cons_of_mem _ (List.mem_append_right _ hb))) q
     have q3 := set W' H' z _ _ (fun z u Oz hz => tr z u Oz fun b hb => by
      rcases List.mem_append.mp (hz b hb) with q | q
      · exact List.mem_append_left _ (List.mem_cons_of_mem _ (List.mem_append_left _ q))
      · exact List.mem_append_right _ (List.mem_append_right _ q)) q2
     rw [set_same e1] at q3
     have q4 : Rep G W' H' (.ref a) (.obj true c (gs.map (·.1)) (xs.set j (setP r u w'))) (a :: (O1 ++ ((P1 ++ (Ow' ++ P2)) ++ O2))) := .objO (stay a List.mem_cons_self _ ea) hC rfl q3
     simpa [withKids, kids, List.append_assoc] using q4
   | _ => cases hs
  | k zz =>
   cases v with
   | dct ow dk ks xs =>
    cases ow with
    | false => cases hs
    | true =>
     cases dk with
     | k =>
      have hs' : idxL (.str zz) ks 0 = some j := hs
      obtain ⟨_, i1, i2⟩ := idxL_get hs'
      rw [Nat.sub_zero] at i1 i2
      cases rep with
      | @dkO a kvs _ _ P ea hk reps =>
      subst hk
      obtain ⟨z, O1, Oi, O2, e1, e2, rz, set⟩ := reps.set hu
      obtain ⟨y, P1, Ow, P2, nav, rw', e3, set2⟩ := Rep.path (fun cs n h => F cs n (List.mem_cons_of_mem _ h)) rz h
      refine ⟨y, a :: (O1 ++ P1), Ow, P2 ++ O2, ⟨a, kvs, z, rfl, ea, val_idx (k := .inr zz) i1 i2 e1, nav⟩, rw', by rw [e2, e3]; simp [List.append_assoc], fun W' H' w' Ow' tr stay q => ?_⟩
      rw [fin]
      have q2 := set2 W' H' w' Ow' (fun z u Oz hz => tr z u Oz fun b hb => by
       rcases List.mem_append.mp (hz b hb) with q | q
       · exact List.mem_append_left _ (List.mem_cons_of_mem _ (List.mem_append_right _ q))
       · exact List.mem_append_right _ (List.mem_append_left _ q)) (fun b hb => stay b (List.mem_cons_of_mem _ (List.mem_append_right _ hb))) q
      have q3 := set W' H' z _ _ (fun z u Oz hz => tr z u Oz fun b hb => by
       rcases List.mem_append.mp (hz b hb) with q | q
       · exact List.mem_append_left _ (List.mem_cons_of_mem _ (List.mem_append_left _ q))
       · exact List.mem_append_right _ (List.mem_append_right _ q)) q2
      rw [set_same e1] at q3
      have q4 : Rep G W' H' (.ref a) (.dct true .k (kvs.map fun q => ofKey q.1) (xs.set j (setP r u w'))) (a :: (O1 ++ ((P1 ++ (Ow' ++ P2)) ++ O2))) := .dkO (stay a List.mem_cons_self _ ea) rfl q3
      simpa [withKids, kids, List.append_assoc] using q4
     | _ => cases hs
   | _ => cases hs
theorem Rel.deep {R : Addr → Prop} {H : Hp} {σ : L2.St} {ρ : VEnv} {Os : Nat → List Addr} {O P' : List Addr} {i : Nat} {v w : Val} {x : V} {b : Addr} {ob' : HO} (rel : Rel G (fun a => R a ∨ a ∈ O) H σ ρ Os) (nO : ∀ a ∈ O, ¬ R a) (hv : ρ[i]? = some (some v)) (hx : σ[i]? = some (some x))
    (bin : b ∈ Os i) (hP : ∀ c ∈ P', c ∈ Os i ∨ c ∈ O) (nd : P'.Nodup)
    (mk : (∀ z u Oz, (∀ c ∈ Oz, (c ∈ Os i ∨ c ∈ O) ∧ c ≠ b) → Rep G (WW (fun a => R a ∨ a ∈ O) Os) H z u Oz → Rep G (WW R (fun j => if j = i then P' else Os j)) (upd H b ob') z u Oz) → Rep G (WW R (fun j => if j = i then P' else Os j)) (upd H b ob') x w P') :
    Rel G R (upd H b ob') σ (ρ.set i (some w)) (fun j => if j = i then P' else Os j) ∧ ∀ c o, H c = some o → ¬ We Os c → ¬ c ∈ O → upd H b ob' c = some o ∧ ¬ We (fun j => if j = i then P' else Os j) c := by
 have bO : b ∉ O := fun z => rel.dr i b bin (.inr z)
 have we : ∀ c, We (fun j => if j = i then P' else Os j) c → We Os c ∨ c ∈ O := fun c ⟨j, z⟩ => by
  by_cases hj : j = i
  · simp only [hj, if_true] at z; exact (hP c z).imp (fun z => ⟨i, z⟩) id
  · simp only [hj, if_false] at z; exact .inl ⟨j, z⟩
 have kp : Keep (WW (fun a => R a ∨ a ∈ O) Os) H (WW R (fun j => if j = i then P' else Os j)) (upd H b ob') := fun c o e nw => by
  refine ⟨(upd_ne (show c ≠ b from fun z => nw (.inr ⟨i, by rw [z]; exact bin⟩))).trans e, fun z => ?_⟩
  rcases z with z | z
  · exact nw (.inl (.inl z))
  · exact (we c z).elim (fun z => nw (.inr z)) fun z => nw (.inl (.inr z))
 have hi : i < ρ.length := (List.getElem?_eq_some_iff.mp hv).1
 refine ⟨⟨by rw [List.length_set]; exact rel.len, fun j u hu => ?_, fun j hj => ?_, fun j => ?_, fun j k c hb hb' => ?_, fun j c hb z => ?_, fun c z => ?_⟩, fun c o e nw nO => ⟨(upd_ne (show c ≠ b from fun z => nw ⟨i, by rw [z]; exact bin⟩)).trans e, fun z => (we c z).elim nw nO⟩⟩
 · by_cases h : j = i
   · subst h
     rw [List.getElem?_set_self hi] at hu
     cases hu
     refine ⟨x, hx, ?_⟩
     show Rep G _ _ _ _ (if j = j then P' else Os j)
     rw [if_pos rfl]
     exact mk fun z u Oz hz r => r.mono kp fun c hc o e => by rw [upd_ne (hz c hc).2]; exact e
   · rw [List.getElem?_set_ne (Ne.symm h)] at hu
     obtain ⟨y, e, r⟩ := rel.rep j u hu
     refine ⟨y, e, ?_⟩
     show Rep G _ _ _ _ (if j = i then P' else Os j)
     rw [if_neg h]
     exact r.mono kp fun c hc o e => (upd_ne (show c ≠ b from fun z => h (rel.dj j i b (by rw [← z]; exact hc) bin))).trans e
 · by_cases h : j = i
   · subst h; exact absurd (List.getElem?_set_self hi) (hj w)
   · simp only [h, if_false]
     exact rel.nil j fun u hu => hj u (by rw [List.getElem?_set_ne (Ne.symm h)]; exact hu)
 · by_cases h : j = i
   · simp only [h, if_true]; exact nd
   · simp only [h, if_false]; exact rel.nd j
 · by_cases h : j = i <;> by_cases h' : k = i
   · rw [h, h']
   · simp only [h, h', if_true, if_false] at hb hb'
     exact (hP c hb).elim (fun z => absurd (rel.dj k i c hb' z) h') fun z => absurd (.inr z) (rel.dr k c hb')
   · simp only [h, h', if_true, if_false] at hb hb'
     exact (hP c hb').elim (fun z => absurd (rel.dj j i c hb z) h) fun z => absurd (.inr z) (rel.dr j c hb)
   · simp only [h, h', if_false] at hb hb'; exact rel.dj j k c hb hb'
 · by_cases h : j = i
   · simp only [h, if_true] at hb
     exact (hP c hb).elim (fun q => rel.dr i c q (.inl z)) fun q => nO c q z
   · simp only [h, if_false] at hb; exact rel.dr j c hb (.inl z)
 · by_cases h : c = b
   · subst h; exact ⟨_, upd_same⟩
   · rw [upd_ne h]; exact rel.rt c (.inl z)
theorem Rel.at_path {K : PySem.W.Frag} {R : Addr → Prop} {H : Hp} {σ : L2.St} {ρ : VEnv} {Os : Nat → List Addr} {O : List Addr} {i : Nat} {r : List Stp} {v w : Val} (rel : Rel G (fun a => R a ∨ a ∈ O) H σ ρ Os) (nO : ∀ a ∈ O, ¬ R a) (ndO : O.Nodup) (F : ∀ cs n, Stp.f cs n ∈ r → FldF G K cs n)
    (hv : ρ[i]? = some (some v)) (hg : getP r v = some w) :
    ∃ x y Ow, σ[i]? = some (some x) ∧ Nav K H r x y ∧ Rep G (WW (fun a => R a ∨ a ∈ O) Os) H y w Ow ∧ Ow.Nodup ∧ (∀ c ∈ Ow, c ∈ Os i) ∧
     ∀ b ob' w' P, y = .ref b → b ∈ Ow → (b :: P).Nodup → (∀ c ∈ P, c ∈ Ow ∨ c ∈ O) →
      (∀ W', (∀ z u Oz, (∀ c ∈ Oz, (c ∈ Ow ∨ c ∈ O) ∧ c ≠ b) → Rep G (WW (fun a => R a ∨ a ∈ O) Os) H z u Oz → Rep G W' (upd H b ob') z u Oz) → Rep G W' (upd H b ob') y w' (b :: P)) →
      ∃ Os', Rel G R (upd H b ob') σ (ρ.set i (some (setP r v w'))) Os' ∧ ∀ c o, H c = some o → ¬ We Os c → ¬ c ∈ O → upd H b ob' c = some o ∧ ¬ We Os' c := by
 obtain ⟨x, hx, rep⟩ := rel.rep i v hv
 obtain ⟨y, O1, Ow, O2, nav, rw', e, set⟩ := Rep.path F rep hg
 have hnd := rel.nd i
 rw [e] at hnd
 obtain ⟨n1, n2, n3⟩ := List.nodup_append.mp hnd
 obtain ⟨n4, n5, n6⟩ := List.nodup_append.mp n2
 have sub : ∀ c ∈ Ow, c ∈ Os i := fun c hc => by rw [e]; exact List.mem_append_right _ (List.mem_append_left _ hc)
 refine ⟨x, y, Ow, hx, nav, rw', n4, sub, fun b ob' w' P hy hb ndP hP mk => ?_⟩
 have inO : ∀ c ∈ b :: P, c ∈ Ow ∨ c ∈ O := fun c hc => by
  rcases List.mem_cons.mp hc with z | z
  · exact .inl (z ▸ hb)
  · exact hP c z
 have dj : ∀ c, c ∈ Os i → c ∉ O := fun c hc z => rel.dr i c hc (.inr z)
 have nd' : (O1 ++ ((b :: P) ++ O2)).Nodup := by
  refine List.nodup_append.mpr ⟨n1, List.nodup_append.mpr ⟨ndP, n5, fun a ha c hc q => ?_⟩, fun a ha c hc q => ?_⟩
  · subst q
    exact (inO a ha).elim (fun z => n6 a z a hc rfl) fun z => dj a (by rw [e]; exact List.mem_append_right _ (List.mem_append_right _ hc)) z
  · subst q
    rcases List.mem_append.mp hc with z | z
    · exact (inO a z).elim (fun z => n3 a ha a (List.mem_append_left _ z) rfl) fun z => dj a (by rw [e]; exact List.mem_append_left _ ha) z
    · exact n3 a ha a (List.mem_append_right _ z) rfl
 have hd := Rel.deep (P' := O1 ++ ((b :: P) ++ O2)) (ob' := ob') (w := setP r v w') rel nO hv hx (sub b hb) (fun c hc => by
  rcases List.mem_append.mp hc with z | z
  · exact .inl (by rw [e]; exact List.mem_append_left _ z)
  · rcases List.mem_append.mp z with z | z
    · exact (inO c z).imp (sub c) id
    · exact .inl (by rw [e]; exact List.mem_append_right _ (List.mem_append_right _ z))) nd' fun tr => by
  refine set _ _ w' (b :: P) (fun z u Oz hz q => tr z u Oz (fun c hc => ?_) q) (fun a ha o ea => ?_) (mk _ fun z u Oz hz q => tr z u Oz (fun c hc => ⟨(hz c hc).1.imp (sub c) id, (hz c hc).2⟩) q)
  · rcases List.mem_append.mp (hz c hc) with z | z
    · exact ⟨.inl (by rw [e]; exact List.mem_append_left _ z), fun q => n3 c z c (List.mem_append_left _ (q ▸ hb)) rfl⟩
    · exact ⟨.inl (by rw [e]; exact List.mem_append_right _ (List.mem_append_right _ z)), fun q => n6 c (q ▸ hb) c z rfl⟩
  · rw [upd_ne (show a ≠ b from fun q => n3 a ha a (List.mem_append_left _ (q ▸ hb)) rfl)]; exact ea
 exact ⟨_, hd.1, hd.2⟩
end
end VL
namespace VL
open PySem L2
def mLop (i : Nat) (r : List Stp) (f : List Val → Val → Option (List Val)) (m : ME) : ME := fun ρ => match ρ[i]? with
 | some (some v) => (match getP r v with
  | some (.lst true ys) => (match m ρ with
   | .ok u _ => (match f ys u with
    | some zs => .ok .non (ρ.set i (some (setP r v (.lst true zs))))
    | none => .bad)
   | .exc e ρ1 => .exc e ρ1
   | .bad => .bad)
  | _ => .bad)
 | _ => .bad
def fApp (ys : List Val) (u : Val) : Option (List Val) := if ys.length < 16777216 then some (ys ++ [u]) else none
section
variable {G : Gam} {X : Cx} {E : WX} {o e : Expr} {i : Nat} {r : List Stp} {pos apos : Pos} {p s : Bool} {m : ME}
def StpF (G : Gam) (K : PySem.W.Frag) (r : List Stp) : Prop := ∀ cs n, Stp.f cs n ∈ r → FldF G K cs n
theorem stpF_nil {K : PySem.W.Frag} : StpF G K [] := fun _ _ h => nomatch h
theorem Nav.same {K : PySem.W.Frag} {H H' : Hp} {y : V} (sm : Same H H') : ∀ {r : List Stp} {x : V}, Nav K H r x y → Nav K H' r x y
 | [], x, h => h
 | .f cs n :: r, x, ⟨a, C, dx, fs, z, h1, h2, h3, h4, h5, h6⟩ => ⟨a, C, dx, fs, z, h1, sm _ _ h2, h3, h4, h5, Nav.same sm h6⟩
 | .k s :: r, x, ⟨a, kvs, z, h1, h2, h3, h4⟩ => ⟨a, kvs, z, h1, sm _ _ h2, h3, Nav.same sm h4⟩
theorem Nav.det {K : PySem.W.Frag} {H : Hp} {y y' : V} : ∀ {r : List Stp} {x : V}, Nav K H r x y → Nav K H r x y' → y = y'
 | [], x, h, h' => by cases h; cases h'; rfl
 | .f cs n :: r, x, ⟨a, C, dx, fs, z, h1, h2, h3, h4, h5, h6⟩, ⟨a', C', dx', fs', z', g1, g2, g3, g4, g5, g6⟩ => by
  rw [h1] at g1; cases g1
  rw [h2] at g2; cases g2
  rw [h5] at g5; cases g5
  exact Nav.det h6 g6
 | .k s :: r, x, ⟨a, kvs, z, h1, h2, h3, h4⟩, ⟨a', kvs', z', g1, g2, g3, g4⟩ => by
  rw [h1] at g1; cases g1
  rw [h2] at g2; cases g2
  rw [h3] at g3; cases g3
  exact Nav.det h4 g4
def LopOk (G : Gam) (rr : V → List V → Hp → VK → Prop) (f : List Val → Val → Option (List Val)) : Prop :=
 ∀ (W : Addr → Prop) H b xs ys O u y Ou zs, H b = some (.lst xs) → Reps G W H xs ys O → Rep G W H y u Ou → (b :: O).Nodup → Ou.Nodup → (∀ a ∈ b :: O, a ∉ Ou) → f ys u = some zs →
  ∃ xs' P, (∀ Q, Q .non (upd H b (.lst xs')) → rr (.ref b) [y] H Q) ∧ P.Nodup ∧ (∀ c ∈ P, c ∈ O ∨ c ∈ Ou) ∧ ∀ W' H', (∀ z u Oz, (∀ c ∈ Oz, c ∈ O ∨ c ∈ Ou) → Rep G W H z u Oz → Rep G W' H' z u Oz) → Reps G W' H' xs' zs P
theorem lop_pre {f : List Val → Val → Option (List Val)} {rr : V → List V → Hp → VK → Prop} {σ : L2.St} {H : Hp} {Q : VK} (hF : StpF G X.K r) (ok : LopOk G rr f)
    (h : rd G E false true (mLop i r f m) σ H Q) : tNav X.K i r σ H fun x H1 => tyV X.K "list" x H1 ∧ rd G E true true m σ H1 fun y H2 => rr x [y] H2 Q := by
 obtain ⟨R, ρ, Os, rel, post⟩ := h
 unfold mLop at post
 split at post
 rotate_left
 · exact post.elim
 rename_i v hv
 split at post
 rotate_left
 · exact post.elim
 rename_i ys hg
 have e0 : (fun a => R a ∨ a ∈ ([] : List Addr)) = R := setEq fun a => ⟨fun z => z.elim id (fun z => nomatch z), Or.inl⟩
 obtain ⟨x, y, Ow, hx, nav, rw', _, _, _⟩ := Rel.at_path (O := []) (e0.symm ▸ rel) (fun _ z => nomatch z) List.nodup_nil hF hv hg
 obtain ⟨b, xs, ey, eb⟩ : ∃ b xs, y = .ref b ∧ H b = some (.lst xs) := by
  cases rw' with
  | lstO h q => exact ⟨_, _, rfl, h⟩
 refine ⟨x, y, hx, nav, ?_, R, ρ, Os, rel, ?_⟩
 · subst ey
   exact .inl ⟨rfl, xs, .inl (.inl eb)⟩
 cases hm : m ρ with
 | bad => rw [hm] at post; exact post
 | exc e ρ1 => rw [hm] at post; exact post
 | ok u ρ1 =>
  rw [hm] at post
  dsimp only at post
  cases hf : f ys u with
  | none => rw [hf] at post; exact post.elim
  | some zs =>
  rw [hf] at post
  dsimp only at post
  intro y2 H2 Os2 Ou rel2 rep2 nd2 keep2 pure2
  obtain ⟨rfl, rfl, same⟩ := pure2 rfl
  have e1 : Rp R true Ou = fun a => R a ∨ a ∈ Ou := setEq fun a => ⟨fun z => z.imp id fun z => z.2, fun z => z.imp id fun z => ⟨rfl, z⟩⟩
  rw [e1] at rel2 rep2
  have nO : ∀ a ∈ Ou, ¬ R a := fun a ha z => by
   obtain ⟨o, ea, nw⟩ := rel.hr a z
   exact (keep2 a o ea nw).2.2 ⟨rfl, ha⟩
  obtain ⟨x', y', Ow2, hx', nav', rw2, ndw, sub, chg⟩ := Rel.at_path rel2 nO (nd2 rfl) hF hv hg
  rw [hx] at hx'
  cases hx'
  have ey' := Nav.det (nav.same same) nav'
  subst ey'
  subst ey
  cases rw2 with
  | @lstO _ xs2 _ P0 eb2 q =>
  have dj : ∀ a ∈ b :: P0, a ∉ Ou := fun a ha z => rel2.dr i a (sub a ha) (.inr z)
  obtain ⟨xs', P, run, ndP, hP, mk⟩ := ok _ H2 b xs2 ys P0 u y2 Ou zs eb2 q rep2 ndw (nd2 rfl) dj hf
  refine run Q ?_
  have ndb := List.nodup_cons.mp ndw
  obtain ⟨Os', r3, k3⟩ := chg b (.lst xs') (.lst true zs) P rfl List.mem_cons_self (List.nodup_cons.mpr ⟨fun z => (hP b z).elim ndb.1 fun z => dj b List.mem_cons_self z, ndP⟩) (fun c hc => (hP c hc).imp (List.mem_cons_of_mem _) id) fun W' tr =>
   .lstO upd_same (mk W' _ fun z u Oz hz => tr z u Oz fun c hc => ⟨(hz c hc).imp (List.mem_cons_of_mem _) id, fun w => (hz c hc).elim (fun z => ndb.1 (w ▸ z)) fun z => dj b List.mem_cons_self (w ▸ z)⟩)
  refine post .non _ Os' [] (r3.weak fun a z => z.elim id fun z => nomatch z.2) .non (fun _ => List.nodup_nil) (fun a o ea nw => ?_) fun z => by cases z
  obtain ⟨e2, n1, n2⟩ := keep2 a o ea nw
  obtain ⟨e3, n3⟩ := k3 a o e2 n1 fun z => n2 ⟨rfl, z⟩
  exact ⟨e3, n3, fun z => nomatch z.2⟩
theorem ok_app : LopOk G rAppend fApp := by
 intro W H b xs ys O u y Ou zs eb q ry nd ndu dj hf
 unfold fApp at hf
 split at hf
 · rename_i hl
   cases hf
   have ndO := (List.nodup_cons.mp nd).2
   refine ⟨xs ++ [y], O ++ Ou, fun Q h => ⟨b, xs, y, rfl, rfl, eb, by rw [q.length, sizeLine_eq]; exact hl, h⟩, List.nodup_append.mpr ⟨ndO, ndu, fun a ha c hc e => dj a (List.mem_cons_of_mem _ ha) (e ▸ hc)⟩, fun c hc => List.mem_append.mp hc, fun W' H' tr => ?_⟩
   have e : ∀ {xs : List V} {ys : List Val} {P : List Addr}, Reps G W H xs ys P → (∀ c ∈ P, c ∈ O) → Reps G W' H' xs ys P := by
    intro xs ys P r
    induction ys generalizing xs P with
    | nil => intro _; cases r; exact .nil
    | cons v vs ih =>
     intro hP
     cases r with
     | cons r t => exact .cons (tr _ _ _ (fun c hc => .inl (hP c (List.mem_append_left _ hc))) r) (ih t fun c hc => hP c (List.mem_append_right _ hc))
   have := (e q fun c hc => hc).append (.cons (tr _ _ _ (fun c hc => .inr hc) ry) .nil)
   simpa using this
 · cases hf
theorem ve_app {o : Expr} (hF : StpF G X.K r) (ho : PE X o (tNav X.K i r)) (he : VE G X E true true e m) (hbase : attributeBase o "append" X.env (eval o X.env) = eval o X.env := by rfl)
    (hfew : ((backTo pos (starEach [e] X.env)).all (fun x => !x.1) && (backToKw pos (keywordEach [] X.env)).all (fun x => x.1.isSome) && decide (([e] : List Expr).length + ([] : List Keyword).length + (if ([] : List Keyword).isEmpty then 0 else 1) < 30)) = true := by rfl)
    (hline : (apos.endLine == pos.line) = true := by rfl) (hs : starEach [e] X.env = (false, eval e X.env) :: starEach [] X.env := by rfl) (hp : (backTo pos (starEach [] X.env)).any (·.1) = false := by rfl) : VE G X E false true (.Call (.Attribute o "append" apos) [e] [] pos) (mLop i r fApp m) :=
 PE.pre (pe_bm PySem.F.plainAttrs_list PySem.F.slot_list_append PySem.F.type_list_append mt_append ho (pa_cons he pa_nil hs) hbase hfew hline hs hp) fun σ H Q h => lop_pre hF ok_app h
end
end VL
namespace VL
open PySem L2
section
variable {G : Gam} {X : Cx} {E : WX} {p pk sk pv : Bool} {pos : Pos}
theorem KRel.len {W : Addr → Prop} {H : Hp} {kvs : List (Key × V)} {d : DL} (r : KRel G W H kvs d) : kvs.length = d.length := by
 have := congrArg List.length r.ks
 simpa using this.symm
end
end VL
namespace VL
open PySem L2 PyProof.Rows
section
variable {prog : Program} {w : World} {A : Around} {E : Value → Shared → Prop} {s : Shared} {K : PySem.W.Frag} {x C f : Addr} {ox : Obj} {od : Option Obj} {T : String}
end
section
variable {G : Gam} {H : Hp}
section
variable {X : Cx} {E : WX} {a b e : Expr} {p1 p2 p : Bool} {m1 m2 m : ME} {pos : Pos} {C f : Addr} {c i : Nat} {ml : MF}
end
end
end VL
namespace VL
open PySem L2
section
variable {G : Gam} {X : Cx}
def bools : List Val → Option (List Bool)
 | [] => some []
 | .bl b :: r => (bools r).map (b :: ·)
 | _ => none
def semAll : List Val → Option Val
 | [.lst _ l] => match bools l with
  | some bs => some (.bl (bs.all id))
  | none => none
 | _ => none
theorem bools_of {W : Addr → Prop} {H : Hp} : ∀ {l : List Val} {xs : List V} {O : List Addr} {bs : List Bool}, Reps G W H xs l O → bools l = some bs → xs = bs.map V.bl
 | [], _, _, _, r, h => by cases r; cases h; rfl
 | u :: l, _, _, bs, r, h => by
  cases r with
  | cons r t =>
   cases u with
   | bl b =>
    simp only [bools] at h
    cases hb : bools l with
    | none => rw [hb] at h; cases h
    | some cs =>
     rw [hb] at h
     cases h
     cases r
     rw [bools_of t hb]; rfl
   | _ => cases h
theorem ok_all (hK : X.K = G.K) : OkF G (rAll X.K) semAll := by
 rw [hK]
 intro W H xs vs Ol v Q w r hs m
 unfold semAll at hs
 split at hs
 · obtain ⟨x, O, rfl, r1⟩ := r.inv1
   split at hs
   · rename_i bs hb
     cases hs
     obtain ⟨a, ys, O1, rfl, e1, q1⟩ := rep_lstL r1
     have e := bools_of q1 hb
     subst e
     exact ⟨a, bs, rfl, .inl (.inl e1), m.same (.bl _)⟩
   · cases hs
 · cases hs
end
section
variable {G : Gam} {X : Cx} {E : WX} {bs : List Bool} {σ0 : L2.St} {e e2 : Expr} {p s p2 s2 : Bool} {m m2 : ME} {pos : Pos} {i : Nat}
def zipV : List Val → List Val → List Val
 | x :: xs, y :: ys => .tup [x, y] :: zipV xs ys
 | _, _ => []
theorem zipV_len : ∀ (xs ys : List Val), (zipV xs ys).length = min xs.length ys.length
 | [], _ => by simp [zipV]
 | _ :: _, [] => by simp [zipV]
 | x :: xs, y :: ys => by simp [zipV, zipV_len xs ys]
theorem zipV_get : ∀ {xs ys : List Val} {i : Nat} {u : Val}, (zipV xs ys)[i]? = some u → ∃ a b, xs[i]? = some a ∧ ys[i]? = some b ∧ u = .tup [a, b]
 | [], _, i, u, h => by simp [zipV] at h
 | _ :: _, [], i, u, h => by simp [zipV] at h
 | x :: xs, y :: ys, 0, u, h => by simp [zipV] at h; exact ⟨x, y, rfl, rfl, h.symm⟩
 | x :: xs, y :: ys, i + 1, u, h => by simpa using zipV_get (xs := xs) (ys := ys) (i := i) (by simpa [zipV] using h)
end
end VL
namespace VL
open PySem L2
variable {ia : Air}
section
variable {G : Gam} {X : Cx} {E : WX} {σ : L2.St}
theorem nest_len : ∀ {os : List Op} {H : Hp} {K : List V → Hp → Prop}, nest G E os σ H K → nest G E os σ H fun xs H' => xs.length = os.length ∧ K xs H'
 | [], H, K, h => ⟨rfl, h⟩
 | o :: os, H, K, h => rd_mono h fun x H1 h1 => nest_imp (nest_len h1) fun xs H2 ⟨l, k⟩ => ⟨by simp [l], k⟩
where
 nest_imp : ∀ {os : List Op} {H : Hp} {K K' : List V → Hp → Prop}, nest G E os σ H K → (∀ xs H', K xs H' → K' xs H') → nest G E os σ H K'
  | [], H, K, K', h, k => k _ _ h
  | o :: os, H, K, K', h, k => rd_mono h fun x H1 h1 => nest_imp h1 fun xs H2 q => k _ _ q
def mergeD0 : List Arg → List V → List V
 | [], _ => []
 | .v _ :: as, x :: xs => x :: mergeD0 as xs
 | .v _ :: as, [] => .non :: mergeD0 as []
 | .r _ :: as, xs => mergeD0 as xs
 | .k x _ :: as, xs => x :: mergeD0 as xs
theorem nest_of_G : ∀ {as : List Arg} {H : Hp} {K : List V → Hp → Prop}, noRefs as = true → nestG G E as σ H K → nest G E (vals as) σ H fun xs H' => K (mergeD0 as xs) H'
 | [], H, K, _, h => h
 | .v o :: as, H, K, hn, h => rd_mono h fun x H1 h1 => nest_of_G (as := as) hn h1
 | .r i :: as, H, K, hn, h => by cases hn
 | .k x u :: as, H, K, hn, h => nest_of_G (as := as) hn h
theorem vk_nil : PK X [] fun σ H K => nest G E [] σ H K := pk_nil
theorem vk_cons {e : Expr} {nm : Option Str} {kpos : Pos} {kws : List Keyword} {os : List Op} {p s : Bool} {m : ME} (h : VE G X E p s e m) (t : PK X kws fun σ H K => nest G E os σ H K) : PK X (⟨nm, e, kpos⟩ :: kws) fun σ H K => nest G E (⟨p, s, m⟩ :: os) σ H K := pk_cons h t
end
end VL
namespace VL
open PySem L2
mutual
def chkV (K : PySem.W.Frag) : Val → Value → Bool
 | .non, .none => true
 | .bl b, .bool c => b == c
 | .int i, .int j _ => decide (i = j)
 | .str x, .str y _ => decide (x = y)
 | .wtp vs, .ref a => (match K.lookup a with
  | some ⟨.type c, _, .seq its _, _⟩ => decide (c = "tuple") && (decide (its.size ≤ 1000) && chkVs K vs its.toList)
  | _ => false)
 | _, _ => false
def chkVs (K : PySem.W.Frag) : List Val → List Value → Bool
 | [], [] => true
 | v :: vs, u :: us => chkV K v u && chkVs K vs us
 | _, _ => false
end
mutual
theorem chkV_ok {K : PySem.W.Frag} : ∀ {v : Val} {u : Value}, chkV K v u = true → ∃ x, RelV x u ∧ ∀ (G : Gam) W H, G.K = K → Rep G W H x v []
 | .non, u, h => by cases u <;> simp [chkV] at h; exact ⟨.non, rfl, fun _ _ _ _ => .non⟩
 | .bl b, u, h => by
  cases u <;> simp [chkV] at h
  subst h
  exact ⟨.bl b, rfl, fun _ _ _ _ => .bl b⟩
 | .int i, u, h => by
  cases u <;> simp [chkV] at h
  subst h
  exact ⟨.int i, ⟨_, rfl⟩, fun _ _ _ _ => .int i⟩
 | .str x, u, h => by
  cases u <;> simp [chkV] at h
  subst h
  exact ⟨.str x, ⟨_, rfl⟩, fun _ _ _ _ => .str x⟩
 | .wtp vs, u, h => by
  cases u with
  | ref a =>
   simp only [chkV] at h
   cases q : K.lookup a with
   | none => rw [q] at h; cases h
   | some o =>
    obtain ⟨oc, od, dt, osl⟩ := o
    rw [q] at h
    cases oc with
    | type c =>
     cases dt with
     | seq its n =>
      simp only [Bool.and_eq_true, decide_eq_true_eq] at h
      obtain ⟨rfl, hz, hv⟩ := h
      obtain ⟨xs, rv, rr⟩ := chkVs_ok hv
      exact ⟨.ref a, rfl, fun G W H hG => .wtp (.inr ⟨_, its, n, hG ▸ q, rfl, rfl, sz_le (by omega), rv⟩) (rr G W H hG)⟩
     | _ => cases h
    | _ => cases dt <;> cases h
  | _ => simp [chkV] at h
 | .ty n, u, h => by simp [chkV] at h
 | .cn n, u, h => by simp [chkV] at h
 | .fn n, u, h => by simp [chkV] at h
 | .tup xs, u, h => by simp [chkV] at h
 | .lst o xs, u, h => by simp [chkV] at h
 | .dct o d ks xs, u, h => by simp [chkV] at h
 | .obj o c fs xs, u, h => by simp [chkV] at h
 | .exn c fs xs, u, h => by simp [chkV] at h
 | .scr ns, u, h => by simp [chkV] at h
 | .wdk ks xs, u, h => by simp [chkV] at h
theorem chkVs_ok {K : PySem.W.Frag} : ∀ {vs : List Val} {us : List Value}, chkVs K vs us = true → ∃ xs, Vals xs us ∧ ∀ (G : Gam) W H, G.K = K → Reps G W H xs vs []
 | [], us, h => by
  cases us with
  | nil => exact ⟨[], .nil, fun _ _ _ _ => .nil⟩
  | cons _ _ => simp [chkVs] at h
 | v :: vs, us, h => by
  cases us with
  | nil => simp [chkVs] at h
  | cons u us =>
   simp only [chkVs, Bool.and_eq_true] at h
   obtain ⟨x, r, q⟩ := chkV_ok h.1
   obtain ⟨xs, rs, qs⟩ := chkVs_ok h.2
   exact ⟨x :: xs, .cons r rs, fun G W H hG => .cons (O := []) (O' := []) (q G W H hG) (qs G W H hG)⟩
end
abbrev AlW : Type := He.AlD × List (Option (List (Option (Str × Int))))
def obsW (fa : List (PySem.W.Frag → Bool)) (fn : List VDef) (ts : List He.Tab) (K : PySem.W.Frag) : AlW := (obsV fa fn K, ts.map fun t => He.dicW K (t.1 K))
def valW (fn : List VDef) (ts : List He.Tab) (w : World) : AlW := ((true, fn.map VDef.shape), ts.map fun t => some (He.keysIn w.params t.2))
def SaysW (fa : List (PySem.W.Frag → Bool)) (fn : List VDef) (ts : List He.Tab) (w : World) (K : PySem.W.Frag) : Prop := obsW fa fn ts K = valW fn ts w
def visitK {α : Type} : List Addr → Nat → List Addr → (Nat → List Addr → α) → α
 | [], seen, new, k => k seen new
 | a :: r, seen, new, k => match Nat.testBit seen a with
  | true => visitK r seen new k
  | false => HandSHeadRun.frNat (seen ||| (1 <<< a)) fun seen' => HandSHeadRun.frNat a fun a' => visitK r seen' (a' :: new) k
theorem visitK_ok : ∀ (l : List Addr) (seen : Nat) (new : List Addr), ∃ seen' new', ∀ (α : Type) (k : Nat → List Addr → α), visitK l seen new k = k seen' new'
 | [], seen, new => ⟨seen, new, fun _ _ => rfl⟩
 | a :: r, seen, new => by
  cases h : Nat.testBit seen a with
  | true =>
   obtain ⟨s', n', e⟩ := visitK_ok r seen new
   exact ⟨s', n', fun α k => by unfold visitK; rw [h]; exact e α k⟩
  | false =>
   obtain ⟨s', n', e⟩ := visitK_ok r (seen ||| (1 <<< a)) (a :: new)
   exact ⟨s', n', fun α k => by unfold visitK; rw [h]; dsimp only; rw [HandSHeadRun.frNat_eq, HandSHeadRun.frNat_eq]; exact e α k⟩
def growK {α : Type} (g : Addr → Option Obj) : List Addr → Nat → List Addr → PySem.W.Frag → (Nat → List Addr → PySem.W.Frag → α) → α
 | [], seen, new, K, k => k seen new K
 | a :: r, seen, new, K, k => match g a with
  | some o => visitK (He.refsD o) seen new fun seen new => growK g r seen new ((a, o) :: K) k
  | none => growK g r seen new K k
def GoodK (g : Addr → Option Obj) (K : PySem.W.Frag) : Prop := ∀ p ∈ K, g p.1 = some p.2
theorem growK_ok (g : Addr → Option Obj) : ∀ (l : List Addr) (seen : Nat) (new : List Addr) (K : PySem.W.Frag), GoodK g K → ∃ seen' new' K', GoodK g K' ∧ ∀ (α : Type) (k : Nat → List Addr → PySem.W.Frag → α), growK g l seen new K k = k seen' new' K'
 | [], seen, new, K, h => ⟨seen, new, K, h, fun _ _ => rfl⟩
 | a :: r, seen, new, K, h => by
  cases e : g a with
  | none =>
   obtain ⟨s', n', K', h', e'⟩ := growK_ok g r seen new K h
   exact ⟨s', n', K', h', fun α k => by unfold growK; rw [e]; exact e' α k⟩
  | some o =>
   obtain ⟨s1, n1, e1⟩ := visitK_ok (He.refsD o) seen new
   obtain ⟨s', n', K', h', e'⟩ := growK_ok g r s1 n1 ((a, o) :: K) (fun p hp => (List.mem_cons.mp hp).elim (fun z => by rw [z]; exact e) (h p))
   exact ⟨s', n', K', h', fun α k => by unfold growK; rw [e]; dsimp only; rw [e1]; exact e' α k⟩
def revK {α : Type} : PySem.W.Frag → PySem.W.Frag → (PySem.W.Frag → α) → α
 | [], acc, k => k acc
 | p :: r, acc, k => revK r (p :: acc) k
theorem revK_ok {g : Addr → Option Obj} : ∀ (K acc : PySem.W.Frag), GoodK g K → GoodK g acc → ∃ K', GoodK g K' ∧ ∀ (α : Type) (k : PySem.W.Frag → α), revK K acc k = k K'
 | [], acc, _, h => ⟨acc, h, fun _ _ => rfl⟩
 | p :: r, acc, h1, h2 => revK_ok r (p :: acc) (fun q hq => h1 q (List.mem_cons_of_mem _ hq)) fun q hq => (List.mem_cons.mp hq).elim (fun z => by rw [z]; exact h1 p List.mem_cons_self) (h2 q)
def bfsK {α : Type} (g : Addr → Option Obj) : Nat → List Addr → Nat → PySem.W.Frag → (PySem.W.Frag → α) → α
 | 0, _, _, K, k => revK K [] k
 | n + 1, l, seen, K, k => growK g l seen [] K fun seen new K => bfsK g n new seen K k
theorem bfsK_ok (g : Addr → Option Obj) : ∀ (n : Nat) (l : List Addr) (seen : Nat) (K : PySem.W.Frag), GoodK g K → ∃ K', GoodK g K' ∧ ∀ (α : Type) (k : PySem.W.Frag → α), bfsK g n l seen K k = k K'
 | 0, _, _, K, h => revK_ok K [] h fun _ z => nomatch z
 | n + 1, l, seen, K, h => by
  obtain ⟨s1, n1, K1, h1, e1⟩ := growK_ok g l seen [] K h
  obtain ⟨K2, h2, e2⟩ := bfsK_ok g n n1 s1 K1 h1
  exact ⟨K2, h2, fun α k => by unfold bfsK; rw [e1]; exact e2 α k⟩
def withK {α : Type} (g : Addr → Option Obj) (n : Nat) (k : PySem.W.Frag → α) : α := HandSHeadRun.frNat (1 <<< mainGlobals) fun s => match g cStatics with
 | some o => bfsK g n [mainGlobals] s [(cStatics, o)] k
 | none => bfsK g n [mainGlobals] s [] k
theorem goodK_in {g : Addr → Option Obj} : ∀ {K : PySem.W.Frag}, GoodK g K → ∀ a o, K.lookup a = some o → g a = some o
 | [], _, _, _, e => nomatch (show (none : Option Obj) = some _ from e)
 | (b, x) :: r, h, a, o, e => by
  have e2 : (match a == b with | true => some x | false => r.lookup a) = some o := e
  cases q : a == b with
  | true =>
   rw [q] at e2
   cases e2
   have : a = b := by simpa using q
   rw [this]
   exact h (b, x) List.mem_cons_self
  | false =>
   rw [q] at e2
   exact goodK_in (fun p hp => h p (List.mem_cons_of_mem _ hp)) a o e2
theorem withK_ok (g : Addr → Option Obj) (n : Nat) : ∃ K : PySem.W.Frag, (∀ a o, K.lookup a = some o → g a = some o) ∧ ∀ (α : Type) (k : PySem.W.Frag → α), withK g n k = k K := by
 cases hc : g cStatics with
 | some o =>
  obtain ⟨K, h, e⟩ := bfsK_ok g n [mainGlobals] (1 <<< mainGlobals) [(cStatics, o)] (fun p hp => by rw [List.mem_singleton.mp hp]; exact hc)
  exact ⟨K, goodK_in h, fun α k => by unfold withK; rw [HandSHeadRun.frNat_eq, hc]; exact e α k⟩
 | none =>
  obtain ⟨K, h, e⟩ := bfsK_ok g n [mainGlobals] (1 <<< mainGlobals) [] (fun _ z => nomatch z)
  exact ⟨K, goodK_in h, fun α k => by unfold withK; rw [HandSHeadRun.frNat_eq, hc]; exact e α k⟩
def obsWG (n : Nat) (fa : List (PySem.W.Frag → Bool)) (fn : List VDef) (ts : List He.Tab) (g : Addr → Option Obj) : AlW := withK g n (obsW fa fn ts)
def hookW (n : Nat) (fa : List (PySem.W.Frag → Bool)) (fn : List VDef) (ts : List He.Tab) : PySem.W.Hook where
 α := AlW
 obs := fun s => obsWG n fa fn ts s.heap.get?
 val := fun w => valW fn ts w
 says := fun w h => ∃ K : PySem.W.Frag, K.In h ∧ SaysW fa fn ts w K
 of := fun _ s e => by
  obtain ⟨K, hK, eK⟩ := withK_ok s.heap.get? n
  exact ⟨K, hK, (eK _ _).symm.trans e⟩
 keeps := fun _ _ _ ⟨K, hK, c⟩ k => ⟨K, PySem.W.Frag.In.keeps hK k, c⟩
theorem obsWG_eq {n : Nat} {fa : List (PySem.W.Frag → Bool)} {fn : List VDef} {ts : List He.Tab} {g : Addr → Option Obj} {s : Shared} (h : ∀ a, g a = s.heap.get? a) : obsWG n fa fn ts g = (hookW n fa fn ts).obs s := by
 have e : g = s.heap.get? := funext h
 rw [e]; rfl
section
variable {fa : List (PySem.W.Frag → Bool)} {fn : List VDef} {ts : List He.Tab} {w : World} {K : PySem.W.Frag}
theorem SaysW.v (c : SaysW fa fn ts w K) : SaysV fa fn K := congrArg (fun z : AlW => z.1) c
end
end VL
namespace VL
open PySem L2
end VL
namespace VL
open PySem L2
structure Xc (d : Addr) (kvs : List (Key × V)) (H H' : Hp) : Prop where
 off : ∀ a, a ≠ d → H' a = H a
 old : Rd H d (.dK kvs)
 new : Rd H' d (.dK kvs)
section
variable {G : Gam} {W : Addr → Prop} {H H' : Hp} {d : Addr} {kvs : List (Key × V)}
theorem Xc.at (X : Xc d kvs H H') {a : Addr} {o : HO} (h : H a = some o) (h1 : o ≠ .dK kvs) (h2 : ∀ od, o ≠ .frz od (.dK kvs)) : H' a = some o := by
 rw [X.off a fun z => ?_]; exact h
 subst z
 rcases X.old with e | ⟨od, e⟩
 · rw [h] at e; cases e; exact h1 rfl
 · rw [h] at e; cases e; exact h2 _ rfl
theorem Xc.fz (X : Xc d kvs H H') {a : Addr} {o : HO} (h : Fz W H a o) (h1 : o ≠ .dK kvs) (h2 : ∀ od, o ≠ .frz od (.dK kvs)) : Fz W H' a o := ⟨X.at h.1 h1 h2, h.2⟩
theorem Xc.fd (X : Xc d kvs H H') {a : Addr} {ks : List (Key × V)} (h : Fd W H a (.dK ks)) : Fd W H' a (.dK ks) := by
 refine ⟨?_, h.2⟩
 by_cases e : a = d
 · subst e
   have : ks = kvs := by
    rcases h.1 with q | ⟨o, q⟩ <;> rcases X.old with r | ⟨o', r⟩ <;> rw [q] at r <;> cases r <;> rfl
   subst this
   exact X.new
 · rcases h.1 with q | ⟨o, q⟩
   · exact .inl ((X.off a e).trans q)
   · exact .inr ⟨o, (X.off a e).trans q⟩
mutual
theorem Rep.xc {x : V} {v : Val} {O : List Addr} (r : Rep G W H x v O) (X : Xc d kvs H H') (nd : d ∉ O) : Rep G W H' x v O := by
 cases r with
 | non => exact .non
 | bl b => exact .bl b
 | int i => exact .int i
 | str x => exact .str x
 | ty n => exact .ty n
 | cn h => exact .cn h
 | fn h => exact .fn h
 | tup h r => exact .tup (X.fz h (fun z => nomatch z) fun _ z => nomatch z) (r.xc X nd)
 | wtp h r => exact .wtp h (r.xc X fun z => nomatch z)
 | lstO h r => exact .lstO (X.at h (fun z => nomatch z) fun _ z => nomatch z) (r.xc X fun z => nd (List.mem_cons_of_mem _ z))
 | lstF h r => exact .lstF (X.fz h (fun z => nomatch z) fun _ z => nomatch z) (r.xc X fun z => nomatch z)
 | scr h => exact .scr (h.imp (fun ⟨o, e, nw⟩ => ⟨o, X.at e (fun z => nomatch z) (fun _ z => nomatch z), nw⟩) id)
 | wdk h hk r => exact .wdk h hk (r.xc X fun z => nomatch z)
 | dkO h hk r => exact .dkO ((X.off _ fun z => nd (z ▸ List.mem_cons_self)).trans h) hk (r.xc X fun z => nd (List.mem_cons_of_mem _ z))
 | dkF h hk r => exact .dkF (X.fd h) hk (r.xc X fun z => nomatch z)
 | dtO h hk r => exact .dtO (X.at h (fun z => nomatch z) fun _ z => nomatch z) hk (r.xc X fun z => nd (List.mem_cons_of_mem _ z))
 | dtF h hk r => exact .dtF (X.fz h (fun z => nomatch z) fun _ z => nomatch z) hk (r.xc X fun z => nomatch z)
 | dnO h hk hn r => exact .dnO (X.at h (fun z => nomatch z) fun _ z => nomatch z) (hk.xc X fun z => nomatch z) hn (r.xc X fun z => nd (List.mem_cons_of_mem _ z))
 | dnF h hk hn r => exact .dnF ⟨h.1.imp (fun e => X.at e (fun z => nomatch z) fun _ z => nomatch z) fun ⟨o, e⟩ => ⟨o, X.at e (fun z => nomatch z) fun _ z => nomatch z⟩, h.2⟩ (hk.xc X fun z => nomatch z) hn (r.xc X fun z => nomatch z)
 | objO h hc hn r => exact .objO (X.at h (fun z => nomatch z) fun _ z => nomatch z) hc hn (r.xc X fun z => nd (List.mem_cons_of_mem _ z))
 | objF h hc hn r => exact .objF (X.fz h (fun z => nomatch z) fun _ z => nomatch z) hc hn (r.xc X fun z => nomatch z)
 | exn hh hc h hn r => exact .exn hh hc ⟨X.at h.1 (fun z => nomatch z) (fun _ z => nomatch z), h.2⟩ hn (r.xc X fun z => nomatch z)
theorem Reps.xc {xs : List V} {vs : List Val} {O : List Addr} (r : Reps G W H xs vs O) (X : Xc d kvs H H') (nd : d ∉ O) : Reps G W H' xs vs O := by
 cases r with
 | nil => exact .nil
 | cons r t => exact .cons (r.xc X fun z => nd (List.mem_append_left _ z)) (t.xc X fun z => nd (List.mem_append_right _ z))
end
theorem Rel.xc {R : Addr → Prop} {σ : L2.St} {ρ : VEnv} {Os : Nat → List Addr} (r : Rel G R H σ ρ Os) (X : Xc d kvs H H') (nd : ¬ We Os d) : Rel G R H' σ ρ Os := by
 refine ⟨r.len, fun i v hv => ?_, r.nil, r.nd, r.dj, r.dr, fun a ha => ?_⟩
 · obtain ⟨x, hx, q⟩ := r.rep i v hv
   exact ⟨x, hx, q.xc X fun z => nd ⟨i, z⟩⟩
 · by_cases e : a = d
   · subst e
     rcases X.new with q | ⟨o, q⟩ <;> exact ⟨_, q⟩
   · rw [X.off a e]; exact r.rt a ha
end
section
variable {G : Gam} {X : Cx} {E : WX} {e tg : Expr} {m : ME} {i : Nat} {p : Bool}
end
end VL
namespace VL
open PySem L2
section
variable {G : Gam} {X : Cx} {E : WX} {bs : List Bool} {σ0 : L2.St} {pos pos' : Pos} {p : Bool} {m : ME}
end
end VL
namespace VL
open PySem PySem.Spec PyProof.Rows L2
section
variable {X : Cx} {e : Expr} {te : TE} {p apos cpos pos : Pos}
end
section
variable {G : Gam} {X : Cx} {E : WX} {e : Expr} {pu s : Bool} {m : ME} {p apos cpos pos : Pos}
end
end VL
namespace VL
open PySem L2
section
variable {G : Gam} {X : Cx} {E : WX} {a b : Expr} {rest : List Expr} {pos : Pos} {p1 s1 p2 s2 : Bool} {m m1 m2 : ME}
end
end VL
namespace VL
open PySem L2
section
variable {G : Gam} {X : Cx} {E : WX} {tg a b : Expr} {pos x1 : Pos} {p1 s1 p2 s2 : Bool} {m1 m2 : ME}
end
section
variable {G : Gam} {X : Cx}
end
end VL
namespace VL
open PySem L2
section
variable {G : Gam} {X : Cx} {bs : List Bool} {σ0 : L2.St} {pos : Pos}
end
end VL
namespace VL
open PySem L2
section
variable {G : Gam} {X : Cx} {E : WX} {bs : List Bool} {σ0 : L2.St} {a b c : Expr} {pos : Pos} {p1 p2 p3 : Bool} {m1 m2 m3 : ME}
end
end VL
namespace VL
open PySem L2
variable {ia : Air}
def kwAt (ad : PySem.W.Frag → Addr) (x : Str) (K : PySem.W.Frag) : Addr := match K.lookup (ad K) with
 | some ⟨_, _, .func fd, _⟩ => (match fd.kwdefaults with
  | .ref D => (match PySem.W.nsIn K D x with
   | some (some (.ref a)) => a
   | _ => 0)
  | _ => 0)
 | _ => 0
def tAt (p : PySem.W.Frag → Addr) (v : Val) : Ftest := fun K => chkV K v (.ref (p K))
theorem at_ok {K : PySem.W.Frag} {p : PySem.W.Frag → Addr} {v : Val} (h : tAt p v K = true) : ∀ (G : Gam) W H, G.K = K → Rep G W H (.ref (p K)) v [] := by
 obtain ⟨y, r, q⟩ := chkV_ok h
 cases y with
 | ref a =>
  cases r
  exact q
 | non => cases r
 | bl b => cases r
 | int i => obtain ⟨_, z⟩ := r; cases z
 | str s => obtain ⟨_, z⟩ := r; cases z
 | flt s => obtain ⟨_, z⟩ := r; cases z
 | byt s => obtain ⟨_, z⟩ := r; cases z
 | ty s => cases r
section
variable {G : Gam} {X : Cx} {E : WX} {σ : L2.St}
theorem nest_app : ∀ {os ps : List Op} {H : Hp} {K : List V → Hp → Prop}, nest G E (os ++ ps) σ H K → nest G E os σ H fun xs H1 => nest G E ps σ H1 fun ys H2 => K (xs ++ ys) H2
 | [], ps, H, K, h => h
 | o :: os, ps, H, K, h => rd_mono h fun x H1 h1 => nest_app (os := os) h1
theorem nest_imp : ∀ {os : List Op} {H : Hp} {K K' : List V → Hp → Prop}, nest G E os σ H K → (∀ xs H', K xs H' → K' xs H') → nest G E os σ H K'
 | [], H, K, K', h, k => k _ _ h
 | o :: os, H, K, K', h, k => rd_mono h fun x H1 h1 => nest_imp h1 fun xs H2 q => k _ _ q
theorem ve_makeK1 {x : Str} {px pos : Pos} {k n c : Nat} {f C : Addr} {fd : FuncData} {ps ks : List Str} {mf : MF} {as : List Arg} {kws : List Keyword} {e : Expr} {es : List Expr} {os1 os2 : List Op} {g : List Value → List Value → List Value} {gV : List V → List V → List V} (hC : G.cn c = some C) (M : Mk X.K C f)
    (F : FnOkG X.prog X.w X.K X.mg X.base (ia.CX X.prog X.w) k f fd ps (spV G (n + 1) mf)) (hr : RoomG (k + 1) X.A) (hb : KBn X.K fd ps (os1.length + 1) ks g gV) (tk : ia.Takes X E) (hg : Gl X x) (hm : X.mg x = some (.ref C)) (ha : VAs G X E (e :: es) os1) (hkw : PK X kws fun σ H K => nest G E os2 σ H K) (df : Dfl G as)
    (hv : vals as = os1 ++ os2) (hgv : ∀ y xs zs, xs.length = os1.length → zs.length = os2.length → gV (y :: xs) zs = y :: mergeD0 as (xs ++ zs)) (hn : as.length = n := by rfl) (hs : (vals as).all (·.s) = true := by rfl) (nr : noRefs as = true := by rfl) (hks0 : os2.length = ks.length := by rfl)
    (hall : (backToKw pos (keywordEach kws X.env)).all (·.1.isSome) = true := by rfl) (hks : (backToKw pos (keywordEach kws X.env)).filterMap (·.1) = ks := by rfl) (hdb : (x == ("__debug__" : Str)) = false := by decide)
    (he : starEach (e :: es) X.env = (false, eval e X.env) :: starEach es X.env := by rfl) (hpl : ((backTo pos (starEach (e :: es) X.env)).any (·.1) || (backToKw pos (keywordEach kws X.env)).any (·.1.isNone)) = false := by rfl) :
    VE G X E (argsP as) true (.Call (.Name x px) (e :: es) kws pos) (mCall (mMake c mf) as) := by
 refine ⟨fun pins s σ H Q I h => ?_⟩
 have q0 := nest_of_G nr (call_of df hs hn h)
 rw [hv] at q0
 have q1 := nest_len (nest_app q0)
 have q2 := nest_imp q1 (K' := fun xs H1 => xs.length = os1.length ∧ nest G E os2 σ H1 fun zs H2 => zs.length = os2.length ∧ spV G n (mMake c mf) (mergeD0 as (xs ++ zs)) H2 Q (WE E σ)) fun xs H1 ⟨l, z⟩ => ⟨l, nest_len z⟩
 refine wpAny_Call_Name_kw (ld_glob I hg hm ?_ hdb)
 refine PySem.W.callWith_KW (h₀ := X.base) I.ok.mod.kin M.kp hall (thn (ha.run pos pins s σ H _ I q2) fun us s1 ⟨xs, H1, I1, r, lx, q3⟩ => ?_) hpl he
 refine thn (hkw.run pos pins s1 σ H1 _ I1 q3) fun ws s2 ⟨zs, H2, I2, rz, hlen, q2⟩ => ⟨I2.kIn, ?_⟩
 rw [hks]
 have hx := I2.hok.fresh (Nat.le_succ s2.heap.objs.size)
 have hdx := I2.hok.fresh (Nat.le_refl s2.heap.objs.size)
 have hq := sp_make (x := s2.heap.objs.size + 1) (dx := s2.heap.objs.size) hC q2 hx hdx (Nat.ne_of_lt (Nat.lt_succ_self _))
 rw [← hgv _ xs zs lx hlen] at hq
 have I3 := Inv.made (C := C) I2
 have r1 : Vals (V.ref (s2.heap.objs.size + 1) :: xs) (Value.ref (s2.heap.objs.size + 1) :: us) := .cons rfl r
 refine wpAny_call (make_map (f := f) I2.kIn M.makes M.init (beq_iff_eq.mp M.fn) ?_)
 have run := F.run (X.A.under (.builtin "type.__call__" ⟨.ref C :: us, ks.zip ws⟩)) X.stack _ _ ⟨Value.ref (s2.heap.objs.size + 1) :: us, ks.zip ws⟩ (g (Value.ref (s2.heap.objs.size + 1) :: us) ws) _ _ (WE E σ) (hr.make C us (ks.zip ws)) (I3.env0.make C us (ks.zip ws))
  (hb.to _ (Value.ref (s2.heap.objs.size + 1) :: us) ws I3.kIn (by rw [List.length_cons, ← r.length, lx]) (by rw [← rz.length, hlen, hks0])) (hb.rel r1 rz) hq
 refine codeAny_mono run fun res s4 hq2 => ?_
 cases res with
 | error er => exact passAtA tk σ pins _ _ er s4 I3 hq2
 | ok fl =>
  cases fl with
  | ret u =>
   obtain ⟨v, H', I4, rv3, ev, q3⟩ := I3.after hq2
   subst ev
   exact ⟨rv3, ⟨V.ref (s2.heap.objs.size + 1), H', I4, rfl, q3⟩⟩
  | next => exact hq2.elim
  | brk => exact hq2.elim
  | cont => exact hq2.elim
end
end VL
namespace VL
open PySem L2
def intsL : List Val → Option (List Int)
 | [] => some []
 | .int i :: l => match intsL l with
  | some ns => some (i :: ns)
  | none => none
 | _ => none
section
variable {G : Gam} {X : Cx} {E : WX}
theorem ints_of_reps {W : Addr → Prop} {H : Hp} : ∀ {l : List Val} {xs : List V} {O : List Addr} {ns : List Int}, Reps G W H xs l O → intsL l = some ns → xs = ns.map V.int ∧ l = ns.map Val.int
 | [], _, _, _, r, h => by cases r; cases h; exact ⟨rfl, rfl⟩
 | u :: l, _, _, ns, r, h => by
  cases r with
  | cons r t =>
   cases u with
   | int i =>
    simp only [intsL] at h
    cases hb : intsL l with
    | none => rw [hb] at h; cases h
    | some cs =>
     rw [hb] at h
     cases h
     cases r
     obtain ⟨a, b⟩ := ints_of_reps t hb
     exact ⟨by rw [a]; rfl, by rw [b]; rfl⟩
   | _ => cases h
theorem reps_ints {W : Addr → Prop} {H : Hp} : ∀ ns : List Int, Reps G W H (ns.map V.int) (ns.map Val.int) []
 | [] => .nil
 | n :: ns => .cons (O := []) (O' := []) (.int n) (reps_ints ns)
theorem intsL_map : ∀ ns : List Int, intsL (ns.map Val.int) = some ns
 | [] => rfl
 | n :: ns => by simp [intsL, intsL_map ns]
variable {p s : Bool} {m : ME} {e : Expr} {pos : Pos}
def mLopN (i : Nat) (f : List Val → Val → Option (List Val)) (m : ME) : ME := fun ρ => match ρ[i]? with
 | some (some (.lst true _)) => (match m ρ with
  | .ok u ρ1 => (match ρ1[i]? with
   | some (some (.lst true ys)) => (match f ys u with
    | some zs => .ok .non (ρ1.set i (some (.lst true zs)))
    | none => .bad)
   | _ => .bad)
  | .exc e ρ1 => .exc e ρ1
  | .bad => .bad)
 | _ => .bad
theorem lopN_pre {i : Nat} {f : List Val → Val → Option (List Val)} {rr : V → List V → Hp → VK → Prop} {σ : L2.St} {H : Hp} {Q : VK} (ok : LopOk G rr f)
    (h : rd G E false true (mLopN i f m) σ H Q) : tNav X.K i [] σ H fun x H1 => tyV X.K "list" x H1 ∧ rd G E p true m σ H1 fun y H2 => rr x [y] H2 Q := by
 obtain ⟨R, ρ, Os, rel, post⟩ := h
 unfold mLopN at post
 split at post
 rotate_left
 · exact post.elim
 rename_i ys0 hv
 have e0 : (fun a => R a ∨ a ∈ ([] : List Addr)) = R := setEq fun a => ⟨fun z => z.elim id (fun z => nomatch z), Or.inl⟩
 obtain ⟨x, hx, rw'⟩ := rel.rep i _ hv
 obtain ⟨b, xs, ey, eb⟩ : ∃ b xs, x = .ref b ∧ H b = some (.lst xs) := by
  obtain ⟨a, ys, O1, e1, e2, _⟩ := rep_lstL rw'
  exact ⟨a, ys, e1, e2⟩
 refine ⟨x, x, hx, rfl, ?_, R, ρ, Os, rel, ?_⟩
 · subst ey
   exact .inl ⟨rfl, xs, .inl (.inl eb)⟩
 cases hm : m ρ with
 | bad => rw [hm] at post; exact post
 | exc e ρ1 => rw [hm] at post; exact post
 | ok u ρ1 =>
  rw [hm] at post
  dsimp only at post
  cases hv2 : ρ1[i]? with
  | none => rw [hv2] at post; exact post.elim
  | some v2 =>
  rw [hv2] at post
  match v2, hv2, post with
  | some (.lst true ys), hv2, post =>
  dsimp only at post
  cases hf : f ys u with
  | none => rw [hf] at post; exact post.elim
  | some zs =>
  rw [hf] at post
  dsimp only at post
  intro y2 H2 Os2 Ou rel2 rep2 nd2 keep2 _
  have e1 : Rp R true Ou = fun a => R a ∨ a ∈ Ou := setEq fun a => ⟨fun z => z.imp id fun z => z.2, fun z => z.imp id fun z => ⟨rfl, z⟩⟩
  rw [e1] at rel2 rep2
  have nO : ∀ a ∈ Ou, ¬ R a := fun a ha z => by
   obtain ⟨o, ea, nw⟩ := rel.hr a z
   exact (keep2 a o ea nw).2.2 ⟨rfl, ha⟩
  obtain ⟨x', y', Ow2, hx', nav', rw2, ndw, sub, chg⟩ := Rel.at_path (K := X.K) (r := []) rel2 nO (nd2 rfl) (fun _ _ z => nomatch z) hv2 rfl
  rw [hx] at hx'
  cases hx'
  cases nav'
  subst ey
  cases rw2 with
  | @lstO _ xs2 _ P0 eb2 q =>
  have dj : ∀ a ∈ b :: P0, a ∉ Ou := fun a ha z => rel2.dr i a (sub a ha) (.inr z)
  obtain ⟨xs', P, run, ndP, hP, mk⟩ := ok _ H2 b xs2 ys P0 u y2 Ou zs eb2 q rep2 ndw (nd2 rfl) dj hf
  refine run Q ?_
  have ndb := List.nodup_cons.mp ndw
  obtain ⟨Os', r3, k3⟩ := chg b (.lst xs') (.lst true zs) P rfl List.mem_cons_self (List.nodup_cons.mpr ⟨fun z => (hP b z).elim ndb.1 fun z => dj b List.mem_cons_self z, ndP⟩) (fun c hc => (hP c hc).imp (List.mem_cons_of_mem _) id) fun W' tr =>
   .lstO upd_same (mk W' _ fun z u Oz hz => tr z u Oz fun c hc => ⟨(hz c hc).imp (List.mem_cons_of_mem _) id, fun w => (hz c hc).elim (fun z => ndb.1 (w ▸ z)) fun z => dj b List.mem_cons_self (w ▸ z)⟩)
  refine post .non _ Os' [] (r3.weak fun a z => z.elim id fun z => nomatch z.2) .non (fun _ => List.nodup_nil) (fun a o ea nw => ?_) fun z => by cases z
  obtain ⟨e2, n1, n2⟩ := keep2 a o ea nw
  obtain ⟨e3, n3⟩ := k3 a o e2 n1 fun z => n2 ⟨rfl, z⟩
  exact ⟨e3, n3, fun z => nomatch z.2⟩
def semLR : List Val → Option Val
 | [.int n] => if -(2 ^ 62) ≤ n ∧ n ≤ 16777216 then some (.lst true ((List.range n.toNat).map fun i : Nat => Val.int (i : Int))) else none
 | _ => none
def rLR : List V → Hp → VK → Prop := fun xs H Q => ∃ n : Int, xs = [.int n] ∧ RgOk 0 n ∧ ∀ q, H q = none → Q (.ref q) (upd H q (.lst (rgV 0 n)))
theorem ok_LR : OkF G rLR semLR := by
 intro W H xs vs Ol v Q w r hs m
 unfold semLR at hs
 split at hs
 · obtain ⟨x, O, rfl, r1⟩ := r.inv1
   split at hs
   · rename_i n hn
     cases hs
     cases r1
     have e : rgV 0 n = (((List.range n.toNat).map fun i : Nat => (i : Int)).map V.int) := by simp [rgV]
     have e2 : ((List.range n.toNat).map fun i : Nat => Val.int (i : Int)) = (((List.range n.toNat).map fun i : Nat => (i : Int)).map Val.int) := by simp
     rw [e2] at m
     refine ⟨n, rfl, ⟨by omega, by omega, hn.1, by omega, by omega⟩, ?_⟩
     rw [e]
     exact m.lst (reps_ints _)
   · cases hs
 · cases hs
theorem ve_lr {zp lp rp : Pos} (hc : X.calm = true) (hg : Gl X "list") (hm : X.mg "list" = none) (hg2 : Gl X "range") (hm2 : X.mg "range" = none) (h1 : VE G X E p s e m)
    (na : starEach [e] X.env = (false, eval e X.env) :: starEach [] X.env := by rfl) (na2 : starEach [.Call (.Name "range" rp) [e] [] pos] X.env = (false, eval (.Call (.Name "range" rp) [e] [] pos) X.env) :: starEach [] X.env := by rfl) : VE G X E p true (.Call (.Name "list" lp) [.Call (.Name "range" rp) [e] [] pos] [] zp) (mFun semLR [m]) := by
 have h := ve_fun (G := G) (E := E) (os := [⟨p, s, m⟩]) (r := rLR) (pe_listRg (p := lp) (pos := zp) hc hg hm (prg_1 hg2 hm2 h1 na) na2) (fun σ H Q z => rd_mono z fun x H1 ⟨n, e, r, q⟩ => ⟨n, by cases e; rfl, r, q⟩) ok_LR wf1
 simpa using h
end
end VL
namespace VL
open PySem L2 ClX
def smP (K : PySem.W.Frag) (C : Addr) (m : Str) : Addr := match PySem.W.findIn K (.ref C) m with
 | some (some (.ref p)) => p
 | _ => 0
def smF (K : PySem.W.Frag) (C : Addr) (m : Str) : Addr := match PySem.W.recIn K (smP K C m) "staticmethod" with
 | some (.ref f :: _) => f
 | _ => 0
structure SMet (K : PySem.W.Frag) (C : Addr) (m : Str) (p f : Addr) : Prop where
 rd : PySem.W.readsIn K C (.type "type") = true
 ga : PySem.W.specialIn K (.ref C) "__getattribute__" = some (some (.builtin "type.__getattribute__"))
 at_ : PySem.W.findCls K (.ref C) (.type "type") m = some (.get (.builtin "staticmethod.__get__") (.ref p) .none (.ref C))
 rc : ∃ rest, PySem.W.recIn K p "staticmethod" = some (.ref f :: rest)
 kp : PySem.W.keepIn K (.ref f) = true
def isGet (K : PySem.W.Frag) (C : Addr) (m : Str) : Bool := match PySem.W.findCls K (.ref C) (.type "type") m with
 | some (.get g a o t) => decide (g = .builtin "staticmethod.__get__") && decide (a = .ref (smP K C m)) && decide (o = .none) && decide (t = .ref C)
 | _ => false
def tSMet (c m : Str) : Ftest := fun K => PySem.W.readsIn K (He.ga K c) (.type "type") && (decide (PySem.W.specialIn K (.ref (He.ga K c)) "__getattribute__" = some (some (.builtin "type.__getattribute__"))) && (isGet K (He.ga K c) m && ((match PySem.W.recIn K (smP K (He.ga K c) m) "staticmethod" with
 | some (.ref _ :: _) => true
 | _ => false) && PySem.W.keepIn K (.ref (smF K (He.ga K c) m)))))
theorem smet_ok {K : PySem.W.Frag} {c m : Str} (h : tSMet c m K = true) : SMet K (He.ga K c) m (smP K (He.ga K c) m) (smF K (He.ga K c) m) := by
 unfold tSMet at h
 simp only [Bool.and_eq_true, decide_eq_true_eq] at h
 obtain ⟨h1, h2, h3, h4, h5⟩ := h
 refine ⟨h1, h2, ?_, ?_, h5⟩
 · unfold isGet at h3
   split at h3
   · rename_i g a o t e
     simp only [Bool.and_eq_true, decide_eq_true_eq] at h3
     obtain ⟨⟨⟨rfl, rfl⟩, rfl⟩, rfl⟩ := h3
     exact e
   · cases h3
 · split at h4
   · rename_i f rest e
     refine ⟨rest, ?_⟩
     have : smF K (He.ga K c) m = f := by unfold smF; rw [e]
     rw [this]; exact e
   · cases h4
section
variable {G : Gam} {X : Cx} {E : WX} {e o : Expr} {es : List Expr} {as : List Arg} {pos apos : Pos} {C p f : Addr} {m : Str}
theorem getsm_ok {A : Around} {E : Value → Shared → Prop} {pins : List (Addr × Obj)} {σ : L2.St} {H : Hp} {s : Shared} {pl : Sem Bool} {Q : Value × List Value → Shared → Prop} (I : Inv X pins σ H s) (k : SMet X.K C m p f)
    (h : ∀ s', Inv X pins σ H s' → Q (.ref f, []) s') : wpAny (model X.prog X.w) A (getMethod (.ref C) m pl) Q E s := by
 obtain ⟨rest, hp⟩ := k.rc
 refine PySem.W.method_cls I.kIn k.ga (PySem.W.cls_bind I.kIn k.rd k.at_ ?_)
 refine wpAny_call (PySem.W.sm_get (s := { s with toks := s.toks + 1 }) I.kIn hp (PySem.W.handed_on rfl ?_))
 exact h _ (I.tok _)
theorem ve_static {pl : Sem Bool} {n : Nat} {mf : MF} {dks : List (V × Val)} (k : SMet X.K C m p f) (ho : PE X o (tC (.ref C))) (hc : CalV G X E (.ref f) n mf dks) (ha : VAg G X E (e :: es) as) (hd : DflL G dks) (hs : (vals as).all (·.s) = true := by rfl) (hnk : noK as = true := by rfl) (hn : as.length + dks.length = n := by rfl)
    (he : starEach (e :: es) X.env = (false, eval e X.env) :: starEach es X.env := by rfl) (hpl : (backTo pos (starEach es X.env)).any (·.1) = false := by rfl) (ht : eval (.Call (.Attribute o m apos) (e :: es) [] pos) X.env = mcTree o m apos pos (e :: es) pl X.env := by rfl) :
    VE G X E (argsP (as ++ dArgs dks)) true (.Call (.Attribute o m apos) (e :: es) [] pos) (mCall mf (as ++ dArgs dks)) := by
 refine ⟨fun pins s1 σ H Q I h => PySem.W.methodCall_KW (pl := pl) (thn (ho.run pins s1 σ H (fun x H1 => x = .ref C ∧ H1 = H) I ⟨rfl, rfl⟩) fun u s2 hx => ?_) ht⟩
 obtain ⟨x, H1, I1, rx, ex, eh⟩ := hx
 subst ex
 subst eh
 obtain rfl : u = Value.ref C := rx
 refine getsm_ok I1 k fun s3 I3 => PySem.W.callWith_K (first := []) (h₀ := X.base) I3.ok.mod.kin k.kp ?_ he hpl
 exact thn (ha.run pos pins s3 σ H1 _ I3 (call_dk hd hnk hs hn h)) fun us s4 ⟨xs, H2, I2, r, q⟩ => ⟨I2.kIn, hc pins s4 σ H2 xs us Q I2 r q⟩
end
section
open PySem.W PySem.Calls PyProof.Rows
variable {M : Model} {A : Around} {E : Value → Shared → Prop} {s : Shared} {K : Frag} {env : Env} {pos : Pos} {x : Addr} {first : List Value} {Q : Value → Shared → Prop}
end
section
variable {G : Gam} {X : Cx} {E : WX} {e : Expr} {es : List Expr} {as : List Arg} {pos px : Pos} {C f : Addr} {x : Str}
end
end VL
namespace VL
open PySem L2
section
open PySem.W PySem.Calls PyProof.Rows Builtin
variable {M : Model} {A : Around} {E : Value → Shared → Prop} {s : Shared} {K : Frag} {x C f : Addr} {ox : Obj} {od : Option Obj} {v : Value}
end
section
variable {G : Gam} {X : Cx} {E : WX} {a b : Expr} {C f : Addr} {c : Nat} {ml : MF} {p1 p2 : Bool} {m1 m2 : ME} {H : Hp}
end
end VL
namespace VL
open PySem L2
def minL : Int → List Int → Int
 | m, [] => m
 | m, x :: xs => minL (if x < m then x else m) xs
theorem minL_mem : ∀ (m : Int) (xs : List Int), minL m xs ∈ m :: xs
 | m, [] => by simp [minL]
 | m, x :: xs => by
  have := minL_mem (if x < m then x else m) xs
  unfold minL
  rcases List.mem_cons.mp this with h | h
  · split at h
    · rename_i c; rw [if_pos c, h]; simp
    · rename_i c; rw [if_neg c, h]; simp
  · exact List.mem_cons_of_mem _ (List.mem_cons_of_mem _ h)
theorem minL_le : ∀ (m : Int) (xs : List Int), ∀ y ∈ m :: xs, minL m xs ≤ y
 | m, [], y, h => by simp at h; simp [minL, h]
 | m, x :: xs, y, h => by
  have e : minL m (x :: xs) = minL (if x < m then x else m) xs := rfl
  rw [e]
  by_cases c : x < m
  · rw [if_pos c]
    have ih := minL_le x xs
    rcases List.mem_cons.mp h with h | h
    · have := ih x List.mem_cons_self; omega
    · exact ih y h
  · rw [if_neg c]
    have ih := minL_le m xs
    rcases List.mem_cons.mp h with h | h
    · exact ih y (by rw [h]; exact List.mem_cons_self)
    · rcases List.mem_cons.mp h with h | h
      · have := ih m List.mem_cons_self; omega
      · exact ih y (List.mem_cons_of_mem _ h)
def semMinL : List Val → Option Val
 | [.lst _ l] => match intsL l with
  | some (n :: ns) => some (.int (minL n ns))
  | _ => none
 | _ => none
section
variable {G : Gam} {X : Cx}
theorem ok_minL (hK : X.K = G.K) : OkF G (rMin X.K) semMinL := by
 rw [hK]
 intro W H xs vs Ol v Q w r hs m
 unfold semMinL at hs
 split at hs
 · obtain ⟨x, O, rfl, r1⟩ := r.inv1
   split at hs
   · rename_i n ns hb
     cases hs
     obtain ⟨a, ys, O1, rfl, e1, q1⟩ := rep_lstL r1
     obtain ⟨e, _⟩ := ints_of_reps q1 hb
     subst e
     refine ⟨a, n :: ns, rfl, .inl (.inl e1), by simp, fun k hk hle => ?_⟩
     have a1 := hle _ (minL_mem n ns)
     have a2 := minL_le n ns k hk
     have : k = minL n ns := by omega
     subst this
     exact m.same (.int _)
   · cases hs
 · cases hs
end
end VL
namespace L2
open PySem PySem.Spec PyProof.Rows
theorem put_dc {X : Cx} {pins : List (Addr × Obj)} {σ : St} {H H' : Hp} {s : Shared} {E : Value → Shared → Prop} {D : Addr} {y z : V} {u r : Value} {Q : Unit → Shared → Prop} (hu : X.A.units < cLine) (Iv : Inv X pins σ H s) (gp : DPut H D y z H')
    (ry : RelV y u) (rz : RelV z r) (fin : ∀ s', Inv X pins σ H' s' → Q () s') : wpAny (model X.prog X.w) X.A (dictSet D u r) Q E s := by
 rcases gp with ⟨kvs, k, eD, rfl, hl, rfl⟩ | ⟨kvs, k, b, eD, rfl, eb, hl, rfl⟩
 · exact d_dictSet Iv eD hl ry rz fin
 · cases (show u = Value.ref b from ry)
   obtain ⟨fit, low, xs, q, dd⟩ := dt_of Iv.hok eD
   have fx : xs.length ≤ sizeLine := by rw [← Paired.length q]; exact fit
   refine wpAny_dictSet_heap (hsz := fx) hu (key_of Iv.hok eb) dd fun hp d2 same => fin _ ?_
   obtain ⟨o, es, ep, a1, a2, a3, a4, _, a5⟩ := d2
   have fit2 : (putK kvs k z).length ≤ sizeLine := by have := length_putK kvs k z; omega
   have kt := (q.put k eb rz).keeps (H' := upd H D (.dT (putK kvs k z))) fun c ys ec => by
    rw [upd_ne (ne_of ec eD (fun w => nomatch w))]; exact ec
   exact d_write Iv (by rw [eD]; trivial) same ⟨o, a1⟩ ⟨fit2, low, _, kt, o, es, ep, a1, a2, a3, a4, a5⟩
end L2
namespace L2
open PySem PySem.Spec PyProof.Rows
def tDcP (u0 : HO) (wi : TI) (g : TG) (tt : TT) (tk tv : TE) (ow : List Nat) : TE := fun σ H Q => wi σ H fun J H1 => ∀ D, H1 D = none → ∃ M : Nat → Nat → Hp → Prop, (∃ n, M 0 n (upd H1 D u0)) ∧ ∀ j n Hj, M j n Hj →
 (J.stop j Hj ∧ Q (.ref D) Hj) ∨ (J.go j Hj ∧ ∃ Nx : Hp → Prop, (∀ H', Nx H' → ∃ n', n' < n ∧ M (j + 1) n' H') ∧ ∀ x H', J.yld j Hj x H' → g x (wipe σ ow) H' fun σ' H2 => wipe σ' ow = wipe σ ow ∧ tt σ' H2 fun b H3 =>
  if b = true then tk σ' H3 fun y H4 => tv σ' H4 fun z H5 => ∃ H6, DPut H5 D y z H6 ∧ Nx H6 else Nx H3)
section
variable {X : Cx} {kx vx tg iter : Expr} {ifs : List Expr} {scope : Scope} {own : List (Str × Nat)} {pos : Pos} {wi : TI} {g : TG} {tt : TT} {tk tv : TE} {u0 : HO}
abbrev bx (X : Cx) (scope : Scope) (s : Shared) (H : Hp) (C : Addr) (cl : List (Str × Addr)) (fp : List Addr) : Cx := X.blk s H scope (compEnvC scope cl C X.env) fp
theorem pe_dcP (fresh : ∀ (W : Hp) (hp : Heap), sysModules < hp.objs.size → ObjOk X.prog X.w W (hp.push { cls := .type "dict", data := .dict #[] }) hp.objs.size u0) (hu : X.A.units < cLine) (calm : X.calm = true) (nd : X.N.Nodup) (hi : PI X tg iter wi) (bo : BlkOk X.N X.env.scope scope own)
    (hg : ∀ s H C cl fp, PG (bx X scope s H C cl fp) tg g) (ht : ∀ s H C cl fp, PTs (bx X scope s H C cl fp) ifs tt) (hk : ∀ s H C cl fp, PE (bx X scope s H C cl fp) kx tk) (he : ∀ s H C cl fp, PE (bx X scope s H C cl fp) vx tv) (hs : ∀ x, foldedSetIterable iter X.env x = pure x := by intro _; rfl) :
    PE X (.DictComp kx vx [⟨tg, iter, ifs, 0⟩] scope pos) (tDcP u0 wi g tt tk tv (own.map (·.2))) := by
 refine ⟨fun pins s σ H Q Iv h => ?_⟩
 rw [arm_eval_DictComp]
 refine wpAny_comprehension_free (use := none) rfl hs (closure_ok fun y hy e => (bo.free y hy e).elim (fun k => Iv.ok.has _ (.inl k)) fun k => Iv.ok.has _ (.inr k)) bo.kind (fun y hy e => by rw [bo.uniq y hy, e]) (thn (hi.run pins s σ H _ Iv h) fun _ sA hA => thn hA fun _ sB hB => ?_)
 obtain ⟨it, fp, tn, J, HB, rfl, IB, T, tB, fB, walk⟩ := hB
 refine wpAny_newObj_type (newEnv_comp ?_)
 obtain ⟨D, hD⟩ : ∃ D, D = sB.heap.objs.size := ⟨_, rfl⟩
 obtain ⟨M, ⟨n0, m0⟩, turn⟩ := walk D (IB.hok.fresh (Nat.le_of_eq hD.symm))
 have low : ∀ b ∈ fp, b < D := fun b hb => let ⟨_, e, _⟩ := T.obj _ _ tB b hb; hD ▸ Heap.lt_size e
 have grow : ∀ (b : Addr) (o : Obj), sB.heap.get? b = some o → (sB.heap.push { cls := .type "dict", data := .dict #[] }).get? b = some o := fun b o e => Heap.get?_push_of_some _ e
 obtain ⟨sC, hC⟩ : ∃ sC : Shared, sC = { sB with heap := sB.heap.push { cls := .type "dict", data := .dict #[] } } := ⟨_, rfl⟩
 obtain ⟨HC, hHC⟩ : ∃ HC : Hp, HC = upd HB D u0 := ⟨_, rfl⟩
 have IC : Inv X pins σ HC sC := by
  subst hHC hC hD
  exact IB.laid (t' := sB.toks) grow (Nat.le_refl _) (fresh _ sB.heap IB.big)
 have fC : ∀ b ∈ fp, FpOk X pins HC b ∧ b < sC.heap.objs.size := fun b hb => by
  subst hHC hC
  refine ⟨⟨(upd_ne (Nat.ne_of_lt (low b hb))).trans (fB b hb).1, (fB b hb).2⟩, ?_⟩
  show b < (sB.heap.push _).objs.size
  rw [Heap.size_push]
  exact Nat.lt_succ_of_lt (hD ▸ low b hb)
 have tC : tn 0 sC.heap := T.keep _ _ _ tB fun b _ o e => by subst hC; exact grow b o e
 have IE := block_start IC bo nd fC
 obtain ⟨cl, hcl⟩ : ∃ cl, cl = cellsFrom (sC.heap.objs.size + 1) scope.names (cloFrom X.env.cells scope.names []) := ⟨_, rfl⟩
 obtain ⟨C, hCC⟩ : ∃ C, C = sC.heap.objs.size := ⟨_, rfl⟩
 have key : ∀ ce : Env, ce = compEnvC scope cl C X.env → ∀ sD : Shared, sD = { sC with heap := pushCells (sC.heap.push { cls := .type "dict", data := .dict #[] }) scope.names } → Inv (X.blk sC HC scope ce fp) [] (wipe σ (own.map (·.2))) HC sD →
     codeAny (model X.prog X.w) X.A (.compStart (.DictComp kx vx [⟨tg, iter, ifs, 0⟩] scope pos) 0 (.ref it) (.ref D) ce) (compPost (model X.prog X.w) X.A X.xe none (EP X pins σ Q) (.ref D) C) sD := by
  intro ce hce sD hsD ID
  have pg : PG (X.blk sC HC scope ce fp) tg g := by subst hce; exact hg sC HC C cl fp
  have pt : PTs (X.blk sC HC scope ce fp) ifs tt := by subst hce; exact ht sC HC C cl fp
  have pk : PE (X.blk sC HC scope ce fp) kx tk := by subst hce; exact hk sC HC C cl fp
  have pv : PE (X.blk sC HC scope ce fp) vx tv := by subst hce; exact he sC HC C cl fp
  have loc : ce.locals = C := by subst hce; rfl
  have tD : tn 0 sD.heap := T.keep _ _ _ tC fun b _ o e => by subst hsD; exact pushCells_keeps _ _ _ _ (Heap.get?_push_of_some _ e)
  have free : ∀ b ∈ fp, HC b = none := fun b hb => (fC b hb).1.1
  have apart : ∀ {σ' : L2.St} {H' : Hp} {s' : Shared}, Inv (X.blk sC HC scope ce fp) [] σ' H' s' → (∀ b ∈ fp, H' b = none) → ∀ b ∈ fp, FpOk (X.blk sC HC scope ce fp) [] H' b := fun I' nb b hb =>
   ⟨nb b hb, (I'.ok.exf b hb).1, I'.ok.exfs b hb, .inl hb, fun x c e => (I'.ok.exf b hb).2 x c e, fun p hp => absurd (show p ∈ ([] : List (Addr × Obj)) ++ [] from hp) (by simp)⟩
  suffices hh : codeAny (model X.prog X.w) X.A (.compLoop (.DictComp kx vx [⟨tg, iter, ifs, 0⟩] scope pos) 0 (.ref it) (.ref D) ce) (compPost (model X.prog X.w) X.A X.xe none (EP X pins σ Q) (.ref D) C) sD from codeAny_compStart_dict hh (T.self X.A 0 _ _ _ tD hh)
  refine compLoop_anyD (fun n s' => ∃ j H', Inv (X.blk sC HC scope ce fp) [] (wipe σ (own.map (·.2))) H' s' ∧ tn j s'.heap ∧ (∀ b ∈ fp, H' b = none) ∧ M j n H') (fun n s1 hI => ?_) n0 ⟨0, HC, ID, tD, free, hHC ▸ m0⟩
  obtain ⟨j, H1, I1, t1, nb1, m1⟩ := hI
  rcases turn j n H1 m1 with ⟨stop, q⟩ | ⟨go, Nx, less, step⟩
  · refine thnF (T.done (X.blk sC HC scope ce fp) rfl rfl rfl calm j [] s1 _ H1 (fun _ _ => False) I1 (apart I1 nb1) t1 stop) fun r s2 hr => ?_
    obtain ⟨rfl, I2⟩ := hr
    have back : Inv X pins σ H1 s2 := IC.call' (ch := fp) I2.os I2.base I2.hok I2.bare fun b hb => let ⟨_, f1, f2, f3, f4, f5⟩ := (fC b hb).1; ⟨f3, f1, f4, f5⟩
    obtain ⟨m, hm, _⟩ := I2.loc
    have nC : H1 C = none := loc ▸ (show H1 ce.locals = none from I2.free)
    have hm' : s2.heap.Ns C m := loc ▸ (show s2.heap.Ns ce.locals m from hm)
    obtain ⟨f0, f1, f2, f3, f4, f5⟩ := IC.fpOk (b := C) (by rw [hCC]; exact Nat.le_refl _) nC
    exact ⟨m, hm', fun h2 sb => ⟨.ref D, H1, back.turned (t' := s2.toks) (fun b o hb e => (sb.2 b hb).trans e) f0 f1 f3 f4 f5, rfl, q⟩⟩
  · refine thnF (T.item (X.blk sC HC scope ce fp) rfl rfl rfl calm j [] s1 _ H1 (fun _ _ => False) I1 (apart I1 nb1) t1 go) fun r s2 hr => ?_
    obtain ⟨u, rfl, hr⟩ := hr
    refine thnF hr fun _ s3 ⟨x, H3, I3, r3, y3, t3, nb3⟩ => ?_
    have I3' := I3.pinned (apart I3 nb3) (T.obj _ _ t3)
    refine thnF (pg.run _ s3 _ H3 x u _ I3' r3 (step x H3 y3)) fun _ s4 ⟨σ4, H4, I4, hw, q4⟩ => ?_
    have over : ∀ {s' : Shared} {H' : Hp}, Inv (X.blk sC HC scope ce fp) ([] ++ pinsAt fp s3.heap) σ4 H' s' → Nx H' → ∃ m, m < n ∧ ∃ j H', Inv (X.blk sC HC scope ce fp) [] (wipe σ (own.map (·.2))) H' s' ∧ tn j s'.heap ∧ (∀ b ∈ fp, H' b = none) ∧ M j m H' := fun {s' H'} I' nx => by
     have there : ∀ b ∈ fp, ∀ o, s3.heap.get? b = some o → s'.heap.get? b = some o ∧ H' b = none := fun b hb o e =>
      let ⟨z1, z2, _⟩ := I'.pin (b, o) (List.mem_append_right _ (List.mem_append_right _ (mem_pinsAt hb e)))
      ⟨z1, z2⟩
     obtain ⟨m, lt, w⟩ := less H' nx
     refine ⟨m, lt, j + 1, H', I'.unpinned (pins := []) |>.weak (by rw [← hw, wipe_length]) fun i v e => ?_, T.keep _ _ _ t3 fun b hb o e => (there b hb o e).1, fun b hb => ?_, w⟩
     · rw [← hw] at e; exact (wipe_some e).1
     · exact let ⟨o, e, _⟩ := T.obj _ _ t3 b hb; (there b hb o e).2
    refine thnF (pt.run _ s4 σ4 H4 _ I4 q4) fun b s5 ⟨H5, I5, q5⟩ => ?_
    cases b with
    | false => simp only [Bool.false_eq_true, if_false] at q5 ⊢; exact over I5 q5
    | true =>
     simp only [if_true] at q5 ⊢
     refine thnF (pk.run _ s5 σ4 H5 _ I5 q5) fun _ s6 ⟨ky, H6, I6, r6, q6⟩ => thnF (pv.run _ s6 σ4 H6 _ I6 q6) fun _ s7 ⟨vy, H7, I7, r7, H8, put, nx⟩ => ?_
     exact put_dc (X := X.blk sC HC scope ce fp) hu I7 put r6 r7 fun s8 I8 => over I8 nx
 have fin := key _ rfl _ rfl (by subst hcl hCC; exact IE)
 subst hcl hCC hC hD
 exact fin
end
end L2
namespace VL
open PySem L2
def isTK (k : Val) : Bool := isKey .t k
def dctT (d : DL) : Val := .dct true .t (d.map (·.1)) (d.map (·.2))
def dcT (g : MG) (tt km vm : ME) (own : List Nat) : List Val → DL → VEnv → RE
 | [], acc, ρ => .ok (dctT acc) ρ
 | u :: us, acc, ρ => match g u ρ with
  | none => .bad
  | some ρ1 => match tt ρ1 with
   | .ok (.bl b) ρ2 => if b = true then (match km ρ2 with
    | .ok k ρ3 => (match vm ρ3 with
     | .ok v ρ4 => if isTK k = true ∧ v.fz = true ∧ acc.length < 1000000 then dcT g tt km vm own us (putD acc k v) (wipeV ρ4 own) else .bad
     | _ => .bad)
    | _ => .bad) else dcT g tt km vm own us acc (wipeV ρ2 own)
   | _ => .bad
def mDcT (mi : MI) (g : MG) (tt km vm : ME) (own : List Nat) : ME := fun ρ => match mi ρ with
 | .ok us ρ1 => dcT g tt km vm own us [] (wipeV ρ1 own)
 | .exc e ρ' => .exc e ρ'
 | .bad => .bad
def tkey (k : List Key) : Val := .tup (k.map ofKey)
theorem tkey_inj {k l : List Key} (h : tkey k = tkey l) : k = l := by
 unfold tkey at h
 exact ofKey_map_inj (by simpa using h)
structure TRel (G : Gam) (W : Addr → Prop) (H : Hp) (kvs : List (List Key × V)) (d : DL) : Prop where
 ks : d.map (·.1) = kvs.map fun q => tkey q.1
 vs : Reps G W H (kvs.map (·.2)) (d.map (·.2)) []
section
variable {G : Gam} {W : Addr → Prop} {H : Hp} {X : Cx} {E : WX} {p pk sk pv : Bool} {pos : Pos}
theorem isTK_k {v : Val} {x : V} {O : List Addr} (h : isTK v = true) (r : Rep G W H x v O) : ∃ (k : List Key) (b : Addr), v = tkey k ∧ x = .ref b ∧ H b = some (.tup (k.map kV)) := by
 unfold isTK at h
 cases r with
 | @tup b _ _ _ h' r =>
  obtain ⟨k, rfl, rfl⟩ := isKeys (by simpa [isKey] using h) r
  exact ⟨k, b, rfl, rfl, h'.1⟩
 | _ => simp [isKey] at h
theorem TRel.len {kvs : List (List Key × V)} {d : DL} (r : TRel G W H kvs d) : kvs.length = d.length := by
 have := congrArg List.length r.ks
 simpa using this.symm
theorem TRel.mono {W' : Addr → Prop} {H' : Hp} {kvs : List (List Key × V)} {d : DL} (r : TRel G W H kvs d) (k : Keep W H W' H') : TRel G W' H' kvs d := ⟨r.ks, r.vs.mono k fun _ z => nomatch z⟩
theorem TRel.put {kvs : List (List Key × V)} {d : DL} (r : TRel G W H kvs d) (k : List Key) {x : V} {v : Val} (rx : Rep G W H x v []) : TRel G W H (putK kvs k x) (putD d (tkey k) v) := by
 have same : ∀ (d : DL) (kvs : List (List Key × V)), d.map (·.1) = kvs.map (fun q => tkey q.1) → (d.any fun q => decide (q.1 = tkey k)) = kvs.any fun q => decide (q.1 = k) := by
  intro d
  induction d with
  | nil => intro kvs e; cases kvs with | nil => rfl | cons _ _ => cases e
  | cons q d ih =>
   intro kvs e
   cases kvs with
   | nil => cases e
   | cons q' kvs =>
    simp only [List.map_cons, List.cons.injEq] at e
    rw [List.any_cons, List.any_cons, ih kvs e.2, e.1]
    congr 1
    rw [decide_eq_decide]
    exact ⟨tkey_inj, fun z => by rw [z]⟩
 unfold putK putD
 rw [same d kvs r.ks]
 split
 · have go : ∀ (d : DL) (kvs : List (List Key × V)), d.map (·.1) = kvs.map (fun q => tkey q.1) → Reps G W H (kvs.map (·.2)) (d.map (·.2)) [] → TRel G W H (kvs.map fun kv => if kv.1 = k then (kv.1, x) else kv) (d.map fun q => if q.1 = tkey k then (q.1, v) else q) := by
     intro d
     induction d with
     | nil => intro kvs e _; cases kvs with
      | nil => exact ⟨rfl, .nil⟩
      | cons _ _ => cases e
     | cons q d ih => intro kvs e rv; cases kvs with
      | nil => cases e
      | cons q' kvs =>
       simp only [List.map_cons, List.cons.injEq] at e rv
       obtain ⟨y, ys, e1, r1, r2⟩ := rv.inv0
       simp only [List.cons.injEq] at e1
       obtain ⟨rfl, rfl⟩ := e1
       obtain ⟨i1, i2⟩ := ih kvs e.2 r2
       by_cases h : q'.1 = k
       · have h' : q.1 = tkey k := by rw [e.1, h]
         refine ⟨?_, ?_⟩
         · simp only [List.map_cons, if_pos h, if_pos h']
           exact congr (congrArg List.cons e.1) i1
         · simp only [List.map_cons, if_pos h, if_pos h']
           exact .cons (O := []) (O' := []) rx i2
       · have h' : ¬ q.1 = tkey k := fun z => h (tkey_inj (e.1.symm.trans z))
         refine ⟨?_, ?_⟩
         · simp only [List.map_cons, if_neg h, if_neg h']
           exact congr (congrArg List.cons e.1) i1
         · simp only [List.map_cons, if_neg h, if_neg h']
           exact .cons (O := []) (O' := []) r1 i2
   exact go d kvs r.ks r.vs
 · refine ⟨by simp [r.ks], ?_⟩
   simp only [List.map_append, List.map_cons, List.map_nil]
   exact r.vs.append (.cons (O := []) (O' := []) rx .nil)
theorem dcT_reading {tg iter : Expr} {ow : List Nat} {n : Nat} {wi : TI} {mi : MI} {g : MG} {tt km vm : ME} {σ : L2.St} {H : Hp} {Q : VK} (hwi : wi = tI G E mi) (hlen : σ.length = n) (h : rd G E false true (mDcT mi g tt km vm ow) σ H Q) :
    tDcP (.dT []) wi (fun x σ H Q => ∃ σ0, tG G (pinsBut n ow) σ0 g x σ H Q) (tT G WF p tt) (rd G WF pk sk km) (rd G WF pv true vm) ow σ H Q := by
 subst hwi
 obtain ⟨R, ρ, Os, rel, post⟩ := h
 refine ⟨R, ρ, Os, rel, ?_⟩
 unfold mDcT at post
 cases hm : mi ρ with
 | bad => rw [hm] at post; exact post
 | exc e ρ' => rw [hm] at post; exact post
 | ok us ρ1 =>
  rw [hm] at post
  dsimp only at post
  intro J H1 Os1 rel1 walk keep1 D hD
  obtain ⟨Osw, relw, wew⟩ := rel1.wipe ow
  let St := fun (i : Nat) (H' : Hp) => i ≤ us.length ∧ ∃ ρ2 Os2 acc kvs, Rel G (fun a => R a ∨ a = D) H' (L2.wipe σ ow) ρ2 Os2 ∧ H' D = some (.dT kvs) ∧ TRel G (WW (fun a => R a ∨ a = D) Os2) H' kvs acc ∧ KeepE H1 Os1 H' Os2 (fun a => a = D) ∧
   Post G R E σ H Os false true ρ Q (dcT g tt km vm ow (us.drop i) acc ρ2)
  refine ⟨fun i n H' => n = us.length - i ∧ St i H', ⟨us.length, by simp, Nat.zero_le _, wipeV ρ1 ow, Osw, [], [], relw.root0 hD, upd_same, ⟨rfl, .nil⟩, fun a o e nw => ⟨same_upd hD a o e, fun z => nw (wew a z), ne_of_none e hD⟩, by simpa using post⟩, ?_⟩
  rintro i n H' ⟨rfl, hile, ρ2, Os2, acc, kvs, rel2, hDx, kr, keep2, post2⟩
  have kw : Keep (WW R Os1) H1 (WW (fun a => R a ∨ a = D) Os2) H' := fun a o e nw => by
   obtain ⟨e1, n1, n2⟩ := keep2 a o e fun z => nw (.inr z)
   exact ⟨e1, fun z => z.elim (fun z => z.elim (fun z => nw (.inl z)) n2) n1⟩
  obtain ⟨hstop, hgo⟩ := walk _ _ kw i
  by_cases hlt : i < us.length
  rotate_left
  · refine .inl ⟨hstop (by omega), ?_⟩
    rw [List.drop_eq_nil_of_le (by omega)] at post2
    unfold dcT at post2
    have e0 : (fun a => R a ∨ a = D) = Rp R true [D] := setEq fun a => ⟨fun z => z.imp id fun z => ⟨rfl, List.mem_singleton.mpr z⟩, fun z => z.imp id fun z => List.mem_singleton.mp z.2⟩
    rw [e0] at rel2 kr
    refine post2 (.ref D) H' Os2 [D] rel2.unwipe (.dtO hDx kr.ks kr.vs) (fun _ => by simp) (fun a o e nw => ?_) fun z => by cases z
    obtain ⟨e1, n1, _⟩ := keep1 a o e nw
    obtain ⟨e2, n2, n3⟩ := keep2 a o e1 n1
    exact ⟨e2, n2, fun z => n3 (List.mem_singleton.mp z.2)⟩
  refine .inr ?_
  obtain ⟨go, yld⟩ := hgo us[i] (List.getElem?_eq_getElem hlt)
  refine ⟨go, St (i + 1), fun H3 h1 => ⟨us.length - (i + 1), by omega, rfl, h1⟩, fun x H'' y => ?_⟩
  obtain ⟨same, repw⟩ := yld x H'' y
  have rep := repw fun p hp => rel2.ww hp
  have rel3 : Rel G (fun a => R a ∨ a = D) H'' (L2.wipe σ ow) ρ2 Os2 := rel2.grow same (fun a z => .inl z) fun a z => let ⟨o, e⟩ := rel2.rt a z; ⟨o, same a o e⟩
  have keep3 : KeepE H1 Os1 H'' Os2 fun a => a = D := keep2.grow same fun a z => .inl z
  have hD3 := same D _ hDx
  have kr3 : TRel G (WW (fun a => R a ∨ a = D) Os2) H'' kvs acc := kr.mono fun a o e nw => ⟨same a o e, nw⟩
  rw [List.drop_eq_getElem_cons hlt] at post2
  unfold dcT at post2
  have e0 : (fun a => R a ∨ a = D) = fun a => (R a ∨ a = D) ∨ a ∈ ([] : List Addr) := setEq fun a => ⟨.inl, fun z => z.elim id fun z => nomatch z⟩
  refine ⟨L2.wipe σ ow, fun a => R a ∨ a = D, ρ2, Os2, us[i], [], e0 ▸ rel3, e0 ▸ rep, List.nodup_nil, fun a z => (nomatch z), fun _ _ => rfl, ?_⟩
  cases hgu : g us[i] ρ2 with
  | none => rw [hgu] at post2; exact post2
  | some ρ3 =>
  rw [hgu] at post2
  dsimp only at post2
  intro σ3 Os3 pin3 hl3 rel4 we4
  have hw : L2.wipe σ3 ow = L2.wipe σ ow := wipe_eq hlen (by rw [hl3, wipe_length]) pin3
  have keep4 : KeepE H1 Os1 H'' Os3 fun a => a = D := fun a o e nw => let ⟨e1, n1, n2⟩ := keep3 a o e nw; ⟨e1, fun z => (we4 a z).elim n1 (fun z => nomatch z), n2⟩
  have kr4 : TRel G (WW (fun a => R a ∨ a = D) Os3) H'' kvs acc := kr3.mono fun a o e nw => ⟨e, fun z => nw (z.imp id fun z => (we4 a z).elim id fun z => nomatch z)⟩
  refine ⟨hw, fun a => R a ∨ a = D, ρ3, Os3, rel4, ?_⟩
  have go1 : ∀ {Ha Hb : Hp} {Osa Osb : Nat → List Addr} {ρa ρb : VEnv} {P : Addr → Prop}, Rel G (fun a => R a ∨ a = D) Ha σ3 ρa Osa → Ha D = some (.dT kvs) → TRel G (WW (fun a => R a ∨ a = D) Osa) Ha kvs acc → KeepE H1 Os1 Ha Osa (fun a => a = D) → Rel G (fun a => R a ∨ a = D) Hb σ3 ρb Osb → KeepE Ha Osa Hb Osb P →
      Hb D = some (.dT kvs) ∧ TRel G (WW (fun a => R a ∨ a = D) Osb) Hb kvs acc ∧ KeepE H1 Os1 Hb Osb (fun a => a = D) := fun ra hd kr ka rb kb => by
   refine ⟨(kb D _ hd (ra.nr (.inr rfl))).1, kr.mono fun a o e nw => ?_, fun a o e nw => ?_⟩
   · obtain ⟨e1, n1, _⟩ := kb a o e fun z => nw (.inr z)
     exact ⟨e1, fun z => z.elim (fun z => nw (.inl z)) n1⟩
   · obtain ⟨e1, n1, n2⟩ := ka a o e nw
     obtain ⟨e2, n3, _⟩ := kb a o e1 n1
     exact ⟨e2, n3, n2⟩
  cases htt : tt ρ3 with
  | bad => rw [htt] at post2; exact post2.elim
  | exc e ρ4 => rw [htt] at post2; exact post2.elim
  | ok tv ρ4 =>
  rw [htt] at post2
  cases tv with
  | bl b =>
   intro H5 Os5 rel5 k5 _
   obtain ⟨hD5, kr5, keep5⟩ := go1 rel4 hD3 kr4 keep4 rel5 k5
   cases b with
   | false =>
    simp only [Bool.false_eq_true, if_false] at post2 ⊢
    obtain ⟨Os6, rel6, we6⟩ := rel5.wipe ow
    rw [hw] at rel6
    exact ⟨hlt, wipeV ρ4 ow, Os6, acc, kvs, rel6, hD5, kr5.mono fun a o e nw => ⟨e, fun z => nw (z.imp id (we6 a))⟩, fun a o e nw => let ⟨e1, n1, n2⟩ := keep5 a o e nw; ⟨e1, fun z => n1 (we6 a z), n2⟩, post2⟩
   | true =>
    simp only [if_true] at post2 ⊢
    refine ⟨fun a => R a ∨ a = D, ρ4, Os5, rel5, ?_⟩
    cases hkm : km ρ4 with
    | bad => rw [hkm] at post2; exact post2.elim
    | exc e ρ6 => rw [hkm] at post2; exact post2.elim
    | ok k ρ5 =>
    rw [hkm] at post2
    dsimp only at post2
    intro ky H6 Os6 Ok rel6 rep6 _ k6 _
    have rel6' : Rel G (fun a => R a ∨ a = D) H6 σ3 ρ5 Os6 := rel6.weak fun a z => .inl z
    obtain ⟨hD6, kr6, keep6⟩ := go1 rel5 hD5 kr5 keep5 rel6' k6
    refine ⟨fun a => R a ∨ a = D, ρ5, Os6, rel6', ?_⟩
    cases hvm : vm ρ5 with
    | bad => rw [hvm] at post2; exact post2.elim
    | exc e ρ6 => rw [hvm] at post2; exact post2.elim
    | ok v ρ6 =>
    rw [hvm] at post2
    dsimp only at post2
    intro vy H7 Os7 Ov rel7 rep7 _ k7 _
    by_cases hc : isTK k = true ∧ v.fz = true ∧ acc.length < 1000000
    rotate_left
    · rw [if_neg hc] at post2; exact post2.elim
    rw [if_pos hc] at post2
    have hOv := rep7.none_of_fz hc.2.1
    subst hOv
    have rel7' : Rel G (fun a => R a ∨ a = D) H7 σ3 ρ6 Os7 := rel7.weak fun a z => .inl z
    have rep7' : Rep G (WW (fun a => R a ∨ a = D) Os7) H7 vy v [] := rep7.mono (fun a o e nw => ⟨e, fun z => nw (z.imp (fun z => .inl z) id)⟩) fun _ z => nomatch z
    obtain ⟨hD7, kr7, keep7⟩ := go1 rel6' hD6 kr6 keep6 rel7' k7
    obtain ⟨kk, kb, ek, exk, hkb⟩ := isTK_k hc.1 rep6
    subst ek exk
    have fk : ¬ WW (Rp (fun a => R a ∨ a = D) sk Ok) Os6 kb := by
     cases rep6 with
     | tup hf _ => exact hf.2
    have hkb7 : H7 kb = some (.tup (kk.map kV)) := (k7 kb _ hkb fun z => fk (.inr z)).1
    refine ⟨upd H7 D (.dT (putK kvs kk vy)), DPut.t hD7 hkb7 (by rw [kr7.len, sizeLine_eq]; omega), hlt, ?_⟩
    have rel8 := Rel.chg (D := D) (o := .dT (putK kvs kk vy)) rel7' (.inr rfl)
    obtain ⟨Os9, rel9, we9⟩ := rel8.wipe ow
    rw [hw] at rel9
    refine ⟨wipeV ρ6 ow, Os9, putD acc (tkey kk) v, putK kvs kk vy, rel9, upd_same, (kr7.put kk rep7').mono fun a o e nw => ⟨by rw [upd_ne (show a ≠ D from fun z => nw (.inl (.inr z)))]; exact e, fun z => nw (z.imp id (we9 a))⟩, fun a o e nw => ?_, post2⟩
    obtain ⟨e1, n1, n2⟩ := keep7 a o e nw
    exact ⟨by rw [upd_ne n2]; exact e1, fun z => n1 (we9 a z), n2⟩
  | _ => exact post2.elim
theorem ve_dcT {kx vx tg iter : Expr} {ifs : List Expr} {scope : Scope} {own : List (Str × Nat)} {mi : MI} {g : MG} {tt km vm : ME} (hu : X.A.units < cLine) (hc : X.calm = true) (hN : X.N.Nodup) (hi : VI G X E tg iter mi) (ok : BlkOk X.N X.env.scope scope own)
    (hg : ∀ (s : Shared) (H : Hp) (C : Addr) (cl : List (Str × Addr)) (fp : List Addr) (σ0 : L2.St), VG G (X.blk s H scope (compEnvC scope cl C X.env) fp) (pinsBut X.N.length (own.map (·.2))) σ0 tg g)
    (ht : ∀ (s : Shared) (H : Hp) (C : Addr) (cl : List (Str × Addr)) (fp : List Addr), PTs (X.blk s H scope (compEnvC scope cl C X.env) fp) ifs (tT G WF p tt))
    (hk : ∀ (s : Shared) (H : Hp) (C : Addr) (cl : List (Str × Addr)) (fp : List Addr), VE G (X.blk s H scope (compEnvC scope cl C X.env) fp) WF pk sk kx km)
    (he : ∀ (s : Shared) (H : Hp) (C : Addr) (cl : List (Str × Addr)) (fp : List Addr), VE G (X.blk s H scope (compEnvC scope cl C X.env) fp) WF pv true vx vm) (hs : ∀ x, foldedSetIterable iter X.env x = pure x := by intro _; rfl) :
    VE G X E false true (.DictComp kx vx [⟨tg, iter, ifs, 0⟩] scope pos) (mDcT mi g tt km vm (own.map (·.2))) := by
 have hg2 : ∀ (s : Shared) (H : Hp) (C : Addr) (cl : List (Str × Addr)) (fp : List Addr), PG (X.blk s H scope (compEnvC scope cl C X.env) fp) tg (fun x σ H Q => ∃ σ0, tG G (pinsBut X.N.length (own.map (·.2))) σ0 g x σ H Q) := fun s H C cl fp =>
  ⟨fun pins st σ H' v u Q I r ⟨σ0, q⟩ => (hg s H C cl fp σ0).run pins st σ H' v u Q I r q⟩
 have fresh : ∀ (W : Hp) (hp : Heap), sysModules < hp.objs.size → ObjOk X.prog X.w W (hp.push { cls := .type "dict", data := .dict #[] }) hp.objs.size (.dT []) := fun W hp hb => dt_empty hp hb
 exact ⟨fun pins s1 σ H Q I h => (pe_dcP fresh hu hc hN hi ok hg2 ht hk he hs).run pins s1 σ H Q I (dcT_reading (tg := tg) (iter := iter) rfl I.len h)⟩
end
def semLenT : List Val → Option Val
 | [.dct _ .t ks _] => some (.int ks.length)
 | _ => none
section
variable {G : Gam} {X : Cx}
theorem rep_dt {W : Addr → Prop} {H : Hp} {x : V} {o : Bool} {ks vs : List Val} {O : List Addr} (r : Rep G W H x (.dct o .t ks vs) O) : ∃ a kvs, x = .ref a ∧ H a = some (.dT kvs) ∧ ks = kvs.map fun q => tkey q.1 := by
 cases r with
 | dtO h hk _ => exact ⟨_, _, rfl, h, hk⟩
 | dtF h hk _ => exact ⟨_, _, rfl, h.1, hk⟩
theorem ok_lenT : OkF G rLenT semLenT := by
 intro W H xs vs Ol v Q w r hs m
 unfold semLenT at hs
 split at hs
 · obtain ⟨x, O, rfl, r1⟩ := r.inv1
   cases hs
   obtain ⟨a, kvs, rfl, e1, rfl⟩ := rep_dt r1
   exact ⟨a, kvs, rfl, e1, by simpa using m.same (.int _)⟩
 · cases hs
end
def semInP (neg : Bool) : List Val → Option Val
 | [x, .lst o l] => match toD x, toDs l with
  | some d, some ds => if SeqAt.shaped d = true ∧ SeqAt.shaped (.list ds) = true then some (.bl (xor neg (ds.any fun z => PyData.eqv z d))) else none
  | _, _ => none
 | _ => none
section
variable {G : Gam} {X : Cx}
def rInP (K : PySem.W.Frag) (neg : Bool) : R2 := fun x y H Q => ∃ d ds, Dp K H x d ∧ Dp K H y (.list ds) ∧ SeqAt.shaped d = true ∧ SeqAt.shaped (.list ds) = true ∧ Q (.bl (xor neg (ds.any fun z => PyData.eqv z d))) H
theorem op_notInP (hu : X.A.units + 65 < cLine) : OpR X (compareOp .NotIn) (rInP X.K true) := fun pins s σ H x y v u Q I rx ry ⟨d, ds, h1, h2, h3, h4, q⟩ => op_notInD hu pins s σ H x y v u Q I rx ry ⟨d, ds, h1, h2, h3, h4, by simpa using q⟩
theorem ok_inP (hK : X.K = G.K) {neg : Bool} : OkF G (r2 (rInP X.K neg)) (semInP neg) := by
 rw [hK]
 intro W H xs vs Ol v Q w r hs m
 unfold semInP at hs
 split at hs
 · obtain ⟨x, y, O, O', rfl, r1, r2⟩ := r.inv2
   split at hs
   · rename_i d ds h1 h2
     split at hs
     · rename_i hc
       cases hs
       exact ⟨d, ds, r1.dp h1, r2.dp (by simp only [toD, h2]), hc.1, hc.2, m.same (.bl _)⟩
     · cases hs
   · cases hs
 · cases hs
end
end VL
namespace L2
open PySem PySem.Spec PyProof.Rows
def ItzM (K : PySem.W.Frag) (a b : Addr) : It where
 go i H := ∃ (xs ys : List V) (x y : V), SqT K H a xs ∧ SqL K H b ys ∧ xs[i]? = some x ∧ ys[i]? = some y
 yld i H v H' := ∃ T x y, v = .ref T ∧ H T = none ∧ H' = upd H T (.tup [x, y]) ∧ (∀ xs, SqT K H a xs → xs[i]? = some x) ∧ ∀ ys, SqL K H b ys → ys[i]? = some y
 stop i H := ∃ xs ys : List V, SqT K H a xs ∧ SqL K H b ys ∧ xs.length = ys.length ∧ xs.length ≤ i
section
variable {z TI TO i1 i2 a b : Addr}
theorem endT {P : Program} {w : World} {A : Around} (hh : A.handled = none) {it t : Addr} (ne : t ≠ it) {us : Array Value} {i : Nat} (no : us[i]? = none) : Draws P w A it [it, t] i (fun _ _ => False) fun k h => k = i ∧ h.IsTupleIter it t i ∧ h.IsTuple t us where
 live := fun _ _ st => let ⟨_, ⟨o, ho, _⟩, _⟩ := st; ⟨o, ho⟩
 frame := fun _ _ _ st hk => ⟨st.1, st.2.1.at fun o e => hk it (by simp) o e, st.2.2.at fun o e => hk t (by simp) o e⟩
 item := fun k s Q E lt st _ => absurd st.1 (Nat.ne_of_lt lt)
 done := fun s Q E st hE => wpAny_nextOf_tuple_end hh st.2.1 st.2.2 no hE
theorem endL {P : Program} {w : World} {A : Around} (hh : A.handled = none) {it t : Addr} (ne : t ≠ it) {us : Array Value} {i : Nat} (no : us[i]? = none) : Draws P w A it [it, t] i (fun _ _ => False) fun k h => k = i ∧ h.IsListIter it t i ∧ h.IsList t us where
 live := fun _ _ st => let ⟨_, ⟨o, ho, _⟩, _⟩ := st; ⟨o, ho⟩
 frame := fun _ _ _ st hk => ⟨st.1, st.2.1.at fun o e => hk it (by simp) o e, st.2.2.at fun o e => hk t (by simp) o e⟩
 item := fun k s Q E lt st _ => absurd st.1 (Nat.ne_of_lt lt)
 done := fun s Q E st hE => wpAny_nextOf_list_end hh st.2.1 st.2.2 no hE
theorem sepM (D : ZipApart z TI TO i1 i2 a b) : ZipSep2 z TI TO i1 i2 [i1, a] [i2, b] := by
 obtain ⟨h1, h2, h3, h4, h5, h6, h7, h8, h9, h10, h11, h12, h13, h14, h15, h16, h17, h18⟩ := D
 constructor <;> simp_all [eq_comm]
theorem turn_zipM {P : Program} {w : World} {K : PySem.W.Frag} {elts : List Expr} {kk : Nat} {tpos : Pos} (D : ZipApart z TI TO i1 i2 a b) :
    Turn P w K (.Tuple elts kk tpos) (ItzM K a b) [z, TI, TO, i1, i2] z (fun i h => IsZip h z TI TO .none ∧ IsPair h TI (.ref i1) (.ref i2) ∧ (∃ x y, IsPair h TO x y) ∧ h.IsTupleIter i1 a i ∧ h.IsListIter i2 b i) where
 mem := List.mem_cons_self
 obj := fun i h ⟨hz, hTI, ⟨x, y, hTO⟩, ⟨o1, e1, _, d1⟩, ⟨o2, e2, _, d2⟩⟩ c hc => by
  have q : c = z ∨ c = TI ∨ c = TO ∨ c = i1 ∨ c = i2 := by simpa using hc
  rcases q with rfl | rfl | rfl | rfl | rfl
  · exact ⟨_, hz, fun v e => nomatch e⟩
  · exact ⟨_, hTI, fun v e => nomatch e⟩
  · exact ⟨_, hTO, fun v e => nomatch e⟩
  · exact ⟨o1, e1, fun v e => by rw [d1] at e; cases e⟩
  · exact ⟨o2, e2, fun v e => by rw [d2] at e; cases e⟩
 keep := fun i h h' ⟨hz, hTI, ⟨x, y, hTO⟩, s1, s2⟩ k =>
  ⟨k z (by simp) _ hz, k TI (by simp) _ hTI, ⟨x, y, k TO (by simp) _ hTO⟩, s1.at fun o e => k i1 (by simp) o e, s2.at fun o e => k i2 (by simp) o e⟩
 item := by
  intro X hP hw hK hc i pins s σ H E I hf ⟨hz, hTI, ⟨x0, y0, hTO⟩, s1, s2⟩ ⟨xs, ys, x, y, qx, qy, hx, hy⟩
  subst hP hw hK
  obtain ⟨us, rv, px, _⟩ := I.tuple qx
  obtain ⟨ws, rw2, py, _⟩ := I.list qy
  obtain ⟨u, hu, ru⟩ := rv.get hx
  obtain ⟨u2, hu2, ru2⟩ := rw2.get hy
  have hh : X.A.in1.handled = none := I.ok.hd hc
  have zl : z < s.heap.objs.size := Heap.lt_size hz
  have l1 : i < us.toArray.size := by rw [List.size_toArray]; exact (List.getElem?_eq_some_iff.mp hu).1
  have l2 : i < ws.toArray.size := by rw [List.size_toArray]; exact (List.getElem?_eq_some_iff.mp hu2).1
  refine wpAny_pyNext_zipD2_item (sepM D) (Draws.tuple hh i1 a D.l1i1 us.toArray) (Draws.list hh i2 b D.l2i2 ws.toArray) hz hTI hTO ⟨s1, px⟩ ⟨s2, py.isList⟩ l1 l2 fun v1 v2 h' tk e1 e2 hz' hTO' t1 t2 hT _ hk => ?_
  obtain rfl : u = v1 := Option.some.inj (hu.symm.trans (by simpa using e1))
  obtain rfl : u2 = v2 := Option.some.inj (hu2.symm.trans (by simpa using e2))
  refine ⟨_, rfl, wpAny_letOwnedTupleGo_zip (s := { s with heap := h', toks := tk }) hz' fun h2 hz2 sb => ?_⟩
  have hT2 : h2.get? s.heap.objs.size = some { cls := .type "tuple", data := .seq #[u, u2] } := (sb.2 _ (Nat.ne_of_gt zl)).trans hT
  have at2 : ∀ c o, c ≠ z → h'.get? c = some o → h2.get? c = some o := fun c o n e => (sb.2 c n).trans e
  have I1 := I.turnedNew (t' := tk) (ch := [z, TI, TO, i1, i2]) (T := s.heap.objs.size) (ob := .tup [x, y]) (h' := h2) (fun c o nc e => by
   simp only [List.mem_cons, List.not_mem_nil, or_false, not_or] at nc
   exact at2 c o nc.1 (hk c o nc.1 nc.2.2.1 nc.2.2.2.1 nc.2.2.2.2 e)) hf (Nat.le_refl _) ⟨by show 2 ≤ sizeLine; decide, [u, u2], .cons ru (.cons ru2 .nil), ⟨_, hT2, rfl, _, rfl⟩⟩
  refine ⟨.ref s.heap.objs.size, _, I1, rfl, ⟨_, x, y, rfl, I.hok.fresh (Nat.le_refl _), rfl, fun l hl => by rw [I.tuple_inj hl qx]; exact hx, fun l hl => by rw [I.list_inj hl qy]; exact hy⟩, ⟨hz2, ?_, ⟨u, u2, at2 _ _ D.TOz hTO'⟩, t1.1.at fun o e => at2 _ o D.i1z e, t2.1.at fun o e => at2 _ o D.i2z e⟩, fun c hcm => ?_⟩
  · exact at2 _ _ D.TIz (hk _ _ D.TIz D.TITO D.TIi1 D.TIi2 hTI)
  · have lt : c < s.heap.objs.size := by
      have q : c = z ∨ c = TI ∨ c = TO ∨ c = i1 ∨ c = i2 := by simpa using hcm
      rcases q with rfl | rfl | rfl | rfl | rfl
      · exact zl
      · exact Heap.lt_size hTI
      · exact Heap.lt_size hTO
      · exact let ⟨_, e, _⟩ := s1; Heap.lt_size e
      · exact let ⟨_, e, _⟩ := s2; Heap.lt_size e
    exact (upd_ne (Nat.ne_of_lt lt)).trans (hf c hcm).1
 done := by
  intro X hP hw hK hc i pins s σ H E I hf ⟨hz, hTI, ⟨x0, y0, hTO⟩, s1, s2⟩ ⟨xs, ys, qx, qy, el, le⟩
  subst hP hw hK
  obtain ⟨us, rv, px, _⟩ := I.tuple qx
  obtain ⟨ws, rw2, py, _⟩ := I.list qy
  have hh : X.A.in1.handled = none := I.ok.hd hc
  have l1 := rv.length
  have l2 := rw2.length
  have n1 : us.toArray[i]? = none := by simp; omega
  have n2 : ws.toArray[i]? = none := by simp; omega
  refine wpAny_pyNext_zipD2_end (sepM D) (endT hh D.l1i1 n1) (endL hh D.l2i2 n2) hz hTI hTO ⟨rfl, s1, px⟩ ⟨rfl, s2, py.isList⟩ (Nat.le_refl _) (Nat.le_refl _) (.inl rfl) fun h' tk hk => ⟨rfl, I.turnedL (t' := tk) (ch := [z, TI, TO, i1, i2]) (fun c o nc e => ?_) hf⟩
  simp only [List.mem_cons, List.not_mem_nil, or_false, not_or] at nc
  exact hk c o nc.1 nc.2.2.1 nc.2.2.2.1 nc.2.2.2.2 e
 self := fun A i s Q E st h => wpAny_pyIter_zip st.1 h
end
def iZipM (K : PySem.W.Frag) (ta : TA) : TI := fun σ H R => ta σ H fun vs H1 => ∃ a b xs ys, vs = [.ref a, .ref b] ∧ SqT K H1 a xs ∧ SqL K H1 b ys ∧ R (ItzM K a b) H1
theorem pi_zipM {X : Cx} {e e2 : Expr} {ta : TA} {p pos tpos : Pos} {elts : List Expr} {kk : Nat} (hg : Gl X "zip") (hm : X.mg "zip" = none) (ha : PA X [e, e2] ta)
    (hs : starEach [e, e2] X.env = (false, eval e X.env) :: starEach [e2] X.env := by rfl) (hpl : (backTo pos (starEach [e2] X.env)).any (·.1) = false := by rfl) :
    PI X (.Tuple elts kk tpos) (.Call (.Name "zip" p) [e, e2] [] pos) (iZipM X.K ta) := by
 refine ⟨fun pins s σ H R I h => Call_ (ld_blt I hg hm PyProof.Rows.boot_zip (PyProof.Rows.callWith_type1 (thn (ha.run pos pins s σ H _ I h) fun us s1 h1 => ?_) hs hpl))⟩
 obtain ⟨_, H1, I1, r1, a, b, xs, ys, rfl, qx, qy, q⟩ := h1
 obtain ⟨u, v, rfl, ra, rb⟩ : ∃ u v, us = [u, v] ∧ RelV (.ref a) u ∧ RelV (.ref b) v := by
  cases r1 with
  | cons r rr => cases rr with
   | cons r' rr => cases rr; exact ⟨_, _, rfl, r, r'⟩
 cases ra
 cases rb
 obtain ⟨us, rv, px, _⟩ := I1.tuple qx
 obtain ⟨ws, rw2, py, _⟩ := I1.list qy
 refine zip_begins2 (begins_tuple a us.toArray) (begins_list b ws.toArray) px py.isList fun h' hz hTI hTO h1 h2 _ hk => wpAny_pyIter_zip hz ?_
 refine ⟨s1.heap.objs.size + 4, [s1.heap.objs.size + 4, s1.heap.objs.size + 2, s1.heap.objs.size + 3, s1.heap.objs.size, s1.heap.objs.size + 1], _, _, H1, rfl, I1.kept (t' := s1.toks) hk, turn_zipM (PySem.W.ktu_apart s1.heap.objs.size a b (let ⟨_, e, _⟩ := (show s1.heap.IsTuple a us.toArray from px); Heap.lt_size e) py.lt), ⟨hz, hTI, ⟨_, _, hTO⟩, ⟨_, h1, rfl, rfl⟩, ⟨_, h2, rfl, rfl⟩⟩, fun c hc => ?_, q⟩
 have le : s1.heap.objs.size ≤ c := by
  simp only [List.mem_cons, List.not_mem_nil, or_false] at hc
  rcases hc with e | e | e | e | e <;> rw [e] <;> first | exact Nat.le_refl _ | exact Nat.le_add_right _ _
 exact I1.fpOk le (I1.hok.fresh le)
end L2
namespace VL
open PySem L2
def mZipM (m1 m2 : ME) : MI := fun ρ => match evalM [m1, m2] ρ with
 | .ok [.tup xs, .lst false ys] ρ' => if fzs xs = true ∧ xs.length = ys.length then .ok (zipV xs ys) ρ' else .bad
 | .ok _ _ => .bad
 | .exc e ρ' => .exc e ρ'
 | .bad => .bad
section
variable {G : Gam} {X : Cx} {E : WX} {e e2 : Expr} {p s p2 s2 : Bool} {m m2 : ME} {pos : Pos}
theorem walk_zipM {W : Addr → Prop} {H : Hp} {a b : Addr} {xs ys : List V} {us ws : List Val} (hl : us.length = ws.length) (h1 : Fz W H a (.tup xs)) (h2 : Fz W H b (.lst ys)) (r1 : Reps G W H xs us []) (r2 : Reps G W H ys ws []) : Walk G W H (ItzM G.K a b) (zipV us ws) := by
 intro W' H' kp i
 have q1 : SqT G.K H' a xs := .inl (.inl (kp _ _ h1.1 h1.2).1)
 have q2 : SqL G.K H' b ys := .inl (.inl (kp _ _ h2.1 h2.2).1)
 have n1 := r1.length
 have n2 := r2.length
 refine ⟨fun h => ⟨xs, ys, q1, q2, by omega, by rw [zipV_len] at h; omega⟩, fun u hu => ?_⟩
 obtain ⟨x, y, e1, e2, rfl⟩ := zipV_get hu
 obtain ⟨x', f1, g1⟩ := r1.one e1
 obtain ⟨y', f2, g2⟩ := r2.one e2
 refine ⟨⟨xs, ys, x', y', q1, q2, f1, f2⟩, fun z H'' ⟨T, x2, y2, e3, hT, e4, e5, e6⟩ => ?_⟩
 subst e3 e4
 obtain rfl : x' = x2 := Option.some.inj (f1.symm.trans (e5 xs q1))
 obtain rfl : y' = y2 := Option.some.inj (f2.symm.trans (e6 ys q2))
 refine ⟨same_upd hT, fun ww => .tup (O := [] ++ ([] ++ [])) ⟨upd_same, fresh_nw ww T hT⟩ (.cons ((g1.mono kp fun _ z => nomatch z).upd hT fun z hz => .inl hz) (.cons ((g2.mono kp fun _ z => nomatch z).upd hT fun z hz => .inl hz) .nil))⟩
theorem vi_zipM {elts : List Expr} {kk : Nat} {tpos zp : Pos} (hK : X.K = G.K) (hg : Gl X "zip") (hm : X.mg "zip" = none) (h1 : VE G X E p s e m) (h2 : VE G X E p2 s2 e2 m2) (wf : (s || p2) = true := by rfl) (hs : starEach [e, e2] X.env = (false, eval e X.env) :: starEach [e2] X.env := by rfl) (hs2 : starEach [e2] X.env = (false, eval e2 X.env) :: starEach [] X.env := by rfl) (hpl : (backTo pos (starEach [e2] X.env)).any (·.1) = false := by rfl) :
    VI G X E (.Tuple elts kk tpos) (.Call (.Name "zip" zp) [e, e2] [] pos) (mZipM m m2) := by
 refine PI.pre (pi_zipM hg hm (pa_cons h1 (pa_cons h2 pa_nil hs2) hs) hs hpl) fun σ H K ⟨R, ρ, Os, rel, post⟩ => ?_
 refine nest_of (G := G) (E := E) (σ := σ) (os := [⟨p, s, m⟩, ⟨p2, s2, m2⟩]) (wf2 wf) rel (K := fun vs H1 => ∃ a b xs ys, vs = [.ref a, .ref b] ∧ SqT X.K H1 a xs ∧ SqL X.K H1 b ys ∧ K (ItzM X.K a b) H1) ?_
 rw [evalA_eq]
 unfold mZipM at post
 simp only [List.map_cons, List.map_nil]
 cases he : evalM [m, m2] ρ with
 | bad => rw [he] at post; exact post
 | exc e ρ' => rw [he] at post; exact post
 | ok vs ρ' =>
  rw [he] at post
  intro xs H' Os' Ol rel' reps nd keep pure
  match vs, reps, post with
  | [.tup us, .lst false ws], reps, post =>
   dsimp only at post
   by_cases hc : fzs us = true ∧ us.length = ws.length
   rotate_left
   · rw [if_neg hc] at post; exact post.elim
   rw [if_pos hc] at post
   obtain ⟨x, y, O, O', rfl, r1, r2⟩ := reps.inv2
   cases r1 with
   | @tup a xs _ _ f1 g1 =>
   cases r2 with
   | @lstF b ys _ f2 g2 =>
   obtain rfl := g1.none_of_fz hc.1
   rw [hK]
   have up : ∀ c, WW R Os' c → WW (fun a => R a ∨ a ∈ stab [⟨p, s, m⟩, ⟨p2, s2, m2⟩] Ol) Os' c := fun c z => z.imp .inl id
   exact ⟨a, b, xs, ys, rfl, .inl (.inl f1.1), .inl (.inl f2.1), post _ H' Os' (rel'.weak fun a z => .inl z) (walk_zipM hc.2 ⟨f1.1, fun z => f1.2 (up _ z)⟩ ⟨f2.1, fun z => f2.2 (up _ z)⟩ (g1.weakW up) (g2.weakW up)) (keep.imp fun _ z => z.elim)⟩
end
end VL
namespace L2
open PySem PySem.Spec PyProof.Rows
theorem mulOne (l : Addr) (its : Array Value) (n : Nat) (dd : Option Addr) (sl : Array (Option Value)) (u : Tok) :
    Meets (Builtin.«tuple.__mul__» ⟨[.ref l, .int 1 u], []⟩) (fun _ R s => s.heap.get? l = some { cls := .type "tuple", dict := dd, data := .seq its n, slots := sl } ∧ R (.ok (.ret (Value.ref l))) s) :=
 .of_wp fun prog w A R s h => by
  obtain ⟨hp, g, d, tk, os⟩ := s
  obtain ⟨hl, h⟩ := h
  have f1 := AutoSeq1.idx_int
  wp_walk using wpAny_loadPart' hl
  exact ⟨_, rfl, h⟩
def rOneT (K : PySem.W.Frag) : R2 := fun x y H Q => ∃ l xs, x = .ref l ∧ y = .int 1 ∧ SqT K H l xs ∧ Q (.ref l) H
theorem op_oneT {X : Cx} : OpR X (binaryOp .Mult) (rOneT X.K) := by
 intro pins s σ H x y v u Q I rx ry h
 obtain ⟨l, xs, rfl, rfl, hT, q⟩ := h
 cases rx
 obtain ⟨t, rfl⟩ := ry
 obtain ⟨its, r, ⟨⟨cls, dd, data, sl⟩, ho, hc, n, hd⟩, hs⟩ := I.tuple hT
 simp only at hc hd
 subst hc hd
 exact wpAny_binaryOp_repeat_ref (T := "tuple") (U := "int") (by decide) ⟨_, ho, rfl⟩ (fun s' => typeIs_int s' 1 t) noFill_tuple_mul F.fills_int_mul F.slot_int_rmul repeat_tuple F.slot_int_index.lookup
  (call_meets F.slot_int_rmul (typeIs_int s 1 t) F.entry_int_rmul (F.args_int_rmul_2 _ _) (int_rmul_tuple 1 t l its.toArray n dd sl)
   ⟨ho, rfl, ⟨_, ho, rfl⟩, call_meets F.slot_tuple_mul ⟨_, ho, rfl⟩ F.entry_tuple_mul (F.args_tuple_mul_2 _ _) (mulOne l its.toArray n dd sl t) ⟨ho, ⟨.ref l, H, I, rfl, q⟩⟩⟩)
theorem op_mulT1 {X : Cx} : OpR X (binaryOp .Mult) (fun x y H Q => rRepT X.K x y H Q ∨ rOneT X.K x y H Q) := fun pins s σ H x y v u Q I rx ry h => h.elim (op_repT pins s σ H x y v u Q I rx ry) (op_oneT pins s σ H x y v u Q I rx ry)
end L2
namespace VL
open PySem L2
def semMulT : List Val → Option Val
 | [.tup a, .int k] => if a ≠ [] ∧ 1 ≤ k ∧ k ≤ 1000 ∧ a.length ≤ 1000 ∧ fzs a = true then some (.tup (List.replicate k.toNat a).flatten) else none
 | _ => none
theorem ok_mulT {G : Gam} : OkF G (r2 fun x y H Q => rRepT G.K x y H Q ∨ rOneT G.K x y H Q) semMulT := by
 intro W H xs vs Ol v Q w r hs m
 unfold semMulT at hs
 split at hs
 · obtain ⟨x, y, O, O', rfl, r1, r2⟩ := r.inv2
   cases r2
   split at hs
   · rename_i k h
     cases hs
     obtain ⟨a, xs, rfl, e1, q1⟩ := rep_tupT r1
     by_cases hk : k = 1
     · subst hk
       refine .inr ⟨a, xs, rfl, rfl, e1, ?_⟩
       have e : (List.replicate (1 : Int).toNat ‹List Val›).flatten = ‹List Val› := by simp
       rw [e] at m
       exact m.same (r1.fz' (by simpa [Val.fz] using h.2.2.2.2))
     · refine .inl ⟨a, k, xs, rfl, rfl, e1, fun z => ?_, by omega, h.2.2.1, by rw [q1.length]; exact h.2.2.2.1, m.tup (Reps.rep (q1.fz h.2.2.2.2) _) (fresh_nw w)⟩
       subst z
       cases q1
       exact h.1 rfl
   · cases hs
 · cases hs
end VL
namespace VL
open PySem L2
theorem hu65 {k : Nat} {A : Around} (r : RoomG k A) : A.units + 65 < cLine := by have := r.un; omega
theorem hu0 {k : Nat} {A : Around} (r : RoomG k A) : A.units < cLine := by have := r.un; omega
end VL
namespace VL
open PySem L2
def isiAny (t : String) : List Val → Option Bool
 | [] => some false
 | .ty u :: r => match isiB t u, isiAny t r with
  | some b, some c => some (b || c)
  | _, _ => none
 | _ => none
def semIsiT : List Val → Option Val
 | [v, .tup cs] => match tyName v with
  | some t => (isiAny t cs).map Val.bl
  | none => none
 | _ => none
theorem isiAny_ok {G : Gam} {W : Addr → Prop} {H : Hp} {t : String} : ∀ {cs : List Val} {xs : List V} {O : List Addr} {b : Bool}, Reps G W H xs cs O → isiAny t cs = some b → ∃ us : List Value, Paired ClsV xs us ∧ PySem.W.kitAny G.K (.type t) us = some b
 | [], _, _, _, r, h => by cases r; cases h; exact ⟨[], .nil, rfl⟩
 | c :: cs, _, _, b, r, h => by
  cases r with
  | cons r rr =>
   cases c with
   | ty u =>
    cases r
    unfold isiAny at h
    split at h
    · rename_i b1 b2 e1 e2
      cases h
      obtain ⟨us, p, q⟩ := isiAny_ok rr e2
      refine ⟨.type u :: us, .cons (.ty u) p, ?_⟩
      unfold PySem.W.kitAny
      rw [isiB_ok e1]
      cases b1 with
      | true => rfl
      | false => simpa using q
    · cases h
   | _ => cases h
theorem ok_isiT {G : Gam} : OkF G (rIsiT G.K) semIsiT := by
 intro W H xs vs Ol v Q w r hs m
 unfold semIsiT at hs
 split at hs
 · obtain ⟨x, y, O, O', rfl, r1, r2⟩ := r.inv2
   split at hs
   · rename_i t ht
     cases hb : isiAny t ‹List Val› with
     | none => rw [hb] at hs; cases hs
     | some b =>
      rw [hb] at hs
      cases hs
      cases r2 with
      | tup h' rr =>
       obtain ⟨us, p, q⟩ := isiAny_ok rr hb
       exact ⟨_, _, _, _, us, b, rfl, h'.1, p, rep_tyX r1 ht, q, m.same (.bl _)⟩
   · cases hs
 · cases hs
end VL
namespace L2
open PySem PySem.Spec PyProof.Rows PySem.SeqAt
end L2
namespace VL
open PySem L2
end VL
namespace VL
open PySem L2
theorem ve_eqm {G : Gam} {X : Cx} {E : WX} {e : Expr} {p p' s : Bool} {m m' : ME} (h : VE G X E p s e m) (hp : p = p') (hm : m = m') : VE G X E p' s e m' := by subst hp hm; exact h
end VL
namespace VL
open PySem L2
def kn : Arg → Arg
 | .k _ u => .k .non u
 | a => a
theorem vals_kn : ∀ as : List Arg, vals (as.map kn) = vals as
 | [] => rfl
 | .v o :: as => by simp [kn, vals, vals_kn as]
 | .r _ :: as => by simp [kn, vals, vals_kn as]
 | .k _ _ :: as => by simp [kn, vals, vals_kn as]
theorem refsOk_kn (ρ : VEnv) : ∀ as : List Arg, refsOk ρ (as.map kn) = refsOk ρ as
 | [] => rfl
 | .v o :: as => by simp [kn, refsOk, refsOk_kn ρ as]
 | .r _ :: as => by simp [kn, refsOk, refsOk_kn ρ as]
 | .k _ _ :: as => by simp [kn, refsOk, refsOk_kn ρ as]
theorem fill_kn : ∀ (as : List Arg) (ρ : VEnv) (vs : List Val), fill (as.map kn) ρ vs = fill as ρ vs
 | [], _, _ => rfl
 | .v o :: as, ρ, [] => by simp [kn, fill]
 | .v o :: as, ρ, v :: vs => by simp [kn, fill, fill_kn as]
 | .r _ :: as, ρ, vs => by simp [kn, fill, fill_kn as]
 | .k _ _ :: as, ρ, vs => by simp [kn, fill, fill_kn as]
theorem back_kn : ∀ (as : List Arg) (fs : VEnv) (ρ : VEnv), back (as.map kn) fs ρ = back as fs ρ
 | [], _, _ => by simp [back]
 | .v o :: as, [], ρ => by simp [kn, back]
 | .v o :: as, f :: fs, ρ => by simp [kn, back, back_kn as]
 | .r _ :: as, [], ρ => by simp [kn, back]
 | .r _ :: as, some f :: fs, ρ => by simp [kn, back, back_kn as]
 | .r _ :: as, none :: fs, ρ => by simp [kn, back, back_kn as]
 | .k _ _ :: as, [], ρ => by simp [kn, back]
 | .k _ _ :: as, f :: fs, ρ => by simp [kn, back, back_kn as]
theorem mCall_kn (mf : MF) (as : List Arg) : mCall mf (as.map kn) = mCall mf as := by
 funext ρ
 unfold mCall
 simp only [vals_kn, refsOk_kn, fill_kn, back_kn]
theorem mCall_eq {mf : MF} {as bs : List Arg} (h : as.map kn = bs.map kn) : mCall mf as = mCall mf bs := by rw [← mCall_kn mf as, h, mCall_kn]
end VL
namespace L2
open PySem PySem.Spec PyProof.Rows
section
variable {P : Program} {w : World} {A : Around} {E : Value → Shared → Prop} {s : Shared}
end
section
variable {P : Program} {w : World} {A : Around} {E : Value → Shared → Prop} {s : Shared} {a : Addr}
end
end L2
namespace VL
open PySem L2
section
variable {G : Gam} {X : Cx} {E : WX} {e : Expr} {p s : Bool} {m : ME}
end
end VL
namespace VL
open PySem L2
section
open PySem.W PySem.Calls PyProof.Rows Builtin
variable {prog : Program} {w : World} {A : Around} {E : Value → Shared → Prop} {s : Shared} {K : Frag} {x C f : Addr} {ox : Obj} {od : Option Obj}
end
section
variable {G : Gam} {X : Cx} {E : WX} {o e : Expr} {p1 s1 s2 : Bool} {m1 m2 : ME} {pos px apos : Pos} {C f : Addr} {c k i : Nat} {ml : MF} {fd : FuncData} {ps : List Str}
end
end VL
namespace VL
open PySem L2
mutual
def simpV : Val → Bool
 | .non => true | .bl _ => true | .int _ => true | .str _ => true | .ty _ => true
 | .lst o xs => o && simpVs xs
 | .tup xs => simpVs xs
 | _ => false
def simpVs : List Val → Bool
 | [] => true
 | x :: xs => simpV x && simpVs xs
end
section
variable {G : Gam} {W W' : Addr → Prop} {H : Hp}
mutual
theorem Rep.simp {x : V} {v : Val} {O : List Addr} (r : Rep G W H x v O) (h : simpV v = true) (hw : ∀ a, W' a → W a ∨ ∀ xs, H a ≠ some (.tup xs)) : Rep G W' H x v O := by
 cases r with
 | non => exact .non
 | bl b => exact .bl b
 | int i => exact .int i
 | str x => exact .str x
 | ty n => exact .ty n
 | tup h1 r =>
  simp only [simpV] at h
  exact .tup ⟨h1.1, fun z => (hw _ z).elim h1.2 fun z => z _ h1.1⟩ (r.simp h hw)
 | lstO h1 r =>
  simp only [simpV, Bool.true_and] at h
  exact .lstO h1 (r.simp h hw)
 | _ => simp [simpV] at h
theorem Reps.simp {xs : List V} {vs : List Val} {O : List Addr} (r : Reps G W H xs vs O) (h : simpVs vs = true) (hw : ∀ a, W' a → W a ∨ ∀ xs, H a ≠ some (.tup xs)) : Reps G W' H xs vs O := by
 cases r with
 | nil => exact .nil
 | cons r t =>
  simp only [simpVs, Bool.and_eq_true] at h
  exact .cons (r.simp h.1 hw) (t.simp h.2 hw)
end
mutual
theorem Rep.notup {x : V} {v : Val} {O : List Addr} (r : Rep G W H x v O) : ∀ a ∈ O, ∃ o, H a = some o ∧ ∀ xs, o ≠ .tup xs := by
 cases r with
 | tup h r => exact r.notup
 | lstO h r => exact fun a ha => (List.mem_cons.mp ha).elim (fun e => by rw [e]; exact ⟨_, h, fun _ z => by cases z⟩) (r.notup a)
 | dkO h hk r => exact fun a ha => (List.mem_cons.mp ha).elim (fun e => by rw [e]; exact ⟨_, h, fun _ z => by cases z⟩) (r.notup a)
 | dtO h hk r => exact fun a ha => (List.mem_cons.mp ha).elim (fun e => by rw [e]; exact ⟨_, h, fun _ z => by cases z⟩) (r.notup a)
 | dnO h hk hn r => exact fun a ha => (List.mem_cons.mp ha).elim (fun e => by rw [e]; exact ⟨_, h, fun _ z => by cases z⟩) (r.notup a)
 | objO h hc hn r => exact fun a ha => (List.mem_cons.mp ha).elim (fun e => by rw [e]; exact ⟨_, h, fun _ z => by cases z⟩) (r.notup a)
 | _ => exact fun a ha => nomatch ha
theorem Reps.notup {xs : List V} {vs : List Val} {O : List Addr} (r : Reps G W H xs vs O) : ∀ a ∈ O, ∃ o, H a = some o ∧ ∀ xs, o ≠ .tup xs := by
 cases r with
 | nil => exact fun a ha => nomatch ha
 | cons r t => exact fun a ha => (List.mem_append.mp ha).elim (r.notup a) (t.notup a)
end
end
section
variable {G : Gam} {X : Cx} {E : WX} {R : Addr → Prop} {H : Hp} {σ : L2.St} {ρ : VEnv} {Os : Nat → List Addr} {a b o : Expr} {i j c : Nat} {C f : Addr} {mf : MF} {pos apos : Pos}
end
end VL
namespace L2
open PySem PySem.Spec PyProof.Rows
end L2
namespace VL
open PySem L2
end VL
namespace VL
open PySem L2
theorem hu_g {k : Nat} {A : Around} (r : RoomG k A) : A.units + 1 < cLine := hu_of r.toRoom
theorem hu70 {k : Nat} {A : Around} (r : RoomG k A) : A.units + 70 < cLine := by have := r.un; omega
section
variable {G : Gam} {X : Cx} {E : WX} {o e : Expr} {i : Nat} {r : List Stp} {pos apos : Pos} {p s : Bool} {m : ME}
end
end VL
namespace VL
open PySem L2
section
variable {G : Gam} {X : Cx} {E : WX} {bs : List Bool} {σ0 : L2.St} {pos pos' : Pos} {p : Bool} {m : ME}
end
end VL
namespace VL
open PySem PySem.Spec PyProof.Rows L2
structure SupI (P : Program) (K : PySem.W.Frag) (C D f cda cc : Addr) (B ini newId : String) (bmB : List Value) (fd : FuncData) (ar : PySem.Arg) : Prop where
 kf : PySem.W.KxsFacts B ini
 fb : ExcBaseFacts B newId ini bmB
 fn : ∃ oc od osl, K.lookup f = some ⟨oc, od, .func fd, osl⟩
 par : (fd.params.posonlyargs ++ fd.params.args).head? = some ar
 code : ∃ ccl cdd vs ccs file tf, K.lookup cda = some ⟨ccl, cdd, .fields vs, ccs⟩ ∧ vs[2]? = some (.str file tf) ∧ ((P.main.file : Str) == file) = true
 cell : ∃ cl cld csl, K.lookup cc = some ⟨cl, cld, .cell (some (.ref D)), csl⟩
 cls : ∃ cdD, PySem.W.clsIn K D = some cdD
 sub : PySem.W.mroIn K C (.ref D) = some true
 top : (P.main.scope.names.lookup ("super" : Str)).isSome = false
 sup : PySem.W.ks_superIn K C D "__init__" = some (some (.builtin ini))
 isB : PySem.W.subIn K (.ref C) (.type B) = some true
 ini : PySem.W.excInitIn K C bmB newId = true
 stat : PySem.W.nsIn K PySem.cStatics "thirdparty.any" = some none
section
variable {X : Cx} {pins : List (Addr × Obj)} {σ : L2.St} {H : Hp} {s : Shared} {a C D f cda cc : Addr} {B ini newId : String} {bmB : List Value} {fd : FuncData} {ar : PySem.Arg} {i : Nat} {m : Str} {j : Nat} {body : List Stmt} {p0 p1 p2 p3 p4 p5 : Pos} {pl : Sem Bool} {E : Value → Shared → Prop}
theorem at_superinit (T : SupI X.prog X.K C D f cda cc B ini newId bmB fd ar) (I : Inv X pins σ H s) (ea : H a = some (exo a C none)) (hx : X.ex = [])
    (hg : Gl X "super") (hm : X.mg "super" = none) (hkc : X.env.kindOf "__class__" = some .free) (hcells : X.env.cells.lookup ("__class__" : Str) = some cc) (hfu : X.env.func = some f) (hco : X.env.code = .ref cda)
    (hN : X.N[i]? = some ar.arg) (hσ : σ[i]? = some (some (.ref a))) (hka : X.env.kindOf ar.arg = some .local)
    (hi : interactive X.env = false) (hs : swapsWith (.Call (.Attribute (.Call (.Name "super" p0) [] [] p1) "__init__" p2) [.Constant (.str m) j p3] [] p4) none p5.line X.env = pure false)
    (he : eval (.Call (.Attribute (.Call (.Name "super" p0) [] [] p1) "__init__" p2) [.Constant (.str m) j p3] [] p4) X.env = (do
     let ov ← attributeBase (.Call (.Name "super" p0) [] [] p1) "__init__" X.env (eval (.Call (.Name "super" p0) [] [] p1) X.env)
     standAt p2.atName
     let (f, first) ← holding [ov] (getMethod ov "__init__" pl)
     callWith p4 f first (backTo p4 (starEach [.Constant (.str m) j p3] X.env)) [])) :
    _root_.PySem.wpAt (model X.prog X.w) X.A (.func body X.env) (exec (.Expr (.Call (.Attribute (.Call (.Name "super" p0) [] [] p1) "__init__" p2) [.Constant (.str m) j p3] [] p4) p5) X.env)
     (fun fl s' => fl = .next ∧ Inv X pins σ H s') E s := by
 refine ks_wpAt_Expr_any (ks_wpAt_MethodCall (pl := pl) ?_ he) hi hs
 obtain ⟨oc, od, osl, lk⟩ := T.fn
 obtain ⟨ccl, cdd, vs, ccs, file, tf, hcode, hvs, hfile⟩ := T.code
 obtain ⟨cl, cld, csl, hcell⟩ := T.cell
 obtain ⟨cdD, hD⟩ := T.cls
 have KX := I.kIn
 obtain ⟨mb, b1, b2⟩ := I.mod.blt
 obtain ⟨mm, hns, hlk⟩ := I.loc
 obtain ⟨u0, ru, lk0⟩ := hlk i ar.arg _ hN hσ (.inl hka)
 obtain rfl : u0 = Value.ref a := ru
 have hv : mm ar.arg = some (.ref a) := by
  rcases lk0 with ⟨_, z⟩ | ⟨z, _⟩
  · exact z
  · rw [hka] at z; rcases z with z | z <;> cases z
 obtain ⟨oD, hD1, hD2⟩ : ∃ oD, s.heap.get? D = some oD ∧ oD.data = .cls cdD := by
  unfold PySem.W.clsIn at hD
  split at hD
  · rename_i c d cd' sl ho
    cases hD
    exact ⟨_, KX _ _ ho, rfl⟩
  · cases hD
 obtain ⟨t1, hat⟩ := exo_at I.hok ea
 have cls1 : ∃ nm N' qn bs bm hdct sn sub ab col dd k0 k1 k2 k3 k5, s.heap.get? C = some (excClassObj nm qn C N' bs bm hdct sn sub ab col dd k0 k1 k2 k3 k5 newId) := by
  obtain ⟨nm, N', qn, bs, bm, hdct, sn, sub, ab, col, dd, k0, k1, k2, k3, k5, hC, _⟩ := PySem.W.excInit_of KX T.ini
  exact ⟨nm, N', qn, bs, bm, hdct, sn, sub, ab, col, dd, k0, k1, k2, k3, k5, hC⟩
 refine ks_wpAt_super_base hg hkc (by decide) hfu (KX _ _ lk) rfl T.par hco (KX _ _ hcode) rfl hvs hfile T.top ?_
 refine PySem.W.ks_loadName_global I.ok.kind hg (Calls.loadGlobal_builtin (by rw [I.ok.glob]; exact I.mod.glob.keeps I.bk) hm (by rw [I.ok.blt]; exact b1.keeps I.bk) ((b2 "super" (by decide)).trans PyProof.Rows.Boot.«super») ⟨rfl, ?_⟩)
 refine wpAny_loadName_free I.ok.kind hkc hcells ⟨_, KX _ _ hcell, rfl⟩ ?_
 refine wpAny_loadName_local I.ok.kind hka hns hv ?_
 obtain ⟨hh, g, dr, tk, os⟩ := s
 refine ks_wpAny_isType_cls hD1 hD2 ⟨rfl, ?_⟩
 refine ks_wpAny_call_super hD1 hD2 hat rfl (fun c e => by cases e) (PySem.W.looks_mroIn KX T.sub) (fun h' e k => ?_)
 have I2 : Inv X pins σ H ⟨h', g, dr, tk, os⟩ := I.kept k
 have KX2 := I2.kIn
 have hat2 := k _ _ hat
 have hCne : a ≠ C := by
  obtain ⟨nm, N', qn, bs, bm, hdct, sn, sub, ab, col, dd, k0, k1, k2, k3, k5, hC⟩ := cls1
  intro z
  subst z
  have hC' : hh.get? a = _ := hC
  rw [show hh.get? a = some _ from hat] at hC'
  cases hC'
 have II : PySem.W.InstAt h' a _ C none := ⟨hat2, rfl, rfl, trivial⟩
 obtain ⟨cdC, hcC⟩ : ∃ cd, PySem.W.clsIn X.K C = some cd := by
  have := T.sup
  unfold PySem.W.ks_superIn at this
  cases q : PySem.W.clsIn X.K C with
  | none => rw [q] at this; cases this
  | some cd => exact ⟨cd, rfl⟩
 have hsup := T.sup
 unfold PySem.W.ks_superIn at hsup
 rw [hcC] at hsup
 refine PySem.W.kxs_getMethod T.kf e (PySem.W.looks_opaque KX2 T.stat) (l₀ := cdC.mro) (fun A Q E s k q => wpAny_bind ((PySem.W.looks_clsIn KX2 hcC) A _ E s k (wpAny_pure q))) rfl KX2 hsup (II.type.andThen (PySem.W.looks_subIn KX2 T.isB)) hCne (by decide) ?_
 have k3 : ∀ b u, h'.get? b = some u → (h'.push (PySem.W.kxs_mw ini a)).get? b = some u := fun b u e => Heap.get?_push_of_some _ e
 have I3 : Inv X pins σ H ⟨h'.push (PySem.W.kxs_mw ini a), g, dr, tk + 1, os⟩ := I2.kept k3
 have hu3 : (h'.push (PySem.W.kxs_mw ini a)).get? h'.objs.size = some (PySem.W.kxs_mw ini a) := Heap.get?_push_at rfl rfl
 have Hu : H h'.objs.size = none := I2.hok.fresh (Nat.le_refl _)
 have I3p : Inv X ((h'.objs.size, PySem.W.kxs_mw ini a) :: pins) σ H ⟨h'.push (PySem.W.kxs_mw ini a), g, dr, tk + 1, os⟩ := I3.pins_of fun p hp => by
  rcases List.mem_cons.mp hp with rfl | hp
  · exact ⟨hu3, Hu, fun z => absurd I2.lt (by rw [← z]; exact Nat.lt_irrefl _), I2.nofs (Nat.le_refl _), fun v z => by cases z⟩
  · exact I3.pin p (List.mem_append_right _ hp)
 refine PySem.W.kxs_callWith (i := ini) (x := a) (by rfl) (PySem.Calls.evalArgs_plain ?_)
 have ha : PA X [.Constant (.str m) j p3] (tCons (tC (.str m)) tNil) := pa_cons pe_str pa_nil
 refine thn (ha.run p4 _ _ σ H (fun vs H1 => vs = [V.str m] ∧ H = H1) I3p ⟨rfl, rfl⟩) fun us s4 ⟨vs1, H1, I4, r4, ev, eH⟩ => ?_
 subst eH
 have hu4 := (I4.pin (h'.objs.size, PySem.W.kxs_mw ini a) (List.mem_append_right _ List.mem_cons_self)).1
 refine ⟨hu4, ?_⟩
 have I5 : Inv X pins σ H s4 := I4.pins_of fun p hp => I4.pin p (List.mem_append_right _ (List.mem_cons_of_mem _ hp))
 have hz : us.length ≤ sizeLine := by
  have e := r4.length
  rw [ev] at e
  rw [← e, sizeLine_eq]
  show 1 ≤ 16777216
  decide
 obtain ⟨t4, he4⟩ := exo_at I5.hok ea
 obtain ⟨nm, N', qn, bs, bm, hdct, sn, sub, ab, col, dd, k0, k1, k2, k3', k5, hC, hT⟩ := PySem.W.excInit_of I5.kIn T.ini
 obtain ⟨h4, g4, d4, tk4, os4⟩ := s4
 show wpAny (model X.prog X.w) X.A (call (.ref h'.objs.size) us) _ _ _
 refine wpAny_call (codeAny_of_tree ?_)
 show wpAny _ X.A.in1 (callAny (.ref h'.objs.size) ⟨us, []⟩) _ _ _
 simp only [callAny]
 refine wpAny_bind (wpAny_load hu4 ?_)
 simp only [PySem.W.kxs_mw, show (Value.type "method-wrapper" == Value.type "method" || Value.type "method-wrapper" == Value.type "builtin_function_or_method" || Value.type "method-wrapper" == Value.type "method-wrapper") = true by decide, if_true]
 refine PySem.W.KFB.if_so (by decide) ?_
 refine wpAny_bind (PySem.W.check_bound_init T.fb.toExcCallFacts hC he4 rfl ?_)
 refine wpAny_bind (wpAny_pure (wpAny_pure ?_))
 refine ⟨plainId_quiet T.fb.init.plain _, codeAny_builtin T.fb.initEntry ?_⟩
 refine PySem.W.exc_init_tree (cls := .ref C) (t0 := t4) (dv := none) (c2 := .none) (c3 := .none) (b4 := .bool false) he4 hz fun h5 k4 e5 _ => ?_
 have J := I5.write (t' := tk4) (x := a) (e := a) (o := exo a C none) (by rw [ea]; exact True.intro) (.inl rfl) k4 ⟨_, e5⟩ (exo_ok e5)
 have eu : upd H a (exo a C none) = H := by
  funext b
  by_cases hb : b = a
  · rw [hb, upd_same, ea]
  · rw [upd_ne hb]
 rw [eu] at J
 exact ⟨trivial, J⟩
end
end VL
namespace VL
open PySem PySem.Spec PyProof.Rows L2
def cxE (CX : CXT) (P : Program) (w : World) (K : PySem.W.Frag) (mg : Str → Option Value) (base : Heap) (N : List Str) (qual : Str) (scope : Scope) (f : Addr) (cd : Value) (cl : List (Str × Addr)) (A : Around) (outer : List Env) (s : Shared) (H : Hp) (E : XK) : Cx :=
 let env := PySem.W.envX qual scope s.heap.objs.size f cd cl
 { cxOf CX P w K mg base N qual scope f cd A outer s H E with A := A.deeper env, env := env, stack := env :: outer, fn := fun _ => false, xe := fun e s' => wpAny (model P w) (A.deeper env) (leaving env e) (fun _ s'' => CX outer H s E e s'') (fun e' s'' => CX outer H s E e' s'') s' }
structure SeI (x0 x1 : Str) (sc : Scope) : Prop where
 kind : sc.kind = .function
 co : sc.isCoroutine = false
 gen : sc.isGenerator = false
 ne : x0 ≠ x1
 l0 : sc.names.lookup x0 = some .local
 l1 : sc.names.lookup x1 = some .local
 fr : sc.names.lookup ("__class__" : Str) = some .free
 sup : sc.names.lookup ("super" : Str) = some .globalImplicit
 nocell : ∀ y ∈ sc.names, y.2 ≠ .cell
 only : ∀ y, sc.names.lookup y = some .free → y = "__class__"
theorem inv_startE {CX : CXT} {P : Program} {w : World} {K : PySem.W.Frag} {mg : Str → Option Value} {base : Heap} {qual x0 x1 : Str} {scope : Scope} {f cc : Addr} {cd : Value} {A : Around} {outer : List Env} {s : Shared} {H : Hp} {E : XK} {v0 v1 : V} {u0 u1 : Value} {h1 : Heap} {tk : Nat} {cl : Value} {cld : Option Addr} {csl : Array (Option Value)} {cv : Option Value}
    (S : SeI x0 x1 scope) (hd : A.handled = none) (e0 : Env0 P w K mg base A outer s H) (hc : K.lookup cc = some ⟨cl, cld, .cell cv, csl⟩) (r0 : RelV v0 u0) (r1 : RelV v1 u1)
    (hns : h1.Ns s.heap.objs.size (fun x => ([(x0, u0), (x1, u1)] : List (Str × Value)).reverse.lookup x)) (hk : ∀ b o, s.heap.get? b = some o → h1.get? b = some o) :
    Inv (cxE CX P w K mg base [x0, x1] qual scope f cd [("__class__", cc)] A outer s H E) [] [some v0, some v1] H { s with heap := h1, toks := tk } := by
 have KX : K.In base := e0.mod.kin
 have hcb := KX _ _ hc
 have look1 : ∀ y c, ([(("__class__" : Str), cc)] : List (Str × Addr)).lookup y = some c → y = "__class__" ∧ c = cc := fun y c h => by
  simp only [List.lookup] at h
  split at h
  · rename_i q; cases h; exact ⟨by simpa using q, rfl⟩
  · cases h
 refine ⟨⟨e0.mod, S.kind, rfl, rfl, Nat.le_refl _, fun y z c h1 h2 => ?_, fun y hy => ?_, fun y c h => (nomatch h), fun _ => hd, Around.frames_deeper e0.frames, .inr ⟨rfl, rfl⟩, fun b z => (nomatch z), e0.bs, e0.bsz, (fun b _ _ z => nomatch z), fun b z => (nomatch z), e0.funs, e0.frf⟩,
  rfl, e0.bare, Un.kept hk, ⟨_, hns, fun i y v g1 g2 g3 => ?_⟩, fun y c h => ?_, e0.hok.fresh (Nat.le_refl _), fun y c h => ?_, fun p hp => (nomatch hp), e0.hok.kept hk, rfl⟩
 · exact (look1 y c h1).1.trans (look1 z c h2).1.symm
 · have hy : scope.names.lookup y = some .cell ∨ scope.names.lookup y = some .free := hy
   rcases hy with hy | hy
   · exact absurd rfl (S.nocell _ (PySem.mem_of_lookup hy))
   · rw [S.only y hy]; exact ⟨cc, rfl⟩
 · match i with
   | 0 =>
    have g1 : some x0 = some y := g1
    have g2 : some (some v0) = some (some v) := g2
    cases g1; cases g2
    refine ⟨u0, r0, .inl ⟨S.l0, ?_⟩⟩
    have e : (x0 == x1) = false := by simpa using S.ne
    simp [List.lookup, e]
   | 1 =>
    have g1 : some x1 = some y := g1
    have g2 : some (some v1) = some (some v) := g2
    cases g1; cases g2
    refine ⟨u1, r1, .inl ⟨S.l1, ?_⟩⟩
    simp [List.lookup]
   | i + 2 =>
    have g1 : (none : Option Str) = some y := g1
    cases g1
 · obtain ⟨_, rfl⟩ := look1 y c h
   exact ⟨_, _, hk _ _ (e0.bs _ _ hcb).1, rfl⟩
 · obtain ⟨_, rfl⟩ := look1 y c h
   exact (e0.bs _ _ hcb).2
def spE (K : PySem.W.Frag) (C : Addr) (F : Str) : Sp := fun vs H Q _ => ∃ a y, vs = [.ref a, y] ∧ H a = some (exo a C none) ∧ ∀ dx, H dx = none → dx ≠ a → Q .non (upd (upd H dx (exd dx [(F, y)])) a (exo a C (some dx)))
theorem initE_ok {CX : CXT} {P : Program} {w : World} {K : PySem.W.Frag} {mg : Str → Option Value} {base : Heap} {k : Nat} {f C D cda cc : Addr} {name qual x0 x1 F m : Str} {params : Arguments} {scope : Scope} {dV kV doc pm ct oc : Value} {an od : Option Addr} {osl : Array (Option Value)} {j : Nat} {p0 p1 p2 p3 p4 p5 q0 q1 q2 q3 : Pos} {pl : Sem Bool} {B ini newId : String} {bmB : List Value} {ar : PySem.Arg} {cl : Value} {cld : Option Addr} {csl : Array (Option Value)}
    {fd : FuncData} (hfd : fd = PySem.W.ksFn name qual params [.Expr (.Call (.Attribute (.Call (.Name "super" p0) [] [] p1) "__init__" p2) [.Constant (.str m) j p3] [] p4) p5, .Assign [.Attribute (.Name x0 q0) F q1] (.Name x1 q2) q3] scope dV kV doc pm an (.ref cda) ct cc)
    (lk : K.lookup f = some ⟨oc, od, .func fd, osl⟩) (hcd : PySem.W.codeIn K (.ref cda) qual = true) (S : SeI x0 x1 scope) (T : SupI P K C D f cda cc B ini newId bmB fd ar) (har : ar.arg = x0) (TC : OexC K C)
    (hno : PySem.W.findIn K (.ref C) F = some none) (hm : mg "super" = none) (hcell : K.lookup cc = some ⟨cl, cld, .cell (some (.ref D)), csl⟩)
    (hd0 : (x0 == ("__debug__" : Str)) = false) (hd1 : (x1 == ("__debug__" : Str)) = false) (hc0 : (x0 == ("__classdict__" : Str)) = false) (hc1 : (x1 == ("__classdict__" : Str)) = false)
    (hs1 : ∀ env : Env, swapsWith (.Call (.Attribute (.Call (.Name "super" p0) [] [] p1) "__init__" p2) [.Constant (.str m) j p3] [] p4) none p5.line env = pure false)
    (hs2 : ∀ env : Env, swapsWith (.Name x1 q2) (some (.Attribute (.Name x0 q0) F q1)) q3.line env = pure false)
    (he : ∀ env : Env, eval (.Call (.Attribute (.Call (.Name "super" p0) [] [] p1) "__init__" p2) [.Constant (.str m) j p3] [] p4) env = (do
     let ov ← attributeBase (.Call (.Name "super" p0) [] [] p1) "__init__" env (eval (.Call (.Name "super" p0) [] [] p1) env)
     standAt p2.atName
     let (f, first) ← holding [ov] (getMethod ov "__init__" pl)
     callWith p4 f first (backTo p4 (starEach [.Constant (.str m) j p3] env)) [])) :
    FnOk P w K mg base CX (k + 1) f fd [x0, x1] (spE K C F) := by
 subst hfd
 refine ⟨fun vs H Q E ⟨a, y, e, _⟩ => by rw [e]; rfl, fun A outer s H args us vs Q E hr e0 hb r hsp => ?_⟩
 obtain ⟨a, y, rfl, ea, hq⟩ := hsp
 obtain ⟨u0, us1, rfl, r0, r1⟩ : ∃ u0 us1, us = u0 :: us1 ∧ RelV (.ref a) u0 ∧ Vals [y] us1 := by
  cases r with | cons a b => exact ⟨_, _, rfl, a, b⟩
 obtain ⟨u1, rfl, ry⟩ : ∃ u1, us1 = [u1] ∧ RelV y u1 := by
  cases r1 with | cons a b => cases b; exact ⟨_, rfl, a⟩
 have here : ∀ (b : Addr) (o : Obj), base.get? b = some o → s.heap.get? b = some o := fun b o e => (e0.bs b o e).1
 have KX : K.In s.heap := e0.mod.kin.keeps here
 refine ks_codeAny_call_defAt hr.depth (KX _ _ lk) rfl (e0.mod.nolimit.keeps here) (PySem.W.codeRec_of KX hcd) rfl hb S.nocell (fun z hz => ?_) (fun h1 hns hk => ?_) S.co S.gen S.kind
 · simp at hz
   rcases hz with rfl | rfl
   · exact S.l0
   · exact S.l1
 have I := inv_startE (CX := CX) (qual := qual) (f := f) (cd := .ref cda) (E := E) (tk := s.toks + [(x0, u0), (x1, u1)].length) S hr.hd e0 hcell r0 ry hns hk
 refine ks_wpAt_execs_cons (ks_wpAt_mono (at_superinit (pl := pl) (i := 0) (a := a) T I ea rfl S.sup hm S.fr rfl rfl rfl (by rw [har]; rfl) rfl (by rw [har]; exact S.l0) I.quiet (hs1 _) (he _)) (fun fl s1 hh => ?_) fun _ _ z => z)
 obtain ⟨rfl, J⟩ := hh
 have P0 : PE (cxE CX P w K mg base [x0, x1] qual scope f (.ref cda) [("__class__", cc)] A outer s H E) (.Name x0 q0) (tVar 0) := pe_var rfl (.inl S.l0) hd0 hc0
 have P1 : PE (cxE CX P w K mg base [x0, x1] qual scope f (.ref cda) [("__class__", cc)] A outer s H E) (.Name x1 q2) (tVar 1) := pe_var rfl (.inl S.l1) hd1 hc1
 have st := (ps_ost (f := F) (p' := q1) (pos := q3) P0 P1 (hs2 _)).run [] s1 [some (.ref a), some y] H { nx := fun _ H' => Q .non H', rt := Q } J ⟨y, rfl, .ref a, rfl, a, C, rfl, TC, hno, .inl ⟨ea, fun dx n ne => hq dx n ne⟩⟩
 refine ks_wpAt_execs_cons (ks_wpAt_mono (wpAt_of_wpAny st) (fun fl s2 hh => ?_) fun _ _ z => z)
 cases fl with
 | next =>
  obtain ⟨σ', H', J2, q⟩ := hh
  refine wpAt_of_wpAny ?_
  show wpAny _ _ (execs [] _) _ _ _
  rw [execs_nil]
  exact wpAny_pure ⟨V.non, H', J2.os, J2.bare, J2.base, J2.hok, rfl, q⟩
 | ret u =>
  obtain ⟨v, σ', H', J2, rv, q⟩ := hh
  exact ⟨v, H', J2.os, J2.bare, J2.base, J2.hok, rv, q⟩
 | brk => obtain ⟨_, _, _, q⟩ := hh; exact q.elim
 | cont => obtain ⟨_, _, _, q⟩ := hh; exact q.elim
end VL
namespace VL
open PySem PySem.Spec PyProof.Rows L2
def mRaise (n : Nat) (F : Str) (m : ME) : MS := fun ρ => match m ρ with
 | .ok v ρ1 => if v.fz = true then .exc ⟨.fn n, [F], [v]⟩ ρ1 else .bad
 | .exc e ρ1 => .exc e ρ1
 | .bad => .bad
theorem pmk_oexN {Y : Cx} {CX : CXT} {x : Str} {e : Expr} {es : List Expr} {ta : TA} {p pos : Pos} {C g : Addr} {k : Nat} {fd : FuncData} {ps : List Str} {sp : Sp} (T : OexC Y.K C) (ini : PySem.W.findIn Y.K (.ref C) "__init__" = some (some (.ref g)))
    (isf : PySem.W.typeIn Y.K (.ref g) = some (.type "function")) (Fn : FnOk Y.prog Y.w Y.K Y.mg Y.base CX k g fd ps sp) (room : Room (k + 1) Y.A) (bnd : Binds Y.K fd ps []) (out : Passes CX Y (fun _ _ _ => False)) (glo : Gl Y x) (is : Y.mg x = some (.ref C)) (args : PA Y (e :: es) ta)
    (hdb : (x == ("__debug__" : Str)) = false := by decide) (he : starEach (e :: es) Y.env = (false, eval e Y.env) :: starEach es Y.env := by rfl) (hpl : (backTo pos (starEach es Y.env)).any (·.1) = false := by rfl) :
    L2N.PMk Y (.Call (.Name x p) (e :: es) [] pos) (tMkO C sp [] ta) := by
 rintro pins s0 σ H Q I wish
 obtain ⟨_, _, _, _, bm, _, _, _, _, _, _, _, _, _, _, atC, inB⟩ := T.cls
 refine wpAny_Call_Name_kw (ld_glob I glo is (PySem.W.callWith_K (h₀ := Y.base) I.ok.mod.kin T.kC (thn (args.run pos pins s0 σ H _ I wish) fun us s1 z => ?_) he hpl) hdb)
 obtain ⟨vs, H1, J, rv, few, here⟩ := z
 refine ⟨J.kIn, ?_⟩
 obtain ⟨h0, gs, dr, tk, os⟩ := s1
 let a : Addr := h0.objs.size + 1
 let h1 : Heap := (h0.push (PySem.W.kdv_tup us)).push (PySem.HandSPX.excO C h0.objs.size)
 have le : h0.objs.size ≤ a := Nat.le_succ _
 have q0 := here a (J.hok.fresh le)
 rw [List.append_nil] at q0
 have grow : ∀ b o, h0.get? b = some o → h1.get? b = some o := fun b o z => Heap.get?_push_of_some _ (Heap.get?_push_of_some _ z)
 have new0 : ((h0.push (PySem.W.kdv_tup us)).push (PySem.HandSPX.excO C h0.objs.size)).get? (h0.objs.size + 1) = some (PySem.HandSPX.excO C h0.objs.size) := by heap_get
 have new : h1.get? a = some (PySem.HandSPX.excO C h0.objs.size) := new0
 have J2 : Inv Y pins σ (upd H1 a (exo a C none)) ⟨h1, gs, dr, tk, os⟩ := J.laid (t' := tk) (a := a) (o := exo a C none) (h' := h1) grow le (exo_ok new)
 have rv2 : Vals (V.ref a :: vs) (Value.ref a :: us) := .cons rfl rv
 have num : (Value.ref a :: us ++ []).length = ps.length := by rw [List.append_nil, ← rv2.length]; exact Fn.len _ _ _ _ q0
 have b0 := bnd _ (Value.ref a :: us) J2.kIn num
 rw [List.append_nil] at b0
 have line : us.length ≤ sizeLine := by rw [← Paired.length rv, sizeLine_eq]; omega
 have run := Fn.run _ Y.stack _ _ ⟨Value.ref a :: us, []⟩ (Value.ref a :: us) _ _ (fun _ _ _ => False) (room.make C us []) (J2.env0.make C us []) b0 rv2 q0
 refine wpAny_call (PySem.HandSPX.call_own F.excBase_ValueError (fun Y => PySem.HandSPX.refsVE_contains Y bm inB) (J.kIn _ _ atC) (PySem.W.looks_findIn J.kIn ini) (fun self => PySem.W.bind_fn J.kIn self isf) line (codeAny_mono run fun res t z => ?_))
 match res, z with
 | .error er, z => exact out pins σ _ _ er t J2 z
 | .ok .next, z => exact z.elim
 | .ok .brk, z => exact z.elim
 | .ok .cont, z => exact z.elim
 | .ok (.ret u), z =>
  obtain ⟨v, H2, os2, bare, un, ok2, ru, ev, d, fs, ea, ed, nd, q2⟩ := z
  subst ev
  obtain ⟨h2, g2, d2, t2, os'⟩ := t
  obtain ⟨t0, B, K0, kB, fresh, at0, na⟩ := mk_end0 (d2 := d2) (t2 := t2) J le grow un ok2 os2 bare ea ed nd
  exact ⟨ru, a, _, _, ⟨B, g2, d2, t2, os'⟩, _, .ref C, some d, rfl, K0, kB, fresh, at0, ⟨rfl, rfl, fun vs z => by cases z; rfl⟩, rfl, rfl, na, rfl, bare, raises_own T.exC T.tyC, q2⟩
section
variable {ia : Air} {G : Gam} {X : Cx} {E : WX} {bs : List Bool} {σ0 : L2.St} {p : Bool} {m : ME} {n k : Nat} {x F : Str} {C fI : Addr} {fd : FuncData} {ps : List Str} {e : Expr} {pn pos pos' : Pos}
theorem vs_raise (hc : X.calm = true) (tk : ia.Takes X E) (TC : OexC X.K C) (iC : PySem.W.findIn X.K (.ref C) "__init__" = some (some (.ref fI))) (tI : PySem.W.typeIn X.K (.ref fI) = some (.type "function"))
    (F1 : FnOk X.prog X.w X.K X.mg X.base (L2.CX X.prog X.w) k fI fd ps (spE X.K C F)) (hr : Room (k + 1) X.A) (hb : Binds X.K fd ps []) (hg : Gl X x) (hm : X.mg x = some (.ref C)) (hC : G.fa n = some C) (he : VE G X E p true e m)
    (hdb : (x == ("__debug__" : Str)) = false := by decide) (hse : starEach [e] X.env = (false, eval e X.env) :: starEach [] X.env := by rfl) (hpl : (backTo pos (starEach [] X.env)).any (·.1) = false := by rfl) (hKG : X.K = G.K := by rfl) :
    VS G X E bs σ0 (.Raise (some (.Call (.Name x pn) [e] [] pos)) none pos') (mRaise n F m) := by
 have hx : Passes (L2.CX X.prog X.w) X (fun _ _ _ => False) := passA0 (ia := .l)
 have key : PS X (.Raise (some (.Call (.Name x pn) [e] [] pos)) none pos') (fun _ σ H => tMkO C (spE X.K C F) [] (tCons (rd G E p true m) tNil) σ H fun cls d H' => E cls d σ H') := by
  cases ia with
  | l => exact ps_raise hc tk (pmk_oex (dvs := []) TC iC tI F1 hr hb .nil hx hg hm (pa_cons he pa_nil hse) hdb hse hpl)
  | n => exact L2N.ps_raise hc tk (pmk_oexN TC iC tI F1 hr hb hx hg hm (pa_cons he pa_nil hse) hdb hse hpl)
 refine PS.pre key fun D σ H ⟨R, ρ, Os, rel, pin, post⟩ => ?_
 refine ⟨R, ρ, Os, rel, ?_⟩
 refine PostS.post (s := true) (f := fun v ρ1 => if v.fz = true then .exc ⟨.fn n, [F], [v]⟩ ρ1 else .bad) pin post fun v ρ1 y H1 Os1 O _ post rel1 rep nd kp => ?_
 by_cases hf : v.fz = true
 rotate_left
 · rw [if_neg hf] at post; exact post.elim
 rw [if_pos hf] at post
 obtain rfl := rep.none_of_fz hf
 have rel2 : Rel G R H1 σ ρ1 Os1 := rel1.weak fun a z => .inl z
 have e1 : Rp R true [] = R := setEq fun a => ⟨(fun z => z.elim id fun z => absurd z.2 (by simp)), Or.inl⟩
 rw [e1] at rep
 unfold tNil
 refine ⟨by simp, fun a ha => ⟨a, y, rfl, upd_same, fun dx hdx hne => ⟨rfl, dx, [(F, y)], upd_same, ?_, ?_, ?_⟩⟩⟩
 · rw [upd_ne hne]; exact upd_same
 · rw [upd_ne hne] at hdx; exact hdx
 rw [upd_ne hne] at hdx
 have eh : upd (del (upd (upd (upd H1 a (exo a C none)) dx (exd dx [(F, y)])) a (exo a C (some dx))) a) dx (.xd [(F, y)]) = upd H1 dx (.xd [(F, y)]) := by
  funext z
  by_cases h1 : z = dx
  · subst h1; rw [upd_same, upd_same]
  · rw [upd_ne h1, upd_ne h1]
    by_cases h2 : z = a
    · subst h2; rw [del_same, ha]
    · rw [del_ne h2, upd_ne h2, upd_ne h1, upd_ne h2]
 rw [eh]
 have same : Same H1 (upd H1 dx (.xd [(F, y)])) := fun b o eb => by
  have : b ≠ dx := fun z => by rw [z, hdx] at eb; cases eb
  rw [upd_ne this]; exact eb
 have nW : ¬ WW R Os1 dx := fun z => by
  obtain ⟨o, eo⟩ := rel2.ww z
  rw [hdx] at eo; cases eo
 refine post (.ref C) (some dx) σ _ Os1 pin (rel2.grow same (fun a z => .inl z) fun a z => let ⟨o, e⟩ := rel2.rt a z; ⟨o, same a o e⟩) ⟨C, dx, [(F, y)], rfl, hC, rfl, upd_same, nW, rfl, .cons (O := []) (O' := []) (rep.mono (fun a o ea nw => ⟨same a o ea, nw⟩) fun _ h => nomatch h) .nil, hKG ▸ TC.tyC⟩ ?_
 exact (kp.imp (O' := fun _ => False) fun _ z => z.elim).grow same fun a z => z.elim
end
end VL
namespace VL
open PySem PySem.Spec PyProof.Rows L2
def Gam.hott (G : Gam) (p : Addr × Value × Option Addr) : Gam := { G with hot := p :: G.hot }
mutual
def Val.nox : Val → Bool
 | .tup xs => noxs xs
 | .lst _ xs => noxs xs
 | .dct _ _ _ xs => noxs xs
 | .obj _ _ _ xs => noxs xs
 | .exn _ _ _ => false
 | .wdk _ xs => noxs xs
 | .wtp xs => noxs xs
 | _ => true
def noxs : List Val → Bool
 | [] => true
 | x :: xs => x.nox && noxs xs
end
mutual
theorem keyN_nox : ∀ (v : Val) (k : NestedKey), keyN v = some k → v.nox = true
 | .non, _, _ => rfl
 | .int _, _, _ => rfl
 | .str _, _, _ => rfl
 | .tup xs, k, h => by
  simp only [keyN] at h
  split at h
  · rename_i ks e; simp only [Val.nox]; exact keyNs_nox xs ks e
  · cases h
 | .bl _, _, h => by simp [keyN] at h
 | .ty _, _, h => by simp [keyN] at h
 | .cn _, _, h => by simp [keyN] at h
 | .lst _ _, _, h => by simp [keyN] at h
 | .dct _ _ _ _, _, h => by simp [keyN] at h
 | .obj _ _ _ _, _, h => by simp [keyN] at h
 | .exn _ _ _, _, h => by simp [keyN] at h
 | .scr _, _, h => by simp [keyN] at h
 | .wdk _ _, _, h => by simp [keyN] at h
 | .wtp _, _, h => by simp [keyN] at h
 | .fn _, _, h => by simp [keyN] at h
theorem keyNs_nox : ∀ (xs : List Val) (ks : List NestedKey), keyNs xs = some ks → noxs xs = true
 | [], _, _ => rfl
 | x :: xs, ks, h => by
  simp only [keyNs] at h
  split at h
  · rename_i k l e1 e2; simp only [noxs, keyN_nox x k e1, keyNs_nox xs l e2, Bool.and_self]
  · cases h
end
theorem keys_nox {α : Type} {f : α → NestedKey} : ∀ {ks : List Val} {xs : List α}, ks.map keyN = xs.map (fun x => some (f x)) → noxs ks = true
 | [], _, _ => rfl
 | k :: ks, [], h => by simp at h
 | k :: ks, x :: xs, h => by
  simp only [List.map_cons, List.cons.injEq] at h
  simp only [noxs, keyN_nox k _ h.1, keys_nox h.2, Bool.and_self]
section
variable {G : Gam} {W : Addr → Prop} {H : Hp} {q : Addr × Value × Option Addr}
mutual
theorem Rep.hott {x : V} {v : Val} {O : List Addr} (r : Rep G W H x v O) : Rep (G.hott q) W H x v O := by
 cases r with
 | non => exact .non
 | bl b => exact .bl b
 | int i => exact .int i
 | str x => exact .str x
 | ty n => exact .ty n
 | cn h => exact .cn h
 | fn h => exact .fn h
 | tup h r => exact .tup h r.hott
 | wtp h r => exact .wtp h r.hott
 | lstO h r => exact .lstO h r.hott
 | lstF h r => exact .lstF h r.hott
 | scr h => exact .scr h
 | wdk h hk r => exact .wdk h hk r.hott
 | dkO h hk r => exact .dkO h hk r.hott
 | dkF h hk r => exact .dkF h hk r.hott
 | dtO h hk r => exact .dtO h hk r.hott
 | dtF h hk r => exact .dtF h hk r.hott
 | dnO h hk hn r => exact .dnO h hk.hott hn r.hott
 | dnF h hk hn r => exact .dnF h hk.hott hn r.hott
 | objO h hc hn r => exact .objO h hc hn r.hott
 | objF h hc hn r => exact .objF h hc hn r.hott
 | exn hh hc h hn r => exact .exn (List.mem_cons_of_mem _ hh) hc h hn r.hott
theorem Reps.hott {xs : List V} {vs : List Val} {O : List Addr} (r : Reps G W H xs vs O) : Reps (G.hott q) W H xs vs O := by
 cases r with
 | nil => exact .nil
 | cons r t => exact .cons r.hott t.hott
end
mutual
theorem Rep.cold {x : V} {v : Val} {O : List Addr} (r : Rep (G.hott q) W H x v O) (h : v.nox = true) : Rep G W H x v O := by
 cases r with
 | non => exact .non
 | bl b => exact .bl b
 | int i => exact .int i
 | str x => exact .str x
 | ty n => exact .ty n
 | cn h' => exact .cn h'
 | fn h' => exact .fn h'
 | tup h' r => exact .tup h' (r.cold (by simpa [Val.nox] using h))
 | wtp h' r => exact .wtp h' (r.cold (by simpa [Val.nox] using h))
 | lstO h' r => exact .lstO h' (r.cold (by simpa [Val.nox] using h))
 | lstF h' r => exact .lstF h' (r.cold (by simpa [Val.nox] using h))
 | scr h' => exact .scr h'
 | wdk h' hk r => exact .wdk h' hk (r.cold (by simpa [Val.nox] using h))
 | dkO h' hk r => exact .dkO h' hk (r.cold (by simpa [Val.nox] using h))
 | dkF h' hk r => exact .dkF h' hk (r.cold (by simpa [Val.nox] using h))
 | dtO h' hk r => exact .dtO h' hk (r.cold (by simpa [Val.nox] using h))
 | dtF h' hk r => exact .dtF h' hk (r.cold (by simpa [Val.nox] using h))
 | dnO h' hk hn r => exact .dnO h' (hk.cold (keys_nox hn)) hn (r.cold (by simpa [Val.nox] using h))
 | dnF h' hk hn r => exact .dnF h' (hk.cold (keys_nox hn)) hn (r.cold (by simpa [Val.nox] using h))
 | objO h' hc hn r => exact .objO h' hc hn (r.cold (by simpa [Val.nox] using h))
 | objF h' hc hn r => exact .objF h' hc hn (r.cold (by simpa [Val.nox] using h))
 | exn hh hc h' hn r => simp [Val.nox] at h
theorem Reps.cold {xs : List V} {vs : List Val} {O : List Addr} (r : Reps (G.hott q) W H xs vs O) (h : noxs vs = true) : Reps G W H xs vs O := by
 cases r with
 | nil => exact .nil
 | cons r t =>
  simp only [noxs, Bool.and_eq_true] at h
  exact .cons (r.cold h.1) (t.cold h.2)
end
def noxE (ρ : VEnv) : Bool := ρ.all fun o => match o with
 | some v => v.nox
 | none => true
theorem noxE_at {ρ : VEnv} (h : noxE ρ = true) {i : Nat} {v : Val} (e : ρ[i]? = some (some v)) : v.nox = true := List.all_eq_true.mp h _ (List.mem_of_getElem? e)
theorem Rel.hott {R : Addr → Prop} {σ : L2.St} {ρ : VEnv} {Os : Nat → List Addr} (r : Rel G R H σ ρ Os) : Rel (G.hott q) R H σ ρ Os :=
 ⟨r.len, fun i v h => let ⟨x, e, k⟩ := r.rep i v h; ⟨x, e, k.hott⟩, r.nil, r.nd, r.dj, r.dr, r.rt⟩
theorem Rel.cold {R : Addr → Prop} {σ : L2.St} {ρ : VEnv} {Os : Nat → List Addr} (r : Rel (G.hott q) R H σ ρ Os) (h : noxE ρ = true) : Rel G R H σ ρ Os :=
 ⟨r.len, fun i v e => let ⟨x, e', k⟩ := r.rep i v e; ⟨x, e', k.cold (noxE_at h e)⟩, r.nil, r.nd, r.dj, r.dr, r.rt⟩
end
def mGone (i : Nat) : RS → RS
 | .nx ρ => if noxE (ρ.set i none) = true then .nx (ρ.set i none) else .bad
 | .rt v ρ => if v.nox = true ∧ noxE (ρ.set i none) = true then .rt v (ρ.set i none) else .bad
 | _ => .bad
def mTryAs (c i : Nat) (mb ms : MS) : MS := fun ρ => match mb ρ with
 | .exc e ρ1 => (match e.cls with
  | .fn k => if k = c then (if ρ1[i]? = some none then mGone i (ms (ρ1.set i (some (.exn c e.fs e.xs)))) else .bad) else .exc e ρ1
  | _ => .bad)
 | r => r
section
variable {G : Gam} {X : Cx} {E : WX} {bs : List Bool} {σ0 : L2.St} {x n : Str} {i c : Nat} {C : Addr} {body suite : List Stmt} {b₀ : Stmt} {np pos pos' : Pos} {mb ms : MS}
theorem vs_try_as (hs : X.stack = X.env :: X.outer) (hf : X.env.frame = some X.env.locals) (hN : X.N.Nodup) (hi : X.N[i]? = some n) (hln : X.env.kindOf n = some .local) (hc : Names X x (.ref C)) (tk : Takes X E) (hbs : bs[i]? ≠ some true)
    (hC : G.fa c = some C) (hyes : PySem.W.exmOne X.K (.ref C) (.ref C) = some true) (hno : ∀ k C', k ≠ c → G.fa k = some C' → PySem.W.typeIn G.K (.ref C') = some (.type "type") → PySem.W.exmOne X.K (.ref C') (.ref C) = some false)
    (hb : ∀ (W : WX) (pn : List (Addr × Obj)) (xe : Value → Shared → Prop), Air.Takes .l (X.tr pn xe) W → PassesOwn (model X.prog X.w) X.A X.env xe → VSs G (X.tr pn xe) W bs σ0 body mb)
    (hsu : ∀ (a : Addr) (oe : Obj) (cls : Value) (d : Option Addr) (pn : List (Addr × Obj)), Zc cls d oe → (∃ vs, oe.data = .fields vs) → VSs (G.hott (a, cls, d)) (X.suite a ((a, oe) :: pn)) (fun _ _ _ _ => False) bs σ0 (b₀ :: suite) ms) :
    VS G X E bs σ0 (.Try body [.ExceptHandler (some (.Name x np)) (some n) (b₀ :: suite) pos'] [] [] pos) (mTryAs c i mb ms) := by
 refine PS.pre (ps_try_as (i := i) hs hf hN hi hln hc tk hb hsu) fun D σ H ⟨R, ρ, Os, rel, pin, post⟩ => ⟨R, ρ, Os, rel, pin, ?_⟩
 unfold mTryAs at post
 cases hm : mb ρ with
 | bad => rw [hm] at post; exact post
 | nx ρ1 => rw [hm] at post; exact post
 | rt v ρ1 => rw [hm] at post; exact post
 | bk ρ1 => rw [hm] at post; exact post
 | ct ρ1 => rw [hm] at post; exact post
 | exc e ρ1 =>
  rw [hm] at post
  dsimp only at post
  intro cl d σ1 H1 Os1 pin1 rel1 rx k1
  cases hcls : e.cls with
  | fn k =>
   rw [hcls] at post
   dsimp only at post
   have rx' := rx
   unfold RepX at rx'
   rw [hcls] at rx'
   obtain ⟨C', dd, fs, rfl, hk, rfl, h4, h5, h6, h7, h8⟩ := rx'
   by_cases hkc : k = c
   · rw [if_pos hkc] at post
     subst hkc
     rw [hC] at hk
     cases hk
     refine ⟨true, hyes, fun _ a ha => ?_, fun z => by cases z⟩
     by_cases hi0 : ρ1[i]? = some none
     rotate_left
     · rw [if_neg hi0] at post; exact post.elim
     rw [if_pos hi0] at post
     have hil : i < ρ1.length := (List.getElem?_eq_some_iff.mp hi0).1
     have r0 : Rep (G.hott (a, .ref C, some dd)) (WW R Os1) H1 (.ref a) (.exn k e.fs e.xs) [] := .exn List.mem_cons_self hC ⟨h4, h5⟩ h6 h7.hott
     have relh : Rel (G.hott (a, .ref C, some dd)) R H1 σ1 ρ1 Os1 := rel1.hott
     have e0 : R = fun a => R a ∨ a ∈ ([] : List Addr) := setEq fun a => ⟨.inl, fun z => z.elim id fun z => nomatch z⟩
     have rel2 := Rel.put (i := i) (O := []) (e0 ▸ relh) (e0 ▸ r0) List.nodup_nil hil (fun a z => nomatch z)
     have kp2 : KeepE H Os H1 (fun j => if j = i then [] else Os1 j) fun _ => False := fun b o eb nb => by
      obtain ⟨e1, n1, n2⟩ := k1 b o eb nb
      refine ⟨e1, fun ⟨j, hj⟩ => ?_, n2⟩
      by_cases hji : j = i
      · simp only [hji, if_true] at hj; cases hj
      · simp only [hji, if_false] at hj; exact n1 ⟨j, hj⟩
     have gone : ∀ {H' : Hp} {Os' : Nat → List Addr} {O : Addr → Prop}, KeepE H Os H' Os' O → KeepE H Os H' (fun j => if j = i then [] else Os' j) O := fun kk b o eb nb => by
      obtain ⟨e1, n1, n2⟩ := kk b o eb nb
      refine ⟨e1, fun ⟨j, hj⟩ => ?_, n2⟩
      by_cases hji : j = i
      · simp only [hji, if_true] at hj; cases hj
      · simp only [hji, if_false] at hj; exact n1 ⟨j, hj⟩
     refine ⟨R, _, _, rel2, pin1.set hbs, ?_⟩
     cases hms : ms (ρ1.set i (some (.exn k e.fs e.xs))) with
     | bad => rw [hms] at post; exact post.elim
     | exc e3 ρ3 => rw [hms] at post; exact post.elim
     | bk ρ3 => rw [hms] at post; exact post.elim
     | ct ρ3 => rw [hms] at post; exact post.elim
     | nx ρ3 =>
      rw [hms] at post
      dsimp only [mGone] at post
      by_cases hx : noxE (ρ3.set i none) = true
      rotate_left
      · rw [if_neg hx] at post; exact post.elim
      rw [if_pos hx] at post
      exact fun σ' H' Os' p3 r3 k3 => post (σ'.set i none) H' _ (p3.set hbs) ((r3.drop1 i).cold hx) (gone (kp2.trans k3))
     | rt v ρ3 =>
      rw [hms] at post
      dsimp only [mGone] at post
      by_cases hx : v.nox = true ∧ noxE (ρ3.set i none) = true
      rotate_left
      · rw [if_neg hx] at post; exact post.elim
      rw [if_pos hx] at post
      intro y σ' H' Os' O p3 r3 rp3 nd3 k3
      have wk : ∀ a, WW (Rp R true O) (fun j => if j = i then [] else Os' j) a → WW (Rp R true O) Os' a := fun a z => z.imp id fun ⟨j, hj⟩ => by
       by_cases hji : j = i
       · simp only [hji, if_true] at hj; cases hj
       · simp only [hji, if_false] at hj; exact ⟨j, hj⟩
      exact post y (σ'.set i none) H' _ O (p3.set hbs) ((r3.drop1 i).cold hx.2) ((rp3.cold hx.1).weakW wk) nd3 (gone (kp2.trans k3))
   · rw [if_neg hkc] at post
     refine ⟨false, hno k C' hkc hk h8, (fun z => by cases z), fun _ => ?_⟩
     exact post (.ref C') (some dd) σ1 H1 Os1 pin1 rel1 rx k1
  | _ => rw [hcls] at post; exact post.elim
end
end VL
namespace VL
open PySem PySem.Spec PyProof.Rows L2
def mExf (cs : List Nat) (i : Nat) (f : Str) : ME := fun ρ => match ρ[i]? with
 | some (some (.exn n fs xs)) => if n ∈ cs then (match (fs.zip xs).lookup f with
  | some v => .ok v ρ
  | none => .bad) else .bad
 | _ => .bad
def XfF (G : Gam) (K : PySem.W.Frag) (cs : List Nat) (f : Str) : Prop := ∀ n C, n ∈ cs → G.fa n = some C → XfC K C ∧ PySem.W.findIn K (.ref C) f = some none
section
variable {G : Gam} {X : Cx} {E : WX}
theorem reps_look {W : Addr → Prop} {H : Hp} {f : Str} {v : Val} : ∀ {fs : List (Str × V)} {xs : List Val}, Reps G W H (fs.map (·.2)) xs [] → ((fs.map (·.1)).zip xs).lookup f = some v → ∃ x, fs.lookup f = some x ∧ Rep G W H x v []
 | [], xs, r, h => by cases r; cases h
 | (g, y) :: fs, xs, r, h => by
  cases xs with
  | nil => cases r
  | cons u us =>
   simp only [List.map_cons] at r
   obtain ⟨z, zs, e, r1, r2⟩ := r.inv0
   cases e
   simp only [List.map_cons, List.zip_cons_cons, List.lookup_cons] at h ⊢
   cases hg : f == g with
   | true => rw [hg] at h; cases h; exact ⟨_, rfl, r1⟩
   | false => rw [hg] at h; exact reps_look r2 h
theorem ve_exf {a : Addr} {oe : Obj} {cls : Value} {d : Option Addr} {pn : List (Addr × Obj)} {cs : List Nat} {i : Nat} {f x : Str} {np pos : Pos} (hG : G.hot = []) (F : XfF G X.K cs f) (hz : Zc cls d oe) (hf : ∃ vs, oe.data = .fields vs)
    (he : PE (X.suite a ((a, oe) :: pn)) (.Name x np) (tVar i)) (hb : attributeBase (.Name x np) f X.env (eval (.Name x np) X.env) = eval (.Name x np) X.env := by rfl) :
    VE (G.hott (a, cls, d)) (X.suite a ((a, oe) :: pn)) E true true (.Attribute (.Name x np) f pos) (mExf cs i f) := by
 have key : ∀ {σ : L2.St} {H : Hp} {Q : VK}, rd (G.hott (a, cls, d)) E true true (mExf cs i f) σ H Q → ∃ C n, cls = .ref C ∧ n ∈ cs ∧ G.fa n = some C ∧ tXf a cls d C f (tVar i) σ H Q := by
  intro σ H Q ⟨R, ρ, Os, rel, post⟩
  unfold mExf at post
  split at post
  rotate_left
  · exact post.elim
  rename_i n fs xs hv
  by_cases hn : n ∈ cs
  rotate_left
  · rw [if_neg hn] at post; exact post.elim
  rw [if_pos hn] at post
  cases hl : (fs.zip xs).lookup f with
  | none => rw [hl] at post; exact post.elim
  | some v =>
   rw [hl] at post
   dsimp only at post
   obtain ⟨y, hy, ry⟩ := rel.rep i _ hv
   generalize hO : Os i = Oi at ry
   cases ry with
   | @exn a' C dd fs' _ _ _ hh hc h hnm r =>
    have hh' : (a', Value.ref C, some dd) ∈ (a, cls, d) :: G.hot := hh
    rw [hG] at hh'
    have := List.mem_singleton.mp hh'
    simp only [Prod.mk.injEq] at this
    obtain ⟨e1, e2, e3⟩ := this
    subst e1
    subst hnm
    obtain ⟨z, lz, rz⟩ := reps_look r hl
    refine ⟨C, n, e2.symm, hn, hc, .ref a', hy, rfl, e2.symm, dd, fs', z, e3.symm, h.1, lz, ?_⟩
    refine post z H Os [] (rel.weak fun b w => w.elim id fun w => nomatch w.2) (rz.weakW fun b w => w.imp (fun w => w.elim id fun w => nomatch w.2) id) (fun _ => List.nodup_nil) (fun b o e nw => ⟨e, nw, fun w => nomatch w.2⟩) fun _ => ⟨rfl, rfl, fun _ _ e => e⟩
 by_cases hk : ∃ C n, cls = .ref C ∧ n ∈ cs ∧ G.fa n = some C
 · obtain ⟨C, n, rfl, hn, hc⟩ := hk
   obtain ⟨T, hno⟩ := F n C hn hc
   exact PE.pre (pe_xf (X := X) T hno hz hf he hb) fun σ H Q h => by
    obtain ⟨C', n', e, _, _, t⟩ := key h
    cases e
    exact t
 · exact ⟨fun pins s σ H Q I h => by obtain ⟨C', n', e1, e2, e3, _⟩ := key h; exact absurd ⟨C', n', e1, e2, e3⟩ hk⟩
end
end VL
namespace VL
open PySem PySem.Spec PyProof.Rows L2
section
variable {G : Gam} {X : Cx} {E : WX} {bs : List Bool} {σ0 : L2.St} {x n : Str} {i c : Nat} {C : Addr} {body suite : List Stmt} {b₀ : Stmt} {np pos pos' : Pos} {mb ms : MS}
end
end VL
namespace VL
open PySem PySem.Spec PyProof.Rows L2
def veBm : List Value := [.type "ValueError", .type "Exception", .type "BaseException", .type "object"]
def oexB (K : PySem.W.Frag) (C : Addr) : Bool := (match K.lookup C with
 | some ⟨.type "type", _, .cls cd, sl⟩ => (match cd.mro, sl.toList with
  | .ref C' :: bm, [_, _, _, _, some (.builtin n), _] => C' == C && n == "ValueError.__new__" && !cd.hasDel && cd.hasDict && PySem.HandSPX.refsVE bm
  | _, _ => false)
 | _ => false) && (decide (PySem.W.findIn K (.ref C) "__setattr__" = some (some (.builtin "object.__setattr__"))) && (decide (PySem.W.subIn K (.ref C) (.type "BaseException") = some true) && (decide (PySem.W.typeIn K (.ref C) = some (.type "type")) && PySem.W.keepIn K (.ref C))))
theorem oexB_ok {K : PySem.W.Frag} {C : Addr} (h : oexB K C = true) : OexC K C := by
 unfold oexB at h
 simp only [Bool.and_eq_true, decide_eq_true_eq] at h
 obtain ⟨q, h1, h2, h3, h4⟩ := h
 refine ⟨?_, h1, h2, h3, h4⟩
 split at q
 · rename_i dd cd sl ho
   split at q
   · rename_i C' bm k0 k1 k2 k3 n k5 hm hs
     simp only [Bool.and_eq_true, beq_iff_eq, Bool.not_eq_true'] at q
     obtain ⟨⟨⟨⟨rfl, rfl⟩, hdel⟩, hdict⟩, ht⟩ := q
     obtain ⟨nm, bs, mro, ns, qn, hd, sn, sub, ab, col, del⟩ := cd
     dsimp only at hm hdel hdict
     subst hm hdel hdict
     have hsl : sl = #[k0, k1, k2, k3, some (.builtin "ValueError.__new__"), k5] := by
      obtain ⟨l⟩ := sl
      simp only at hs
      rw [hs]
     subst hsl
     exact ⟨nm, qn, ns, bs, bm, sn, sub, ab, col, dd, k0, k1, k2, k3, k5, ho, ht⟩
   · cases q
 · cases q
def excB (C : PySem.W.Frag → Addr) (f : PySem.W.Frag → Addr) (F file : Str) (K : PySem.W.Frag) : Bool :=
 oexB K (C K) && (decide (PySem.W.findIn K (.ref (C K)) "__init__" = some (some (.ref (f K)))) && (decide (PySem.W.typeIn K (.ref (f K)) = some (.type "function")) && (decide (PySem.W.findIn K (.ref (C K)) F = some none) &&
 ((match K.lookup (f K) with
  | some ⟨_, _, .func fd, _⟩ => (match fd.code, fd.closure with
   | .ref cda, [(_, cc)] => (match K.lookup cda, K.lookup cc with
    | some ⟨_, _, .fields vs, _⟩, some ⟨_, _, .cell (some (.ref D)), _⟩ => D == C K && (match (vs[2]? : Option Value) with
     | some (Value.str y _) => decide (y = file)
     | _ => false)
    | _, _ => false)
   | _, _ => false)
  | _ => false) && ((PySem.W.clsIn K (C K)).isSome && (decide (PySem.W.mroIn K (C K) (.ref (C K)) = some true) && (decide (PySem.W.ks_superIn K (C K) (C K) "__init__" = some (some (.builtin "ValueError.__init__"))) && (decide (PySem.W.subIn K (.ref (C K)) (.type "ValueError") = some true) &&
 (PySem.W.excInitIn K (C K) veBm "ValueError.__new__" && decide (PySem.W.nsIn K PySem.cStatics "thirdparty.any" = some none))))))))))
structure ExcC (K : PySem.W.Frag) (C f : Addr) (F file : Str) : Prop where
 oex : OexC K C
 iC : PySem.W.findIn K (.ref C) "__init__" = some (some (.ref f))
 tI : PySem.W.typeIn K (.ref f) = some (.type "function")
 no : PySem.W.findIn K (.ref C) F = some none
 fn : ∃ oc od osl fd cda x cc ccl cdd vs ccs cl cld csl tf, K.lookup f = some ⟨oc, od, .func fd, osl⟩ ∧ fd.code = .ref cda ∧ fd.closure = [(x, cc)] ∧ K.lookup cda = some ⟨ccl, cdd, .fields vs, ccs⟩ ∧ vs[2]? = some (.str file tf) ∧ K.lookup cc = some ⟨cl, cld, .cell (some (.ref C)), csl⟩
 cls : ∃ cdD, PySem.W.clsIn K C = some cdD
 sub : PySem.W.mroIn K C (.ref C) = some true
 sup : PySem.W.ks_superIn K C C "__init__" = some (some (.builtin "ValueError.__init__"))
 isB : PySem.W.subIn K (.ref C) (.type "ValueError") = some true
 ini : PySem.W.excInitIn K C veBm "ValueError.__new__" = true
 stat : PySem.W.nsIn K PySem.cStatics "thirdparty.any" = some none
theorem excB_ok {C f : PySem.W.Frag → Addr} {F file : Str} {K : PySem.W.Frag} (h : excB C f F file K = true) : ExcC K (C K) (f K) F file := by
 unfold excB at h
 simp only [Bool.and_eq_true, decide_eq_true_eq] at h
 obtain ⟨h1, h2, h3, h4, q, h5, h6, h7, h8, h9, h10⟩ := h
 refine ⟨oexB_ok h1, h2, h3, h4, ?_, Option.isSome_iff_exists.mp h5, h6, h7, h8, h9, h10⟩
 split at q
 · rename_i oc od fd osl ho
   split at q
   · rename_i cda x cc hcd hcl
     split at q
     · rename_i ccl cdd vs ccs cl cld D csl e1 e2
       simp only [Bool.and_eq_true, beq_iff_eq] at q
       obtain ⟨rfl, q⟩ := q
       split at q
       · rename_i y tf e3
         simp only [decide_eq_true_eq] at q
         subst q
         exact ⟨oc, od, osl, fd, cda, x, cc, ccl, cdd, vs, ccs, cl, cld, csl, tf, ho, hcd, hcl, e1, e3, e2⟩
       · cases q
     · cases q
   · cases q
 · cases q
theorem excE_ok {CX : CXT} {P : Program} {w : World} {K : PySem.W.Frag} {mg : Str → Option Value} {base : Heap} {d : VDef} {k : Nat} {C : Addr} {F file x0 x1 m : Str} {ar : PySem.Arg} {j : Nat} {p0 p1 p2 p3 p4 p5 q0 q1 q2 q3 : Pos} {pl : Sem Bool}
    (raw : d.seen K = d.shape ∧ d.good K = true) (hcell : d.cell = true) (hdfl : d.dfl = []) (hbody : d.body = [.Expr (.Call (.Attribute (.Call (.Name "super" p0) [] [] p1) "__init__" p2) [.Constant (.str m) j p3] [] p4) p5, .Assign [.Attribute (.Name x0 q0) F q1] (.Name x1 q2) q3])
    (S : SeI x0 x1 d.scope) (T : ExcC K C (d.ad K) F file) (hP : ((P.main.file : Str) == file) = true ∧ (P.main.scope.names.lookup ("super" : Str)).isSome = false) (hm : mg "super" = none)
    (hpar : (d.params.posonlyargs ++ d.params.args).head? = some ar) (har : ar.arg = x0)
    (hbind : ∀ (kV doc pm : Value) (an : Option Addr) (cdv ct : Value) (cc : Addr) (us : List Value), us.length = 2 → bindArgs (PySem.W.ksFn d.name d.qual d.params d.body d.scope .none kV doc pm an cdv ct cc) ⟨us, []⟩ = pure ([x0, x1].zip us))
    (hd0 : (x0 == ("__debug__" : Str)) = false) (hd1 : (x1 == ("__debug__" : Str)) = false) (hc0 : (x0 == ("__classdict__" : Str)) = false) (hc1 : (x1 == ("__classdict__" : Str)) = false)
    (hs1 : ∀ env : Env, swapsWith (.Call (.Attribute (.Call (.Name "super" p0) [] [] p1) "__init__" p2) [.Constant (.str m) j p3] [] p4) none p5.line env = pure false)
    (hs2 : ∀ env : Env, swapsWith (.Name x1 q2) (some (.Attribute (.Name x0 q0) F q1)) q3.line env = pure false)
    (he : ∀ env : Env, eval (.Call (.Attribute (.Call (.Name "super" p0) [] [] p1) "__init__" p2) [.Constant (.str m) j p3] [] p4) env = (do
     let ov ← attributeBase (.Call (.Name "super" p0) [] [] p1) "__init__" env (eval (.Call (.Name "super" p0) [] [] p1) env)
     standAt p2.atName
     let (f, first) ← holding [ov] (getMethod ov "__init__" pl)
     callWith p4 f first (backTo p4 (starEach [.Constant (.str m) j p3] env)) [])) :
    ∃ fd, FnOk P w K mg base CX (k + 1) (d.ad K) fd [x0, x1] (spE K C F) ∧ Binds K fd [x0, x1] [] := by
 obtain ⟨e, g⟩ := raw
 obtain ⟨oc, od, osl, fd, cda, x, cc, ccl, cdd, vs, ccs, cl, cld, csl, tf, ho, hcd, hcl, e1, e3, e2⟩ := T.fn
 unfold VDef.seen at e
 unfold VDef.good at g
 rw [ho] at e g
 obtain ⟨n1, n2, n3, n4, n5, n6, n7, n8, n9, n10, n11, n12, n13, n14, n15⟩ := fd
 simp only [VDef.shape, hcell, if_true, Option.some.injEq, Prod.mk.injEq] at e
 dsimp only at hcd hcl
 subst hcd hcl
 obtain ⟨h1, h2, h3, h4, h5, h6, h7, h8⟩ := e
 simp only [List.map_cons, List.map_nil, List.cons.injEq, Prod.mk.injEq, and_true] at h7
 subst h1 h2 h3 h4 h5 h6 h7 h8
 simp only [Bool.and_eq_true] at g
 obtain ⟨_, k1, k3, k4⟩ := g
 have hdv : VDef.dvs K d = [] := by unfold VDef.dvs; rw [hdfl]; rfl
 rw [hdv] at k3
 have hnone : n8 = .none := by
  cases n8 <;> first | rfl | exact absurd k3 (by simp [He.dflB])
 subst hnone
 refine ⟨PySem.W.ksFn d.name d.qual d.params d.body d.scope .none n9 n10 n11 n12 (.ref cda) n14 cc, ?_, Binds.all fun us hl => hbind _ _ _ _ _ _ _ us hl⟩
 rw [hbody] at ho ⊢
 refine initE_ok (pl := pl) (cda := cda) (B := "ValueError") (ini := "ValueError.__init__") (newId := "ValueError.__new__") (bmB := veBm) (D := C) rfl ho k1 S ⟨PySem.W.kxs_ValueError, PySem.F.excBase_ValueError, ⟨_, _, _, ho⟩, hpar, ⟨_, _, _, _, _, _, e1, e3, hP.1⟩, ⟨_, _, _, e2⟩, T.cls, T.sub, hP.2, T.sup, T.isB, T.ini, T.stat⟩ har T.oex T.no hm e2 hd0 hd1 hc0 hc1 hs1 hs2 he
end VL
namespace VL
open PySem PySem.Spec PyProof.Rows L2
def PFile (P : Program) (file : Str) : Prop := ((P.main.file : Str) == file) = true ∧ (P.main.scope.names.lookup ("super" : Str)).isSome = false
theorem seI_of {x0 x1 : Str} {sc : Scope} (h1 : sc.kind = .function) (h2 : sc.isCoroutine = false) (h3 : sc.isGenerator = false) (h4 : x0 ≠ x1) (h5 : sc.names.lookup x0 = some .local) (h6 : sc.names.lookup x1 = some .local)
    (h7 : sc.names.lookup ("__class__" : Str) = some .free) (h8 : sc.names.lookup ("super" : Str) = some .globalImplicit) (h9 : ∀ y ∈ sc.names, y.2 ≠ .cell) (h10 : ∀ y ∈ sc.names, y.2 = .free → y.1 = "__class__") : SeI x0 x1 sc :=
 ⟨h1, h2, h3, h4, h5, h6, h7, h8, h9, fun y hy => h10 _ (PySem.mem_of_lookup hy) rfl⟩
end VL
namespace VL
open PySem PySem.Spec PyProof.Rows L2
structure ExmC (K : PySem.W.Frag) (L : List Str) (c : Nat) (x : Str) : Prop where
 yes : PySem.W.exmOne K (.ref (He.ga K x)) (.ref (He.ga K x)) = some true
 no : ∀ n C, n ≠ c → (L[n]?).map (He.ga K) = some C → PySem.W.typeIn K (.ref C) = some (.type "type") → PySem.W.exmOne K (.ref C) (.ref (He.ga K x)) = some false
def tExm (L : List Str) (c : Nat) (x : Str) : Ftest := fun K => decide (PySem.W.exmOne K (.ref (He.ga K x)) (.ref (He.ga K x)) = some true) && (List.range L.length).all fun n => n == c || (match (L[n]?).map (He.ga K) with
 | some C => !decide (PySem.W.typeIn K (.ref C) = some (.type "type")) || decide (PySem.W.exmOne K (.ref C) (.ref (He.ga K x)) = some false)
 | none => true)
theorem exm_ok {K : PySem.W.Frag} {L : List Str} {c : Nat} {x : Str} (h : tExm L c x K = true) : ExmC K L c x := by
 unfold tExm at h
 simp only [Bool.and_eq_true, decide_eq_true_eq] at h
 refine ⟨h.1, fun n C hn hC hT => ?_⟩
 have hl : n < L.length := by
  by_cases q : n < L.length
  · exact q
  · rw [List.getElem?_eq_none (by omega)] at hC; cases hC
 have := List.all_eq_true.mp h.2 n (List.mem_range.mpr hl)
 rw [hC] at this
 simp only [Bool.or_eq_true, beq_iff_eq, decide_eq_true_eq, hT, decide_true, Bool.not_true, Bool.false_eq_true, false_or] at this
 exact this.resolve_left hn
def tXfc (L : List Str) (cs : List Nat) (f : Str) : Ftest := fun K => cs.all fun n => match (L[n]?).map (He.ga K) with
 | some C => xfB K C && decide (PySem.W.findIn K (.ref C) f = some none)
 | none => true
theorem xf_ok {G : Gam} {K : PySem.W.Frag} {L : List Str} {cs : List Nat} {f : Str} (h : tXfc L cs f K = true) (hg : ∀ n C, G.fa n = some C → (L[n]?).map (He.ga K) = some C) : XfF G K cs f := fun n C hn hC => by
 have := List.all_eq_true.mp h n hn
 rw [hg n C hC] at this
 simp only [Bool.and_eq_true, decide_eq_true_eq] at this
 exact ⟨xfB_ok this.1, this.2⟩
end VL
namespace VL
open PySem PySem.Spec PyProof.Rows L2
section
variable {G : Gam} {X : Cx} {E : WX} {pos : Pos}
end
end VL
namespace VL
open PySem PySem.Spec PyProof.Rows L2
section
variable {G : Gam} {X : Cx}
end
end VL
namespace VL
open PySem PySem.Spec PyProof.Rows L2
section
variable {G : Gam} {X : Cx}
end
end VL
namespace VL
open PySem PySem.Spec PyProof.Rows L2
end VL
namespace VL
open PySem PySem.Spec PyProof.Rows L2
end VL
namespace VL
open PySem L2 PyProof.Rows
mutual
inductive NIs (H : Hp) : NestedKey → V → Prop
 | none : NIs H .none .non
 | num (i : Int) : NIs H (.num i) (.int i)
 | text (x : Str) : NIs H (.text x) (.str x)
 | tup {a : Addr} {ks : List NestedKey} {xs : List V} (h : H a = some (.tup xs)) (r : NAll H ks xs) : NIs H (.tup ks) (.ref a)
inductive NAll (H : Hp) : List NestedKey → List V → Prop
 | nil : NAll H [] []
 | cons {k : NestedKey} {x : V} {ks : List NestedKey} {xs : List V} (r : NIs H k x) (t : NAll H ks xs) : NAll H (k :: ks) (x :: xs)
end
section
variable {G : Gam} {W : Addr → Prop} {H H' : Hp}
mutual
theorem Rep.nis : ∀ {v : Val} {x : V} {O : List Addr} {k : NestedKey}, Rep G W H x v O → keyN v = some k → NIs H k x
 | .non, _, _, _, r, h => by simp [keyN] at h; subst h; cases r; exact .none
 | .int _, _, _, _, r, h => by simp [keyN] at h; subst h; cases r; exact .num _
 | .str _, _, _, _, r, h => by simp [keyN] at h; subst h; cases r; exact .text _
 | .tup xs, _, _, _, r, h => by
  simp only [keyN] at h
  split at h
  · rename_i ks e
    cases h
    cases r with
    | tup h1 r => exact .tup h1.1 (Reps.nall r e)
  · cases h
 | .bl _, _, _, _, _, h | .ty _, _, _, _, _, h | .cn _, _, _, _, _, h | .lst _ _, _, _, _, _, h | .dct _ _ _ _, _, _, _, _, h | .obj _ _ _ _, _, _, _, _, h | .exn _ _ _, _, _, _, _, h | .scr _, _, _, _, _, h | .wdk _ _, _, _, _, _, h | .wtp _, _, _, _, _, h | .fn _, _, _, _, _, h => by simp [keyN] at h
theorem Reps.nall : ∀ {vs : List Val} {xs : List V} {O : List Addr} {ks : List NestedKey}, Reps G W H xs vs O → keyNs vs = some ks → NAll H ks xs
 | [], _, _, _, r, h => by simp [keyNs] at h; subst h; cases r; exact .nil
 | v :: vs, _, _, _, r, h => by
  simp only [keyNs] at h
  split at h
  · rename_i k ks e1 e2
    cases h
    cases r with
    | cons r t => exact .cons (Rep.nis r e1) (Reps.nall t e2)
  · cases h
end
mutual
theorem NIs.real {P : Program} {w : World} {h : Heap} (ok : HOk P w H h) : ∀ {k : NestedKey} {x : V} {u : Value}, NIs H k x → RelV x u → NestedIs h k u
 | .none, _, _, n, r => by cases n; cases r; exact .none
 | .num i, _, _, n, r => by cases n; obtain ⟨t, rfl⟩ := r; exact .int _ _
 | .text z, _, _, n, r => by cases n; obtain ⟨t, rfl⟩ := r; exact .text _ _
 | .tup ks, _, _, n, r => by
  cases n with
  | @tup a _ xs h1 t =>
   cases r
   obtain ⟨_, its, rv, o, e1, e2, n, e3⟩ := ok a _ h1
   exact .tup e1 e2 e3 (by simpa using NAll.real ok t rv)
theorem NAll.real {P : Program} {w : World} {h : Heap} (ok : HOk P w H h) : ∀ {ks : List NestedKey} {xs : List V} {us : List Value}, NAll H ks xs → Vals xs us → NestedAll h ks us
 | [], _, _, n, r => by cases n; cases r; exact .nil
 | k :: ks, _, _, n, r => by
  cases n with
  | cons q t =>
   cases r with
   | cons r1 r2 => exact .cons (NIs.real ok q r1) (NAll.real ok t r2)
end
mutual
theorem NIs.mono (st : ∀ a xs, H a = some (.tup xs) → H' a = some (.tup xs)) : ∀ {k : NestedKey} {x : V}, NIs H k x → NIs H' k x
 | .none, _, n => by cases n; exact .none
 | .num i, _, n => by cases n; exact .num _
 | .text z, _, n => by cases n; exact .text _
 | .tup ks, _, n => by
  cases n with
  | tup h t => exact .tup (st _ _ h) (NAll.mono st t)
theorem NAll.mono (st : ∀ a xs, H a = some (.tup xs) → H' a = some (.tup xs)) : ∀ {ks : List NestedKey} {xs : List V}, NAll H ks xs → NAll H' ks xs
 | [], _, n => by cases n; exact .nil
 | k :: ks, _, n => by
  cases n with
  | cons q t => exact .cons (NIs.mono st q) (NAll.mono st t)
end
mutual
theorem keyN_inj : ∀ (v w : Val) (k : NestedKey), keyN v = some k → keyN w = some k → v = w
 | .non, w, k, h, h' => by
  simp [keyN] at h; subst h
  cases w <;> simp [keyN] at h' ⊢
  split at h' <;> cases h'
 | .int i, w, k, h, h' => by
  simp [keyN] at h; subst h
  cases w <;> simp [keyN] at h' ⊢
  · exact h'.symm
  · split at h' <;> cases h'
 | .str x, w, k, h, h' => by
  simp [keyN] at h; subst h
  cases w <;> simp [keyN] at h' ⊢
  · exact h'.symm
  · split at h' <;> cases h'
 | .tup xs, w, k, h, h' => by
  simp only [keyN] at h
  split at h
  · rename_i ks e
    cases h
    cases w <;> simp only [keyN] at h' <;> (try (cases h'; done))
    split at h'
    · rename_i ls e'
      cases h'
      rw [keyNs_inj _ _ _ e e']
    · cases h'
  · cases h
 | .bl _, _, _, h, _ | .ty _, _, _, h, _ | .cn _, _, _, h, _ | .lst _ _, _, _, h, _ | .dct _ _ _ _, _, _, h, _ | .obj _ _ _ _, _, _, h, _ | .exn _ _ _, _, _, h, _ | .scr _, _, _, h, _ | .wdk _ _, _, _, h, _ | .wtp _, _, _, h, _ | .fn _, _, _, h, _ => by simp [keyN] at h
theorem keyNs_inj : ∀ (vs ws : List Val) (ks : List NestedKey), keyNs vs = some ks → keyNs ws = some ks → vs = ws
 | [], ws, ks, h, h' => by
  simp [keyNs] at h; subst h
  cases ws with
  | nil => rfl
  | cons w ws => simp only [keyNs] at h'; split at h' <;> simp at h'
 | v :: vs, ws, ks, h, h' => by
  simp only [keyNs] at h
  split at h
  · rename_i k l e1 e2
    cases h
    cases ws with
    | nil => simp [keyNs] at h'
    | cons w ws =>
     simp only [keyNs] at h'
     split at h'
     · rename_i k' l' f1 f2
       cases h'
       rw [keyN_inj v w _ e1 f1, keyNs_inj vs ws _ e2 f2]
     · cases h'
  · cases h
end
end
mutual
theorem keyN_fz : ∀ (v : Val) (k : NestedKey), keyN v = some k → v.fz = true
 | .non, _, _ => rfl
 | .int _, _, _ => rfl
 | .str _, _, _ => rfl
 | .tup xs, k, h => by
  simp only [keyN] at h
  split at h
  · rename_i ks e; simp only [Val.fz]; exact keyNs_fz xs ks e
  · cases h
 | .bl _, _, h | .ty _, _, h | .cn _, _, h | .lst _ _, _, h | .dct _ _ _ _, _, h | .obj _ _ _ _, _, h | .exn _ _ _, _, h | .scr _, _, h | .wdk _ _, _, h | .wtp _, _, h | .fn _, _, h => by simp [keyN] at h
theorem keyNs_fz : ∀ (xs : List Val) (ks : List NestedKey), keyNs xs = some ks → fzs xs = true
 | [], _, _ => rfl
 | x :: xs, ks, h => by
  simp only [keyNs] at h
  split at h
  · rename_i k l e1 e2; simp only [fzs, keyN_fz x k e1, keyNs_fz xs l e2, Bool.and_self]
  · cases h
end
def atN (xs : List NEnt) (k : NestedKey) : Option V := (xs.find? fun x => decide (x.1 = k)).map fun x => x.2.2
def putN (xs : List NEnt) (k : NestedKey) (b : Addr) (v : V) : List NEnt := if (atN xs k).isSome then xs.map fun x => if x.1 = k then (x.1, x.2.1, v) else x else xs ++ [(k, b, v)]
section
variable {P : Program} {w : World} {H : Hp} {h : Heap} {a : Addr} {xs : List NEnt}
end
section
variable {X : Cx} {pins : List (Addr × Obj)} {σ : L2.St} {H : Hp} {s : Shared} {a : Addr} {y v : V} {u : Value} {A : Around} {E : Value → Shared → Prop}
end
section
variable {G : Gam} {W : Addr → Prop} {H : Hp}
end
end VL
namespace VL
open PySem L2
section
variable {G : Gam} {W W' : Addr → Prop} {H H' : Hp}
end
section
variable {G : Gam} {X : Cx} {E : WX} {bs : List Bool} {σ0 : L2.St} {pos pos' : Pos} {p : Bool} {m : ME}
end
end VL
namespace VL
open PySem PySem.Spec PyProof.Rows L2
section
variable {X : Cx} {kx vx tg iter : Expr} {ifs : List Expr} {scope : Scope} {own : List (Str × Nat)} {pos : Pos} {wi : TI} {g : TG} {tt : TT} {tk tv : TE} 
end
def dctN : DL → Val
 | [] => .dct true .k [] []
 | d => .dct true .n (d.map (·.1)) (d.map (·.2))
def NSt (w : World) (H : Hp) (D : Addr) (es : List NEnt) : Prop := (H D = some (ndO w D es) ∧ es ≠ []) ∨ (es = [] ∧ H D = some (.dK []))
theorem NSt.keep {w : World} {H H' : Hp} {D : Addr} {es : List NEnt} (h : NSt w H D es) (k : ∀ o, H D = some o → H' D = some o) : NSt w H' D es := h.imp (fun z => ⟨k _ z.1, z.2⟩) fun z => ⟨z.1, k _ z.2⟩
structure NRel (G : Gam) (W : Addr → Prop) (H : Hp) (es : List NEnt) (d : DL) : Prop where
 ke : (d.map (·.1)).map keyN = es.map fun x => some x.1
 kr : Reps G W H (es.map fun x => V.ref x.2.1) (d.map (·.1)) []
 vr : Reps G W H (es.map fun x => x.2.2) (d.map (·.2)) []
section
variable {G : Gam} {W : Addr → Prop} {H : Hp} {X : Cx} {E : WX} {p pk sk pv : Bool} {pos : Pos}
theorem NRel.put {es : List NEnt} {d : DL} (r : NRel G W H es d) {k v : Val} {n : NestedKey} {b : Addr} {y : V} (hk : keyN k = some n) (rk : Rep G W H (.ref b) k []) (ry : Rep G W H y v []) : NRel G W H (putN es n b y) (putD d k v) := by
 have same : ∀ (d : DL) (es : List NEnt), (d.map (·.1)).map keyN = (es.map fun x => some x.1) → (d.any fun q => decide (q.1 = k)) = (atN es n).isSome := by
  intro d
  induction d with
  | nil => intro es e; cases es with | nil => rfl | cons _ _ => cases e
  | cons q d ih =>
   intro es e
   cases es with
   | nil => cases e
   | cons q' es =>
    simp only [List.map_cons, List.cons.injEq] at e
    have i := ih es e.2
    rw [List.any_cons, i]
    by_cases h : q'.1 = n
    · have h' : q.1 = k := keyN_inj _ _ n (by rw [e.1, h]) hk
      simp [atN, h, h']
    · have h' : ¬ q.1 = k := fun z => h (by rw [z, hk] at e; exact (Option.some.inj e.1).symm)
      simp [atN, h, h']
 unfold putN putD
 rw [same d es r.ke]
 split
 · have go : ∀ (d : DL) (es : List NEnt), NRel G W H es d → NRel G W H (es.map fun x => if x.1 = n then (x.1, x.2.1, y) else x) (d.map fun q => if q.1 = k then (q.1, v) else q) := by
     intro d
     induction d with
     | nil => intro es r; cases es with
      | nil => exact ⟨rfl, .nil, .nil⟩
      | cons _ _ => exact absurd r.ke (by simp)
     | cons q d ih => intro es r; cases es with
      | nil => exact absurd r.ke (by simp)
      | cons q' es =>
       obtain ⟨e, rk', rv⟩ := r
       simp only [List.map_cons, List.cons.injEq] at e rk' rv
       obtain ⟨y1, ys1, e1, r1, r2⟩ := rv.inv0
       obtain ⟨z1, zs1, e2, t1, t2⟩ := rk'.inv0
       simp only [List.cons.injEq] at e1 e2
       obtain ⟨rfl, rfl⟩ := e1
       obtain ⟨rfl, rfl⟩ := e2
       obtain ⟨i0, i1, i2⟩ := ih es ⟨e.2, t2, r2⟩
       by_cases h : q'.1 = n
       · have h' : q.1 = k := keyN_inj _ _ n (by rw [e.1, h]) hk
         refine ⟨?_, ?_, ?_⟩
         · simp only [List.map_cons, if_pos h, if_pos h']
           exact congr (congrArg List.cons e.1) i0
         · simp only [List.map_cons, if_pos h, if_pos h']
           exact .cons (O := []) (O' := []) t1 i1
         · simp only [List.map_cons, if_pos h, if_pos h']
           exact .cons (O := []) (O' := []) ry i2
       · have h' : ¬ q.1 = k := fun z => h (by rw [z, hk] at e; exact (Option.some.inj e.1).symm)
         refine ⟨?_, ?_, ?_⟩
         · simp only [List.map_cons, if_neg h, if_neg h']
           exact congr (congrArg List.cons e.1) i0
         · simp only [List.map_cons, if_neg h, if_neg h']
           exact .cons (O := []) (O' := []) t1 i1
         · simp only [List.map_cons, if_neg h, if_neg h']
           exact .cons (O := []) (O' := []) r1 i2
   exact go d es r
 · refine ⟨by simp [r.ke, hk], ?_, ?_⟩
   · simp only [List.map_append, List.map_cons, List.map_nil]
     exact r.kr.append (.cons (O := []) (O' := []) rk .nil)
   · simp only [List.map_append, List.map_cons, List.map_nil]
     exact r.vr.append (.cons (O := []) (O' := []) ry .nil)
theorem NRel.len {es : List NEnt} {d : DL} (r : NRel G W H es d) : es.length = d.length := by
 have := congrArg List.length r.ke
 simpa using this.symm
theorem NRel.mono {W' : Addr → Prop} {H' : Hp} {es : List NEnt} {d : DL} (r : NRel G W H es d) (k : Keep W H W' H') : NRel G W' H' es d := .mk r.ke (r.kr.mono k fun a ha => nomatch ha) (r.vr.mono k fun a ha => nomatch ha)
theorem NRel.made {es : List NEnt} {d : DL} {D : Addr} (r : NRel G W H es d) (h : NSt G.w H D es) : Rep G W H (.ref D) (dctN d) [D] := by
 cases d with
 | nil =>
  have : es = [] := by have := r.len; simpa using this
  subst this
  rcases h with h | ⟨_, h⟩
  · exact absurd rfl h.2
  · exact .dkO (kvs := []) h rfl .nil
 | cons q d =>
  rcases h with h | ⟨h, _⟩
  · exact .dnO h.1 r.kr r.ke r.vr
  · subst h; have := r.len; simp at this
def semRev : List Val → Option Val
 | [.lst _ xs] => if fzs xs = true then some (.lst true xs.reverse) else none
 | _ => none
theorem Reps.rev {xs : List V} {vs : List Val} (r : Reps G W H xs vs []) : Reps G W H xs.reverse vs.reverse [] := by
 induction vs generalizing xs with
 | nil => cases r; exact .nil
 | cons v vs ih =>
  obtain ⟨x, xs, rfl, r1, r2⟩ := r.inv0
  simp only [List.reverse_cons]
  exact (ih r2).append (.cons (O := []) (O' := []) r1 .nil)
theorem ve_revL {e : Expr} {m : ME} {ps s : Bool} {k : Nat} {p1 p2 p3 : Pos} (hK : X.K = G.K) (h : VE G X E ps s e m) : VE G X E ps true (.Subscript e (.Slice none none (some (.UnaryOp .USub (.Constant (.int 1) k p1) p2)) p3) pos) (mFun semRev [m]) := by
 have := ve_fun (G := G) (E := E) (os := [⟨ps, s, m⟩]) (pe_revL (pos := pos) (k := k) (p1 := p1) (p2 := p2) (p3 := p3) h) (r := fun xs H Q => match xs with
  | [x] => ∃ a xs, x = .ref a ∧ SqL X.K H a xs ∧ ∀ p, H p = none → Q (.ref p) (upd H p (.lst xs.reverse))
  | _ => False) (fun σ H Q z => z) (sem := semRev) (fun W H xs vs Ol v Q w r hs mk => by
   unfold semRev at hs
   split at hs
   · obtain ⟨x, O, rfl, r1⟩ := r.inv1
     split at hs
     · rename_i hf
       cases hs
       obtain ⟨a, ys, O1, rfl, e1, q1⟩ := rep_lstL r1
       exact ⟨a, ys, rfl, .inl (.inl e1), mk.lst (q1.fz hf).rev⟩
     · cases hs
   · cases hs) wf1
 simpa using this
end
end VL
namespace VL
open PySem PySem.Spec PyProof.Rows L2
section
open Builtin Builtin.ObjectAttr
variable {pr : Program} {w : World} {A : Around} {R : Result → Shared → Prop} {hp : Heap} {gs : Array GenState} {dr : Drawn} {tn : Nat} {os : OsState}
end
section
variable {B ini nid : String} {bmB : List Value} {X : Cx} {pins : List (Addr × Obj)} {σ : L2.St} {H : Hp} {s : Shared} {a C dx : Addr} {f : Str} {y : V} {u : Value} {Q : Unit → Shared → Prop} {E : Value → Shared → Prop} {A : Around}
end
section
variable {B ini nid : String} {bmB : List Value} {G : Gam} {X : Cx} {E : WX} {bs : List Bool} {σ0 : L2.St} {p : Bool} {m : ME} {n k : Nat} {x F : Str} {C fI : Addr} {fd : FuncData} {ps : List Str} {e : Expr} {pn pos pos' : Pos}
end
end VL
namespace VL
open PySem PySem.Spec PyProof.Rows L2
end VL
namespace VL
open PySem PySem.Spec PyProof.Rows L2
inductive Fst where
 | f (cs : List Nat) (n : Str) | j (k : Int)
def FNav (K : PySem.W.Frag) (H : Hp) : List Fst → V → V → Prop
 | [], x, y => x = y
 | .f _ n :: r, x, y => ∃ a C dx fs z, x = .ref a ∧ H a = some (.ins C dx fs) ∧ Cls K C ∧ NoAttr K C n ∧ fs.lookup n = some z ∧ FNav K H r z y
 | .j k :: r, x, y => ∃ a xs z, x = .ref a ∧ (H a = some (.tup xs) ∨ H a = some (.lst xs)) ∧ L2.atI xs k = some z ∧ FNav K H r z y
theorem FNav.app {K : PySem.W.Frag} {H : Hp} {y : V} : ∀ {r r' : List Fst} {x : V}, FNav K H (r ++ r') x y → ∃ z, FNav K H r x z ∧ FNav K H r' z y
 | [], r', x, h => ⟨x, rfl, h⟩
 | .f cs n :: r, r', x, ⟨a, C, dx, fs, z, h1, h2, h3, h4, h5, h6⟩ => by
  obtain ⟨u, g1, g2⟩ := FNav.app (r := r) h6
  exact ⟨u, ⟨a, C, dx, fs, z, h1, h2, h3, h4, h5, g1⟩, g2⟩
 | .j k :: r, r', x, ⟨a, xs, z, h1, h2, h3, h4⟩ => by
  obtain ⟨u, g1, g2⟩ := FNav.app (r := r) h4
  exact ⟨u, ⟨a, xs, z, h1, h2, h3, g1⟩, g2⟩
theorem FNav.kept {K : PySem.W.Frag} {H H' : Hp} (k1 : ∀ a C dx fs, H a = some (.ins C dx fs) → H' a = some (.ins C dx fs)) (k2 : ∀ a xs, H a = some (.tup xs) → H' a = some (.tup xs)) (k3 : ∀ a xs, H a = some (.lst xs) → H' a = some (.lst xs)) : ∀ {r : List Fst} {x y : V}, FNav K H r x y → FNav K H' r x y
 | [], _, _, h => h
 | .f cs n :: r, x, y, ⟨a, C, dx, fs, z, h1, h2, h3, h4, h5, h6⟩ => ⟨a, C, dx, fs, z, h1, k1 _ _ _ _ h2, h3, h4, h5, FNav.kept k1 k2 k3 h6⟩
 | .j i :: r, x, y, ⟨a, xs, z, h1, h2, h3, h4⟩ => ⟨a, xs, z, h1, h2.imp (k2 _ _) (k3 _ _), h3, FNav.kept k1 k2 k3 h4⟩
theorem FNav.inj {K : PySem.W.Frag} {H : Hp} : ∀ {r : List Fst} {x y y' : V}, FNav K H r x y → FNav K H r x y' → y = y'
 | [], _, _, _, h, h' => h.symm.trans h'
 | .f cs n :: r, x, y, y', ⟨a, C, dx, fs, z, h1, h2, h3, h4, h5, h6⟩, ⟨a', C', dx', fs', z', g1, g2, g3, g4, g5, g6⟩ => by
  rw [h1] at g1; cases g1
  rw [h2] at g2; cases g2
  rw [h5] at g5; cases g5
  exact FNav.inj h6 g6
 | .j i :: r, x, y, y', ⟨a, xs, z, h1, h2, h3, h4⟩, ⟨a', xs', z', g1, g2, g3, g4⟩ => by
  rw [h1] at g1; cases g1
  have e : xs' = xs := by
   rcases h2 with q | q <;> rcases g2 with q' | q' <;> rw [q] at q' <;> cases q' <;> rfl
  subst e
  rw [h3] at g3; cases g3
  exact FNav.inj h4 g4
section
variable {X : Cx} {o : Expr} {i : Nat} {r : List Fst} {pos : Pos}
end
section
variable {G : Gam} {W : Addr → Prop} {H : Hp}
end
structure Xn (d : Addr) (u : HO) (H H' : Hp) : Prop where
 off : ∀ a, a ≠ d → H' a = H a
 old : Rd H d u
 new : Rd H' d u
section
variable {G : Gam} {W : Addr → Prop} {H H' : Hp} {d : Addr} {P : Heap → Prop}
theorem Xn.at (X : Xn d (.ext P) H H') {a : Addr} {o : HO} (h : H a = some o) (h1 : o ≠ .ext P) (h2 : ∀ od, o ≠ .frz od (.ext P)) : H' a = some o := by
 rw [X.off a fun z => ?_]; exact h
 subst z
 rcases X.old with e | ⟨od, e⟩
 · rw [h] at e; cases e; exact h1 rfl
 · rw [h] at e; cases e; exact h2 _ rfl
theorem Xn.fz (X : Xn d (.ext P) H H') {a : Addr} {o : HO} (h : Fz W H a o) (h1 : o ≠ .ext P) (h2 : ∀ od, o ≠ .frz od (.ext P)) : Fz W H' a o := ⟨X.at h.1 h1 h2, h.2⟩
theorem Xn.fd (X : Xn d (.ext P) H H') {a : Addr} {u : HO} (hu : ∀ od v, u ≠ .frz od v) (h : Fd W H a u) : Fd W H' a u := by
 refine ⟨?_, h.2⟩
 by_cases e : a = d
 · subst e
   have : u = .ext P := by
    rcases h.1 with q | ⟨o, q⟩ <;> rcases X.old with r | ⟨o', r⟩ <;> rw [q] at r
    · exact Option.some.inj r
    · exact absurd (Option.some.inj r) (hu _ _)
    · cases r
    · cases r; rfl
   subst this
   exact X.new
 · rcases h.1 with q | ⟨o, q⟩
   · exact .inl ((X.off a e).trans q)
   · exact .inr ⟨o, (X.off a e).trans q⟩
mutual
theorem Rep.xn {x : V} {v : Val} {O : List Addr} (r : Rep G W H x v O) (X : Xn d (.ext P) H H') (nd : d ∉ O) : Rep G W H' x v O := by
 cases r with
 | non => exact .non
 | bl b => exact .bl b
 | int i => exact .int i
 | str x => exact .str x
 | ty n => exact .ty n
 | cn h => exact .cn h
 | fn h => exact .fn h
 | tup h r => exact .tup (X.fz h (fun z => nomatch z) fun _ z => nomatch z) (r.xn X nd)
 | wtp h r => exact .wtp h (r.xn X fun z => nomatch z)
 | lstO h r => exact .lstO (X.at h (fun z => nomatch z) fun _ z => nomatch z) (r.xn X fun z => nd (List.mem_cons_of_mem _ z))
 | lstF h r => exact .lstF (X.fz h (fun z => nomatch z) fun _ z => nomatch z) (r.xn X fun z => nomatch z)
 | scr h => exact .scr (h.imp (fun ⟨o, e, nw⟩ => ⟨o, X.at e (fun z => nomatch z) (fun _ z => nomatch z), nw⟩) id)
 | wdk h hk r => exact .wdk h hk (r.xn X fun z => nomatch z)
 | dkO h hk r => exact .dkO (X.at h (fun z => nomatch z) fun _ z => nomatch z) hk (r.xn X fun z => nd (List.mem_cons_of_mem _ z))
 | dkF h hk r => exact .dkF (X.fd (fun _ _ z => nomatch z) h) hk (r.xn X fun z => nomatch z)
 | dtO h hk r => exact .dtO (X.at h (fun z => nomatch z) fun _ z => nomatch z) hk (r.xn X fun z => nd (List.mem_cons_of_mem _ z))
 | dtF h hk r => exact .dtF (X.fz h (fun z => nomatch z) fun _ z => nomatch z) hk (r.xn X fun z => nomatch z)
 | dnO h hk hn r => exact .dnO ((X.off _ fun z => nd (z ▸ List.mem_cons_self)).trans h) (hk.xn X fun z => nomatch z) hn (r.xn X fun z => nd (List.mem_cons_of_mem _ z))
 | dnF h hk hn r => exact .dnF (X.fd (fun _ _ z => nomatch z) h) (hk.xn X fun z => nomatch z) hn (r.xn X fun z => nomatch z)
 | objO h hc hn r => exact .objO (X.at h (fun z => nomatch z) fun _ z => nomatch z) hc hn (r.xn X fun z => nd (List.mem_cons_of_mem _ z))
 | objF h hc hn r => exact .objF (X.fz h (fun z => nomatch z) fun _ z => nomatch z) hc hn (r.xn X fun z => nomatch z)
 | exn hh hc h hn r => exact .exn hh hc ⟨X.at h.1 (fun z => nomatch z) (fun _ z => nomatch z), h.2⟩ hn (r.xn X fun z => nomatch z)
theorem Reps.xn {xs : List V} {vs : List Val} {O : List Addr} (r : Reps G W H xs vs O) (X : Xn d (.ext P) H H') (nd : d ∉ O) : Reps G W H' xs vs O := by
 cases r with
 | nil => exact .nil
 | cons r t => exact .cons (r.xn X fun z => nd (List.mem_append_left _ z)) (t.xn X fun z => nd (List.mem_append_right _ z))
end
theorem Rel.xn {R : Addr → Prop} {σ : L2.St} {ρ : VEnv} {Os : Nat → List Addr} (r : Rel G R H σ ρ Os) (X : Xn d (.ext P) H H') (nd : ¬ We Os d) : Rel G R H' σ ρ Os := by
 refine ⟨r.len, fun i v hv => ?_, r.nil, r.nd, r.dj, r.dr, fun a ha => ?_⟩
 · obtain ⟨x, hx, q⟩ := r.rep i v hv
   exact ⟨x, hx, q.xn X fun z => nd ⟨i, z⟩⟩
 · by_cases e : a = d
   · subst e
     rcases X.new with q | ⟨o, q⟩ <;> exact ⟨_, q⟩
   · rw [X.off a e]; exact r.rt a ha
end
section
variable {G : Gam} {X : Cx} {E : WX} {e tg : Expr} {m : ME} {i : Nat} {r : List Fst} {p : Bool}
end
end VL
namespace VL
open PySem PySem.Spec PyProof.Rows L2
section
variable {X : Cx} {pins : List (Addr × Obj)} {σ : L2.St} {H : Hp} {s : Shared} {d : Addr} {o : Obj} {w' : World} {xs : List NEnt}
end
section
variable {P : Program} {w : World} {K : PySem.W.Frag} {tg : Expr} {d : Addr} {o : Obj} {es : Array DictEntry} {ep : Nat} {w' : World} {xs : List NEnt}
end
section
variable {X : Cx} {tg e : Expr} {td : TE} {apos cpos : Pos}
end
section
variable {G : Gam} {W : Addr → Prop} {H : Hp} {d : Addr} {o : Obj} {w : World} {xs : List NEnt} {ks vs : List Val}
end
section
variable {G : Gam} {X : Cx} {E : WX} {e tg : Expr} {m : ME} {i : Nat} {r : List Fst} {p : Bool}
end
section
variable {G : Gam} {X : Cx} {E : WX} {p : Bool} {pos : Pos}
end
section
variable {G : Gam} {K : PySem.W.Frag} {r : List Fst}
end
end VL
namespace VL
open PySem PySem.W HandSHeadRun
def RunOf {β : Type} (r : OpenRow) (M : Nat) (w : World) (f : SharedT → β) (b : β) : Prop := ∀ os : OsState, (endF (stepQ (denQ tabQ) r.prog w) M r.prog w os).map f = some b
section
variable {n : Nat} {fa : List (Frag → Bool)} {fn : List VDef} {ts : List He.Tab}
theorem obs_parts (g : Addr → Option Obj) : obsWG n fa fn ts g = (((obsWG n fa [] ts g).1.1 && (obsWG n [] fn [] g).1.1, (obsWG n [] fn [] g).1.2), (obsWG n fa [] ts g).2) := by
 obtain ⟨K, _, e⟩ := withK_ok g n
 unfold obsWG
 rw [e, e, e]
 simp [obsW, obsV]
theorem run_parts {r : OpenRow} {q : Program} {M : Nat} {loose : List PySem.Str} {w : World}
    (h0 : RunOf r M w (fun s => (looksF r.prog (boot_heap w.params) s.abs, seenQ q loose (importedModules r.prog.main.body) (fun s => xlAt q [] s && recOk r.toRowW.records s) s.abs)) (true, openGood q loose))
    (h1 : RunOf r M w (fun s => obsWG n fa [] ts (getT s)) (valW [] ts w)) (h2 : RunOf r M w (fun s => obsWG n [] fn [] (getT s)) (valW fn [] w)) :
    RunEq r q (hookW n fa fn ts) (fun s => obsWG n fa fn ts (getT s)) M loose w := fun os => by
 have e0 := h0 os
 have e1 := h1 os
 have e2 := h2 os
 cases hx : endF (stepQ (denQ tabQ) r.prog w) M r.prog w os with
 | none => rw [hx] at e0; cases e0
 | some s =>
  rw [hx] at e0 e1 e2
  have e0 := Option.some.inj e0
  have e1 : obsWG n fa [] ts (getT s) = valW [] ts w := Option.some.inj e1
  have e2 : obsWG n [] fn [] (getT s) = valW fn [] w := Option.some.inj e2
  show some (_, _, obsWG n fa fn ts (getT s)) = some (true, openGood q loose, valW fn ts w)
  rw [obs_parts, e1, e2]
  simp only [Prod.mk.injEq] at e0
  rw [e0.1, e0.2]
  simp [valW]
abbrev RunL (r : OpenRow) (q : Program) (M : Nat) (loose : List PySem.Str) (w : World) : Prop := RunOf r M w (fun s => (looksF r.prog (boot_heap w.params) s.abs, seenQ q loose (importedModules r.prog.main.body) (fun s => xlAt q [] s && recOk r.toRowW.records s) s.abs)) (true, openGood q loose)
abbrev RunA (r : OpenRow) (n : Nat) (fa : List (Frag → Bool)) (ts : List He.Tab) (M : Nat) (w : World) : Prop := RunOf r M w (fun s => obsWG n fa [] ts (getT s)) (valW [] ts w)
abbrev RunN (r : OpenRow) (n : Nat) (fn : List VDef) (M : Nat) (w : World) : Prop := RunOf r M w (fun s => obsWG n [] fn [] (getT s)) (valW fn [] w)
theorem runN_join {r : OpenRow} {M : Nat} {w : World} (k : Nat) (h1 : RunN r n (fn.take k) M w) (h2 : RunN r n (fn.drop k) M w) : RunN r n fn M w := fun os => by
 have e1 := h1 os
 have e2 := h2 os
 cases hx : endF (stepQ (denQ tabQ) r.prog w) M r.prog w os with
 | none => rw [hx] at e1; cases e1
 | some s =>
  rw [hx] at e1 e2
  have e1 : obsWG n [] (fn.take k) [] (getT s) = valW (fn.take k) [] w := Option.some.inj e1
  have e2 : obsWG n [] (fn.drop k) [] (getT s) = valW (fn.drop k) [] w := Option.some.inj e2
  show some (obsWG n [] fn [] (getT s)) = some (valW fn [] w)
  obtain ⟨K, _, e⟩ := withK_ok (getT s) n
  unfold obsWG at e1 e2 ⊢
  rw [e] at e1 e2 ⊢
  simp only [obsW, obsV, valW, List.all_nil, Bool.true_and, Prod.mk.injEq, List.map_nil, and_true] at e1 e2 ⊢
  obtain ⟨a1, b1⟩ := e1
  obtain ⟨a2, b2⟩ := e2
  rw [← List.take_append_drop k fn, List.all_append, List.map_append, List.map_append, a1, a2, b1, b2]
  rfl
end
end VL
namespace VL
open PySem PySem.Spec PyProof.Rows L2
section
variable {X : Cx} {pins : List (Addr × Obj)} {σ : L2.St} {H : Hp} {s : Shared}
end
section
variable {X : Cx}
end
section
variable {G : Gam}
end
section
variable {G : Gam} {X : Cx} {E : WX} {o : Expr} {i : Nat} {r : List Stp} {pos apos : Pos}
end
end VL
namespace VL
open PySem L2
mutual
def noL : Val → Bool
 | .non => true
 | .bl _ => true
 | .int _ => true
 | .str _ => true
 | .ty _ => true
 | .tup xs => noLs xs
 | .dct _ _ ks vs => noLs ks && noLs vs
 | _ => false
def noLs : List Val → Bool
 | [] => true
 | x :: xs => noL x && noLs xs
end
section
variable {G : Gam} {W W' : Addr → Prop} {H : Hp} {P : Addr → Prop}
theorem fz_wider (hP : ∀ a, P a → ∃ xs, H a = some (.lst xs)) (sub : ∀ a, W' a → W a ∨ P a) {a : Addr} {u : HO} (nl : ∀ xs, u ≠ .lst xs) (h : Fz W H a u) : Fz W' H a u := by
 refine ⟨h.1, fun z => ?_⟩
 rcases sub a z with z | z
 · exact h.2 z
 · obtain ⟨xs, e⟩ := hP a z
   rw [h.1] at e
   exact nl xs (Option.some.inj e)
theorem fd_wider (hP : ∀ a, P a → ∃ xs, H a = some (.lst xs)) (sub : ∀ a, W' a → W a ∨ P a) {a : Addr} {u : HO} (nl : ∀ xs, u ≠ .lst xs) (h : Fd W H a u) : Fd W' H a u := by
 refine ⟨h.1, fun z => ?_⟩
 rcases sub a z with z | z
 · exact h.2 z
 · obtain ⟨xs, e⟩ := hP a z
   rcases h.1 with q | ⟨o, q⟩
   · rw [q] at e; exact nl xs (Option.some.inj e)
   · rw [q] at e; cases e
mutual
theorem Rep.wider (hP : ∀ a, P a → ∃ xs, H a = some (.lst xs)) (sub : ∀ a, W' a → W a ∨ P a) : ∀ {v : Val} {x : V} {O : List Addr}, noL v = true → Rep G W H x v O → Rep G W' H x v O
 | .non, _, _, _, r => by cases r; exact .non
 | .bl _, _, _, _, r => by cases r; exact .bl _
 | .int _, _, _, _, r => by cases r; exact .int _
 | .str _, _, _, _, r => by cases r; exact .str _
 | .ty _, _, _, _, r => by cases r; exact .ty _
 | .tup xs, _, _, h, r => by
  cases r with
  | tup h1 r => exact .tup (fz_wider hP sub (fun _ z => nomatch z) h1) (Reps.wider hP sub (by simpa [noL] using h) r)
 | .dct o c ks vs, _, _, h, r => by
  simp only [noL, Bool.and_eq_true] at h
  cases r with
  | dkO h1 hk r => exact .dkO h1 hk (Reps.wider hP sub h.2 r)
  | dkF h1 hk r => exact .dkF (fd_wider hP sub (fun _ z => nomatch z) h1) hk (Reps.wider hP sub h.2 r)
  | dtO h1 hk r => exact .dtO h1 hk (Reps.wider hP sub h.2 r)
  | dtF h1 hk r => exact .dtF (fz_wider hP sub (fun _ z => nomatch z) h1) hk (Reps.wider hP sub h.2 r)
  | dnO h1 hk hn r => exact .dnO h1 (Reps.wider hP sub h.1 hk) hn (Reps.wider hP sub h.2 r)
  | dnF h1 hk hn r => exact .dnF (fd_wider hP sub (fun _ z => nomatch z) h1) (Reps.wider hP sub h.1 hk) hn (Reps.wider hP sub h.2 r)
 | .cn _, _, _, h, _ | .lst _ _, _, _, h, _ | .obj _ _ _ _, _, _, h, _ | .exn _ _ _, _, _, h, _ | .scr _, _, _, h, _ | .wdk _ _, _, _, h, _ | .wtp _, _, _, h, _ | .fn _, _, _, h, _ => by simp [noL] at h
theorem Reps.wider (hP : ∀ a, P a → ∃ xs, H a = some (.lst xs)) (sub : ∀ a, W' a → W a ∨ P a) : ∀ {vs : List Val} {xs : List V} {O : List Addr}, noLs vs = true → Reps G W H xs vs O → Reps G W' H xs vs O
 | [], _, _, _, r => by cases r; exact .nil
 | v :: vs, _, _, h, r => by
  simp only [noLs, Bool.and_eq_true] at h
  cases r with
  | cons r t => exact .cons (Rep.wider hP sub h.1 r) (Reps.wider hP sub h.2 t)
end
end
mutual
theorem frz_fz0 : ∀ v : Val, v.frz.fz = true
 | .tup xs => by simp only [Val.frz, Val.fz]; exact frzs_fz0 xs
 | .lst o xs => by simp [Val.frz, Val.fz, frzs_fz0 xs]
 | .dct o c ks vs => by simp [Val.frz, Val.fz, frzs_fz0 vs]
 | .obj o n fs xs => by simp [Val.frz, Val.fz, frzs_fz0 xs]
 | .non | .bl _ | .int _ | .str _ | .ty _ | .cn _ | .exn _ _ _ | .scr _ | .wdk _ _ | .wtp _ | .fn _ => by simp [Val.frz, Val.fz]
theorem frzs_fz0 : ∀ vs : List Val, fzs (frzs vs) = true
 | [] => rfl
 | v :: vs => by simp only [frzs, fzs, frz_fz0 v, frzs_fz0 vs, Bool.and_self]
end
section
variable {G : Gam} {X : Cx} {E : WX} {e : Expr} {i : Nat} {s : Bool} {m : ME}
end
end VL
namespace VL
open PySem PySem.Spec PyProof.Rows L2
section
variable {X : Cx}
end
section
variable {G : Gam}
end
end VL
namespace VL
open PySem PySem.Spec PyProof.Rows L2
section
variable {X : Cx} {pins : List (Addr × Obj)} {a : Addr} {cls : Value} {d : Option Addr} {σ : L2.St} {H : Hp} {B : Heap} {sI s : Shared}
structure Here (X : Cx) (pins : List (Addr × Obj)) (a : Addr) (cls : Value) (d : Option Addr) (σ : L2.St) (H : Hp) (B : Heap) (sI s : Shared) : Prop where
 inv : Inv X pins σ H sI
 out : ∀ c q, sI.heap.get? c = some q → c ∉ frs X.stack → B.get? c = some q
 up : sI.heap.UpToSlots s.heap
 fly : HandSPX.FlyingZ B (X.env :: X.outer) a (Zc cls d) s.heap
 off : H a = none
 os : s.os = sI.os
 gens : AllBare s.gens
theorem Here.apart (hf : X.env.frame = some X.env.locals) (T : Here X pins a cls d σ H B sI s) : a ≠ X.env.locals ∧ a ∉ X.fs := by
 obtain ⟨oe, vs, he, _, hd⟩ := T.fly.there
 have key : a ∉ frs (X.env :: X.outer) := by
  intro hm
  obtain ⟨o, q, e, hn⟩ := T.fly.2.2.1.mem hm
  cases he.symm.trans e
  exact hn _ hd
 constructor
 · intro e
   exact key (List.mem_filterMap.mpr ⟨X.env, List.mem_cons_self, by rw [hf, e]⟩)
 · intro hm
   obtain ⟨v, hv, q⟩ := List.mem_filterMap.mp hm
   exact key (List.mem_filterMap.mpr ⟨v, List.mem_cons_of_mem _ hv, q⟩)
end
section
variable {X : Cx} {x y n : Str} {c e : Value} {i : Nat} {body su sv : List Stmt} {b₀ c₀ : Stmt} {np nq ps pt pos : Pos} {tb : WX → TS} {ts tu : Addr → Value → Option Addr → TS} {Wout : WX}
end
section
variable {G : Gam} {X : Cx} {E : WX} {bs : List Bool} {σ0 : L2.St} {x y n : Str} {i c1 c2 : Nat} {C C2 : Addr} {body su sv : List Stmt} {b₀ c₀ : Stmt} {np nq ps pt pos : Pos} {mb m1 m2 : MS}
end
end VL
namespace VL
open PySem PySem.Spec PyProof.Rows L2
section
variable {G : Gam} {X : Cx} {E : WX} {o e f : Expr} {s1 s2 s3 : Bool} {m1 m2 m3 : ME} {pos apos : Pos}
theorem Rd.same {H H' : Hp} {a : Addr} {u : HO} (h : Rd H a u) (s : Same H H') : Rd H' a u := h.elim (fun z => .inl (s _ _ z)) fun ⟨o, z⟩ => .inr ⟨o, s _ _ z⟩
end
end VL
namespace VL
open PySem PySem.Spec PyProof.Rows L2
section
variable {G : Gam} {X : Cx} {E : WX} {o e : Expr} {p1 p2 s1 s2 : Bool} {m1 m2 : ME} {pos apos : Pos}
end
end VL
namespace VL
open PySem PySem.Spec PyProof.Rows L2
section
variable {X : Cx}
end
section
variable {G : Gam} {X : Cx} {E : WX} {e : Expr} {p s : Bool} {m : ME}
end
end VL
namespace VL
open PySem PySem.Spec PyProof.Rows L2
section
variable {X : Cx} {e : Expr} {te : TE} {p apos cpos pos : Pos}
end
section
variable {G : Gam} {X : Cx} {E : WX} {e : Expr} {pu s : Bool} {m : ME} {p apos cpos pos : Pos}
end
open ClX
section
variable {G : Gam} {X : Cx} {E : WX} {o : Expr} {C f : Addr} {m : Str} {p : Addr} {apos pos : Pos}
end
section
variable {X : Cx}
end
section
variable {G : Gam} {X : Cx}
end
end VL
namespace VL
open PySem PySem.Spec PyProof.Rows L2
section
variable {G : Gam} {X : Cx} {E : WX} {pos : Pos} {k e v : Expr} {p s pk pv : Bool} {m mk mv : ME}
end
end VL
namespace VL
open PySem PySem.Spec PyProof.Rows L2
section
variable {G : Gam} {X : Cx} {E : WX} {o e : Expr} {p1 s1 s2 : Bool} {m1 m2 : ME} {pos apos : Pos}
end
end VL
namespace VL
open PySem PySem.Spec PyProof.Rows L2
section
variable {X : Cx} {e : Expr} {te : TE}
end
section
variable {G : Gam} {X : Cx} {E : WX} {e : Expr} {m : ME} {p : Bool} {elts : List Expr} {kk : Nat} {tpos apos cpos : Pos}
end
end VL
namespace VL
open PySem PySem.Spec PyProof.Rows L2 HotX L2H
end VL
set_option maxHeartbeats 2000000
namespace VL
open PySem PySem.Spec PyProof.Rows L2 HotX L2H
section
variable {X : Cx} {pins : List (Addr × Obj)} {σ : L2.St} {H : Hp} {s s' : Shared} {i : Nat} {n : Str} {np : Pos}
end
end VL
set_option maxHeartbeats 4000000
namespace VL
open PySem PySem.Spec PyProof.Rows L2
section
variable {X : Cx}
end
section
variable {G : Gam}
end
section
variable {G : Gam} {X : Cx} {E : WX}
end
end VL
namespace VL
open PySem PySem.Spec PyProof.Rows L2
section
variable {G : Gam} {X : Cx} {E : WX} {o : Expr} {i : Nat} {r : List Stp} {pos apos : Pos}
theorem Reps.parted {W : Addr → Prop} {H : Hp} : ∀ {vs ws : List Val} {xs : List V} {O : List Addr}, Reps G W H xs (vs ++ ws) O → ∃ xs1 xs2 O1 O2, xs = xs1 ++ xs2 ∧ O = O1 ++ O2 ∧ Reps G W H xs1 vs O1 ∧ Reps G W H xs2 ws O2
 | [], ws, xs, O, r => ⟨[], xs, [], O, rfl, rfl, .nil, r⟩
 | v :: vs, ws, xs, O, r => by
  rw [List.cons_append] at r
  cases r with
  | cons r t =>
   obtain ⟨xs1, xs2, O1, O2, rfl, rfl, r1, r2⟩ := Reps.parted t
   exact ⟨_ :: xs1, xs2, _ ++ O1, O2, rfl, by simp, .cons r r1, r2⟩
end
section
variable {X : Cx}
end
section
variable {G : Gam} {X : Cx} {E : WX} {f : Int → List Int → Int}
end
end VL
namespace VL
open PySem PySem.Spec PyProof.Rows L2
section
variable {P : Program} {w : World} {K : PySem.W.Frag} {d : Addr} {o : Obj} {es : Array DictEntry} {ep : Nat} {w' : World} {xs : List NEnt}
end
section
variable {X : Cx} {e : Expr} {td : TE} {apos cpos tpos : Pos} {elts : List Expr} {kk : Nat}
end
section
variable {G : Gam} {W : Addr → Prop} {H : Hp} {d : Addr} {o : Obj} {w : World} {xs : List NEnt} {ks vs : List Val}
end
section
variable {G : Gam} {X : Cx} {E : WX} {e : Expr} {i : Nat} {r : List Fst} {elts : List Expr} {kk : Nat} {tpos : Pos}
end
section
variable {K : PySem.W.Frag} {x qual : Str} {params : Arguments} {body : List Stmt} {scope : Scope} {kws : List (Str × V)} {f : Addr} {fd : FuncData} {ps : List Str}
theorem kbindsN (F : FunD K x qual params body scope [] kws f fd) (n : Nat) (ks : List Str)
    (h : ∀ (kV doc pm : Value) (an : Option Addr) (cdv ct : Value) (us ws : List Value), us.length = n → ws.length = ks.length → bindArgs (PySem.W.fnOf x qual params body scope .none kV doc pm an cdv ct) ⟨us, ks.zip ws⟩ = pure (ps.zip (us ++ ws))) : KBn K fd ps n ks (fun us ws => us ++ ws) (fun vs zs => vs ++ zs) := by
 obtain ⟨oc, od, dV, kV, doc, pm, an, cdv, ct, osl, rfl, lk, hcd, hD, hK⟩ := F.ex
 rcases hD with ⟨_, rfl⟩ | ⟨e, _⟩
 · exact ⟨fun s us ws X l1 l2 => .of_eq (h kV doc pm an cdv ct us ws l1 l2), fun r1 r2 => r1.append r2⟩
 · exact absurd rfl e
end
section
variable {K : PySem.W.Frag} {h : Heap} {mg : Str → Option Value}
end
end VL
namespace VL
open PySem L2 NwA PySem.W PySem.Calls PyProof.Rows Builtin
section
variable {G : Gam} {X : Cx} {E : WX}
end
section
variable {G : Gam} {X : Cx} {E : WX} {fe e : Expr} {es : List Expr} {as : List Arg} {pos : Pos} {p s : Bool} {m : ME}
end
end VL
namespace VL
open PySem L2
section
variable {G : Gam} {R : Addr → Prop} {H H' : Hp}
end
open PySem.Spec PyProof.Rows StX
section
variable {CX : CXT} {P : Program} {w : World} {K : PySem.W.Frag} {mg : Str → Option Value} {base : Heap} {k : Nat} {f : Addr} {name qual : Str} {params : Arguments} {body : List Stmt} {scope : Scope} {dV kV doc pm cdv ct oc : Value} {an od : Option Addr}
 {osl : Array (Option Value)} {N ps : List Str} {sp : Sp}
end
section
variable {G : Gam} {X : Cx} {E : WX}
end
end VL
namespace VL
open PySem L2
section
variable {G : Gam} {X : Cx} {E : WX} {bs : List Bool} {σ0 : L2.St} {i : Nat} {m : MS}
end
end VL
namespace L2
open PySem PySem.Spec PyProof.Rows
end L2
namespace VL
open PySem L2
end VL
namespace VL
open PySem PySem.Spec PyProof.Rows L2
section
variable {G : Gam} {q : Addr × Value × Option Addr}
end
end VL
namespace VL
open PySem L2
section
variable {G : Gam} {W : Addr → Prop} {H : Hp}
end
section
variable {G : Gam} {X : Cx} {E : WX} {bs : List Bool} {σ0 : L2.St} {pos pos' apos : Pos} {p : Bool} {m : ME}
end
end VL
namespace VL
open PySem PySem.Spec PyProof.Rows L2
section
variable {X : Cx} {pins : List (Addr × Obj)} {σ : L2.St} {H : Hp} {s : Shared} {h' : Heap} {qs : List (V × V)} {us : List (Value × Value)} {acc : Array Value} {c : Nat} {as : List Addr}
end
section
variable {X : Cx} {e : Expr} {te : TE} {p apos cpos pos : Pos}
end
section
variable {G : Gam} {X : Cx} {E : WX} {e : Expr} {pu s : Bool} {m : ME} {p apos cpos pos : Pos}
end
end VL
namespace VL
open PySem PySem.Spec PyProof.Rows L2 GenW
def noteE (env : Env) (e : Value) : Sem PySem.Fin := (do noteFrame e env; theTreesLotGoes e : Sem Unit).wrap (fun _ => .raise e) .raise id id
section
variable {M : Model} {A : Around} {R : GenEnd} {Y : Protocol} {n : Nat} {s₀ s : Shared} {c : Code} {fs : List Frame} {env : Env} {K : Flow → Sem PySem.Fin} {J : Value → Sem PySem.Fin} {gd : Bool → Bool} {lv : List Value → List Value}
end
section
variable {prog : Program} {w : World} {A : Around} {R : GenEnd} {Y : Protocol} {n : Nat} {s₀ s : Shared} {fs : List Frame} {env : Env}
end
section
variable {X : Cx}
end
end VL
namespace VL
open PySem PySem.Spec PyProof.Rows L2 GenW
section
variable {P : Program} {w : World} {K : PySem.W.Frag} {mg : Str → Option Value} {base : Heap} {N : List Str} {qual : Str} {scope : Scope} {f : Addr} {cd : Value} {outer : List Env} {z : Shared} {H : Hp} {E : XK} {k : Nat}
end
section
variable {P : Program} {w : World} {outer : List Env} {H : Hp} {z z' : Shared} {k : Nat} {a : Addr} {Q : List V → Hp → Prop} {EX : XK}
end
end VL
namespace VL
open PySem PySem.Spec PyProof.Rows L2 GenW
inductive GR where
 | nx (zs : List Val) (ρ : VEnv) | exc (e : Exc) (ρ : VEnv) | bad
abbrev MGn := Nat → VEnv → GR
def gcat (zs : List Val) : GR → GR
 | .nx ws ρ => .nx (zs ++ ws) ρ
 | r => r
def PostG (G : Gam) (R : Addr → Prop) (E : WX) (D : GEnds) (bs : List Bool) (σ0 : L2.St) (H : Hp) (Os : Nat → List Addr) (ys : List V) : GR → Prop
 | .nx zs ρ' => ∀ xs σ' H' Os', PinB bs σ0 σ' → Rel G R H' σ' ρ' Os' → Reps G (WW R Os') H' xs zs [] → KeepE H Os H' Os' (fun _ => False) → D.nx (ys ++ xs) σ' H'
 | .exc e ρ' => ∀ c d σ' H' Os', PinB bs σ0 σ' → Rel G R H' σ' ρ' Os' → RepX G (WW R Os') H' c d e → KeepE H Os H' Os' (fun _ => False) → E c d σ' H'
 | .bad => False
theorem GS.pre {X : Cx} {st : Stmt} {t t' : TGn} (h : GS X st t) (k : ∀ D ys σ H, t' D ys σ H → t D ys σ H) : GS X st t' := ⟨fun A S ip R n ys s₀ c fs K J gd lv s σ H D g hn kk hI q => h.run A S ip R n ys s₀ c fs K J gd lv s σ H D g hn kk hI (k D ys σ H q)⟩
theorem GSs.pre {X : Cx} {st : List Stmt} {t t' : TGn} (h : GSs X st t) (k : ∀ D ys σ H, t' D ys σ H → t D ys σ H) : GSs X st t' := ⟨fun A S ip R n ys s₀ c fs K J gd lv s σ H D g hn kk hI q => h.run A S ip R n ys s₀ c fs K J gd lv s σ H D g hn kk hI (k D ys σ H q)⟩
section
variable {G : Gam} {R : Addr → Prop} {E : WX} {D : GEnds} {bs : List Bool} {σ0 σ : L2.St} {H H1 : Hp} {Os Os1 : Nat → List Addr} {ρ ρ1 : VEnv} {ys xs : List V} {zs : List Val} {r : GR}
theorem PostG.later (post : PostG G R E D bs σ0 H Os ys r) (k : KeepE H Os H1 Os1 fun _ => False) : PostG G R E D bs σ0 H1 Os1 ys r := by
 cases r with
 | bad => exact post
 | nx zs ρ' => exact fun xs σ' H' Os' p r rx q => post xs σ' H' Os' p r rx (k.trans q)
 | exc e ρ' => exact fun c d σ' H' Os' p r rx q => post c d σ' H' Os' p r rx (k.trans q)
theorem PostG.after (post : PostG G R E D bs σ0 H Os ys (gcat zs r)) (rel : Rel G R H1 σ ρ1 Os1) (rx : Reps G (WW R Os1) H1 xs zs []) (k : KeepE H Os H1 Os1 fun _ => False) : PostG G R E D bs σ0 H1 Os1 (ys ++ xs) r := by
 cases r with
 | bad => exact post
 | exc e ρ' => exact fun c d σ' H' Os' p r rx q => post c d σ' H' Os' p r rx (k.trans q)
 | nx ws ρ' =>
  intro us σ' H' Os' p r ru q
  rw [List.append_assoc]
  exact post (xs ++ us) σ' H' Os' p r ((rx.mono (keep_of rel q) fun a ha => (nomatch ha)).append ru) (k.trans q)
end
def gPl (m : MS) : MGn := fun _ ρ => match m ρ with
 | .nx ρ' => .nx [] ρ'
 | .exc e ρ' => .exc e ρ'
 | _ => .bad
def gNone : MGn := fun _ ρ => .nx [] ρ
section
variable {G : Gam} {X : Cx} {E : WX} {bs : List Bool} {σ0 : L2.St} {st : Stmt} {rest : List Stmt} {e : Expr} {pos yp : Pos} {p s : Bool} {m : ME} {m1 : MS} {g1 g2 : MGn}
end
abbrev MGF := List Val → GR
def gBody (bs : List Bool) (N : Nat) (m : MGn) : MGF := fun vs => match m 0 (vs.map some ++ List.replicate (N - bs.length) none) with
 | .nx zs ρ => .nx zs (outs bs ρ)
 | .exc e ρ => .exc e (outs bs ρ)
 | .bad => .bad
section
variable {G : Gam}
end
section
variable {G : Gam} {K : PySem.W.Frag} {L : List Nat} {n : Nat} {mf : MGF} {xs : List V} {H : Hp} {Q : VK} {E0 : XK}
end
section
variable {G : Gam} {X : Cx} {E : WX} {e : Expr} {es : List Expr} {as : List Arg} {p px cpos pos : Pos} {k : Nat} {f : Addr} {fd : FuncData} {ps : List Str}
end
end VL
namespace VL
open PySem PySem.Spec PyProof.Rows L2 GenW
abbrev Own := Nat → List (Addr × Obj) → Prop
structure Dozed (Ss : List Addr) (J : Own) (i : Nat) (y y' : Shared) : Prop where
 os : y'.os = y.os
 bare : AllBare y'.gens
 keep : ∀ b o, b ∉ Ss → y.heap.get? b = some o → y'.heap.get? b = some o
 own : ∃ cp : List (Addr × Obj), cp.map (·.1) = Ss ∧ J i cp ∧ ∀ p ∈ cp, y'.heap.get? p.1 = some p.2 ∧ ∀ v, p.2.data ≠ .cell v
def AsideL (X : Cx) (Ss : List Addr) : Prop := ∀ b ∈ Ss, X.s_0.heap.objs.size ≤ b ∧ b ≠ X.env.locals ∧ ∀ x c, X.env.cells.lookup x = some c → c ≠ b
def RunI (X : Cx) (Ss : List Addr) (J : Own) (ip : List (Addr × Obj)) (i : Nat) (σ : L2.St) (H : Hp) (y : Shared) : Prop := ∃ cp : List (Addr × Obj), cp.map (·.1) = Ss ∧ J i cp ∧ Inv X (cp ++ ip) σ H y
section
variable {X : Cx} {Ss : List Addr} {J : Own} {ip : List (Addr × Obj)} {i : Nat} {σ : L2.St} {H : Hp} {y y' : Shared}
theorem RunI.own (h : RunI X Ss J ip i σ H y) : ∀ b ∈ Ss, H b = none ∧ b ≠ X.env.locals ∧ b ∉ X.fs := by
 obtain ⟨cp, ec, _, I⟩ := h
 intro b hb
 rw [← ec] at hb
 obtain ⟨p, hp, e⟩ := List.mem_map.mp hb
 obtain ⟨_, z1, z2, z3, _⟩ := I.pin p (List.mem_append_right _ (List.mem_append_left _ hp))
 rw [← e]
 exact ⟨z1, z2, z3⟩
theorem RunI.inv (h : RunI X Ss J ip i σ H y) : Inv X ip σ H y := by
 obtain ⟨cp, _, _, I⟩ := h
 exact I.pins_of fun p hp => I.pin p (List.mem_append_right _ (List.mem_append_right _ hp))
theorem RunI.woken (hpn : ∀ p ∈ X.pn ++ ip, p.1 ∉ Ss) (hA : AsideL X Ss) (h : RunI X Ss J ip i σ H y) {j : Nat} (z : Dozed Ss J j y y') : RunI X Ss J ip j σ H y' := by
 have own := h.own
 have I0 := h.inv
 obtain ⟨z1, z2, z3, cp, ec, hJ, z4⟩ := z
 obtain ⟨hh, g, d, t, o⟩ := y'
 have ho : o = y.os := z1
 subst ho
 have out : ∀ b u, H b = some u → b ∉ Ss := fun b u q hb => by rw [(own b hb).1] at q; cases q
 have J0 : Inv X ip σ H { y with heap := hh, gens := g, drawn := d, toks := t } := by
  refine I0.step (g' := g) (t' := t) (d' := d) (ch := Ss) (fun b hb => ⟨.inr (hA b hb).1, (hA b hb).2.1, (hA b hb).2.2, fun p hp e => hpn p hp (e ▸ hb)⟩) (fun b ob _ _ hc q _ => z3 b ob hc q) (fun b ob _ _ hc q _ => ⟨ob.slots, z3 b ob hc q⟩) (fun _ _ _ _ n => n) (fun b ob hc q => ⟨ob, z3 b ob hc q⟩)
   (fun _ _ q => q) (fun _ _ _ q => q) (fun b ps q => ⟨#[], by rw [q]; simp⟩) (fun m hm => ?_) (fun b u q => ?_) z2
  · obtain ⟨ob, es, ep, hob, r⟩ := hm
    exact ⟨ob, es, ep, z3 _ ob (fun q => (own _ q).2.1 rfl) hob, r⟩
  · refine (I0.hok b u q).stay (fun c v hc q2 => z3 c v ?_ q2) (fun _ q2 => q2) fun _ _ q2 => q2
    rcases hc with e | e
    · rw [e]; exact out b u q
    · exact out c _ e
 refine ⟨cp, ec, hJ, J0.pins_of fun p hp => ?_⟩
 rcases List.mem_append.mp hp with hp | hp
 · have hm : p.1 ∈ Ss := by rw [← ec]; exact List.mem_map.mpr ⟨p, hp, rfl⟩
   obtain ⟨a1, a2, a3⟩ := own _ hm
   exact ⟨(z4 p hp).1, a1, a2, a3, (z4 p hp).2⟩
 · exact J0.pin p (List.mem_append_right _ hp)
end
def YW (X : Cx) (Ss : List Addr) (J : Own) (yp : Nat → V → Hp → Prop) : Protocol := fun n s₀ v y kap =>
 ∃ i x ip σ H, n + 1 + i = sizeLine ∧ RelV x v ∧ RunI X Ss J ip i σ H y ∧ yp i x H ∧ ∀ y', Dozed Ss J (i + 1) y y' → kap (.send .none) y'
structure WEnds where
 nx : Nat → L2.St → Hp → Prop
 rt : Nat → VK
 yp : Nat → V → Hp → Prop
 bk : Nat → L2.St → Hp → Prop := fun _ _ _ => False
 ct : Nat → L2.St → Hp → Prop := fun _ _ _ => False
abbrev TW := WEnds → Nat → L2.St → Hp → Prop
def WEnds.one (D : WEnds) (i : Nat) : Ends := { nx := D.nx i, rt := D.rt i, bk := D.bk i, ct := D.ct i }
def SW (X : Cx) (Ss : List Addr) (J : Own) (ip : List (Addr × Obj)) (D : WEnds) (i : Nat) (f : Flow) (y : Shared) : Prop :=
 match f with
 | .next => ∃ σ H, RunI X Ss J ip i σ H y ∧ D.nx i σ H
 | .brk => ∃ σ H, RunI X Ss J ip i σ H y ∧ D.bk i σ H
 | .cont => ∃ σ H, RunI X Ss J ip i σ H y ∧ D.ct i σ H
 | .ret u => ∃ v σ H, RunI X Ss J ip i σ H y ∧ RelV v u ∧ D.rt i v H
structure CW (X : Cx) (Ss : List Addr) (ip : List (Addr × Obj)) (B : Around) (c : Code) (fs : List Frame) (gd : Bool → Bool) : Prop where
 pn : ∀ p ∈ X.pn ++ ip, p.1 ∉ Ss
 aside : AsideL X Ss
 over : B.over c fs = X.A
 split : splitAtGen fs = none
 guard : fs.any Frame.guarded = false
 gd : gd false = false
structure KW (X : Cx) (Ss : List Addr) (J : Own) (ip : List (Addr × Obj)) (B : Around) (R : GenEnd) (c : Code) (fs : List Frame) (K : Flow → Sem PySem.Fin) (Je : Value → Sem PySem.Fin) (D : WEnds) : Prop where
 ok : ∀ (n i : Nat) (s₀ y : Shared) (f : Flow), n + i = sizeLine → SW X Ss J ip D i f y → Seg (model X.prog X.w) B R (YW X Ss J D.yp) n s₀ c (K f) fs y
 exc : ∀ (n : Nat) (s₀ : Shared) (e : Value) (y : Shared), X.xe e y → Seg (model X.prog X.w) B R (YW X Ss J D.yp) n s₀ c (Je e) fs y
structure WS (X : Cx) (st : Stmt) (t : TW) : Prop where
 run : ∀ (B : Around) (Ss : List Addr) (J : Own) (ip : List (Addr × Obj)) (R : GenEnd) (n i : Nat) (s₀ : Shared) (c : Code) (fs : List Frame) (K : Flow → Sem PySem.Fin) (Je : Value → Sem PySem.Fin) (gd : Bool → Bool) (lv : List Value → List Value) (y : Shared) (σ : L2.St) (H : Hp) (D : WEnds),
  CW X Ss ip B c fs gd → n + i = sizeLine → KW X Ss J ip B R c fs K Je D → RunI X Ss J ip i σ H y → t D i σ H → Seg (model X.prog X.w) B R (YW X Ss J D.yp) n s₀ c ((exec st X.env).wrap K Je gd lv) fs y
structure WSs (X : Cx) (st : List Stmt) (t : TW) : Prop where
 run : ∀ (B : Around) (Ss : List Addr) (J : Own) (ip : List (Addr × Obj)) (R : GenEnd) (n i : Nat) (s₀ : Shared) (c : Code) (fs : List Frame) (K : Flow → Sem PySem.Fin) (Je : Value → Sem PySem.Fin) (gd : Bool → Bool) (lv : List Value → List Value) (y : Shared) (σ : L2.St) (H : Hp) (D : WEnds),
  CW X Ss ip B c fs gd → n + i = sizeLine → KW X Ss J ip B R c fs K Je D → RunI X Ss J ip i σ H y → t D i σ H → Seg (model X.prog X.w) B R (YW X Ss J D.yp) n s₀ c ((execs st X.env).wrap K Je gd lv) fs y
section
variable {X : Cx} {st : Stmt} {rest : List Stmt}
theorem WS.pre {t t' : TW} (h : WS X st t) (k : ∀ D i σ H, t' D i σ H → t D i σ H) : WS X st t' := ⟨fun B Ss J ip R n i s₀ c fs K Je gd lv y σ H D g hn kk hI q => h.run B Ss J ip R n i s₀ c fs K Je gd lv y σ H D g hn kk hI (k D i σ H q)⟩
theorem WSs.pre {t t' : TW} (h : WSs X rest t) (k : ∀ D i σ H, t' D i σ H → t D i σ H) : WSs X rest t' := ⟨fun B Ss J ip R n i s₀ c fs K Je gd lv y σ H D g hn kk hI q => h.run B Ss J ip R n i s₀ c fs K Je gd lv y σ H D g hn kk hI (k D i σ H q)⟩
end
end VL
namespace VL
open PySem PySem.Spec PyProof.Rows L2 GenW
def cutH (h : Heap) (n : Nat) : Heap := { h with objs := h.objs.extract 0 n }
theorem cut_lt {h : Heap} {n b : Nat} (lt : b < n) : (cutH h n).get? b = h.get? b := by
 unfold cutH Heap.get?
 simp only [Array.getElem?_extract]
 by_cases hb : b < h.objs.size
 · rw [if_pos (by omega), Nat.zero_add]
 · rw [if_neg (by omega), Array.getElem?_eq_none (by omega)]
theorem cut_size {h : Heap} {n : Nat} (le : n ≤ h.objs.size) : (cutH h n).objs.size = n := by
 show (h.objs.extract 0 n).size = n
 rw [Array.size_extract, Nat.sub_zero]
 exact Nat.min_eq_left le
theorem cut_of {h : Heap} {n b : Nat} {o : Obj} (e : (cutH h n).get? b = some o) : b < n ∧ h.get? b = some o := by
 have lt := Heap.lt_size e
 have l2 : b < n := by
  have le : (cutH h n).objs.size ≤ n := by
   show (h.objs.extract 0 n).size ≤ n
   rw [Array.size_extract]
   exact Nat.le_trans (Nat.sub_le ..) (Nat.min_le_left ..)
  exact Nat.lt_of_lt_of_le lt le
 exact ⟨l2, by rw [cut_lt l2] at e; exact e⟩
theorem funs_cut {h base : Heap} {n : Nat} : ∀ {l : List Env}, h.FunFrames base l → (∀ b ∈ frs l, b < n) → (cutH h n).FunFrames base l
 | [], _, _ => trivial
 | env :: rest, hl, lt => by
  obtain ⟨hk, ⟨L, o, hf, hn, ho, hd⟩, hr⟩ := hl
  have m : L ∈ frs (env :: rest) := by show L ∈ (env :: rest).filterMap _; rw [List.filterMap_cons, hf]; exact List.mem_cons_self
  refine ⟨hk, ⟨L, o, hf, hn, by rw [cut_lt (lt L m)]; exact ho, hd⟩, funs_cut hr fun b hb => lt b ?_⟩
  show b ∈ (env :: rest).filterMap _
  rw [List.filterMap_cons, hf]
  exact List.mem_cons_of_mem _ hb
structure GQ where
 P : Program
 w : World
 K : PySem.W.Frag
 mg : Str → Option Value
 base : Heap
 N : List Str
 qual : Str
 scope : Scope
 f : Addr
 cd : Value
 A : Around
 outer : List Env
 L : Addr
 pn : List (Addr × Obj)
 b0 : Shared
 H0 : Hp
 E0 : XK
abbrev GQ.env (q : GQ) : Env := envOfC q.qual q.scope q.L q.f q.cd
def GQ.E (q : GQ) (b : Shared) (H : Hp) : XK := fun c d H' => b = q.b0 ∧ H = q.H0 ∧ q.E0 c d H'
def GQ.x (q : GQ) (b : Shared) (H : Hp) : Cx :=
 { cxOf (L2.CX q.P q.w) q.P q.w q.K q.mg q.base q.N q.qual q.scope q.f q.cd q.A q.outer b H (q.E b H) with
  A := q.A.deeper q.env
  env := q.env
  stack := q.env :: q.outer
  pn := q.pn
  xe := fun e s' => wpAny (model q.P q.w) (q.A.deeper q.env) (leaving q.env e) (fun _ s'' => L2.CX q.P q.w q.outer H b (q.E b H) e s'' ∧ ∀ p ∈ q.pn, s''.heap.get? p.1 = some p.2) (fun _ _ => False) s' }
section
variable {q : GQ} {b : Shared} {H : Hp}
theorem takes_gq : Air.Takes .l (q.x b H) (fun cls d _ H' => q.E b H cls d H') := fun u s' x =>
 XE.leaveG (W := fun cls d _ H' => q.E b H cls d H') (E := q.E b H) rfl rfl rfl (fun _ _ _ _ h => h) x
theorem owns_gq : PassesOwn (model q.P q.w) (q.x b H).A (q.x b H).env (q.x b H).xe :=
 passes_of (X := q.x b H) (K := fun e s'' => L2.CX q.P q.w q.outer H b (q.E b H) e s'' ∧ ∀ p ∈ q.pn, s''.heap.get? p.1 = some p.2) (E₁ := fun _ _ => False) rfl
end
structure Gh where
 b : Shared
 H : Hp
 Gw : Addr → Prop
 C : Addr → Prop
structure Went (P : Program) (w : World) (outer : List Env) (g : Gh) (cp : List (Addr × Obj)) (y : Shared) (H : Hp) (G2 : Addr → Prop) : Prop where
 os : y.os = g.b.os
 bare : AllBare y.gens
 un : Un (frs outer) [] g.H H g.b.heap y.heap
 hok : HOk P w H y.heap
 own : ∀ p ∈ cp, y.heap.get? p.1 = some p.2 ∧ H p.1 = none
 keep : ∀ a u, g.H a = some u → ¬ g.Gw a → H a = some u
 apart : ∀ a u, g.H a = some u → ¬ g.Gw a → ¬ G2 a
abbrev OwnJ := Nat → Shared → Hp → (Addr → Prop) → (Addr → Prop) → Prop
abbrev newC (C : Addr → Prop) (H H' : Hp) : Addr → Prop := fun a => C a ∨ (H a = none ∧ ∃ u, H' a = some u)
structure Woke (q : GQ) (Ss : List Addr) (C : Addr → Prop) (y : Shared) (H : Hp) (y' : Shared) (H' : Hp) : Prop where
 e0 : Env0 q.P q.w q.K q.mg q.base q.A q.outer y' H'
 os : y'.os = y.os
 old : ∀ b o, q.L ≤ b → b ∉ Ss → H b = none → y.heap.get? b = some o → y'.heap.get? b = some o ∧ H' b = none
 typed : ∀ a u, H a = some u → ¬ C a → H' a = some u
 there : ∀ a u, H a = some u → ∃ u', H' a = some u'
def cutS (L : Addr) (y : Shared) : Shared := { y with heap := cutH y.heap L }
def RunJ (q : GQ) (Ss : List Addr) (J : OwnJ) (g : Gh) (i : Nat) (σ : L2.St) (H : Hp) (y : Shared) : Prop :=
 ∃ cp : List (Addr × Obj), cp.map (·.1) = Ss ∧ g.b.heap.objs.size = q.L ∧ Inv (q.x g.b g.H) cp σ H y ∧ (i = 0 → g.b = q.b0 ∧ g.H = q.H0) ∧ ∀ y2 H2 G2, Went q.P q.w q.outer g cp y2 H2 G2 → J i y2 H2 G2 g.C
section
variable {q : GQ} {Ss : List Addr} {J : OwnJ} {g : Gh} {i : Nat} {σ : L2.St} {H : Hp} {y : Shared}
theorem RunJ.woken (hpn : ∀ p ∈ q.pn, q.L ≤ p.1 ∧ p.1 ∉ Ss) (hS : ∀ b ∈ Ss, q.L < b ∧ b ∉ frs q.outer ∧ ∀ x c, q.env.cells.lookup x = some c → c ≠ b) (hf : ∀ b ∈ frs q.outer, b < q.L) (h : RunJ q Ss J g i σ H y) {C Gw C' : Addr → Prop} {y' : Shared} {H' : Hp} (z : Woke q Ss C y H y' H')
    {cp' : List (Addr × Obj)} (ec' : cp'.map (·.1) = Ss) (hcp : ∀ p ∈ cp', y'.heap.get? p.1 = some p.2 ∧ H' p.1 = none ∧ ∀ v, p.2.data ≠ .cell v) {j : Nat} (hj : 0 < j) (hJ : ∀ y2 H2 G2, Went q.P q.w q.outer ⟨cutS q.L y', H', Gw, C'⟩ cp' y2 H2 G2 → J j y2 H2 G2 C') : RunJ q Ss J ⟨cutS q.L y', H', Gw, C'⟩ j σ H' y' := by
 obtain ⟨cp, ec, hb, I, _, _⟩ := h
 have ok := I.ok
 have Lm : q.L ∉ Ss := fun m => Nat.lt_irrefl _ (hS _ m).1
 obtain ⟨m, hn, hl⟩ := I.loc
 have hn0 := hn
 obtain ⟨oL, es, ep, hoL, rL⟩ := hn
 have eL := z.old q.L oL (Nat.le_refl _) Lm I.free hoL
 have szy : q.L ≤ y'.heap.objs.size := Nat.le_of_lt (Heap.lt_size eL.1)
 have bsL : q.base.objs.size ≤ q.L := by
  have := ok.bsz
  rw [show (q.x g.b g.H).s_0 = g.b from rfl, hb] at this
  exact this
 have cab : ∀ x c, q.env.cells.lookup x = some c → q.L ≤ c := fun x c e => by
  have := ok.cab x c rfl e
  rw [show (q.x g.b g.H).s_0 = g.b from rfl, hb] at this
  exact this
 have cellK : ∀ x c, q.env.cells.lookup x = some c → ∀ v, y.heap.IsCell c v → y'.heap.IsCell c v ∧ H' c = none := fun x c e v ⟨o, ho, hd⟩ => by
  have cS : c ∉ Ss := fun m => (hS c m).2.2 x c e rfl
  have := z.old c o (cab x c e) cS (I.freeC x c e) ho
  exact ⟨⟨o, this.1, hd⟩, this.2⟩
 have noA : ∀ b : Addr, b ∉ (q.x (cutS q.L y') H').ex := fun b m => absurd (show b ∈ ([] : List Addr) from m) (by simp)
 refine ⟨cp', ec', cut_size szy, ⟨⟨ok.mod, ok.kind, ok.glob, ok.blt, ?_, ok.inj, ok.has, fun x c _ e => ?_, ok.hd, ok.frames, ok.stk, fun b hb => absurd hb (noA b), fun b o e => ?_, ?_, fun b o e => noA b, fun b hb => absurd hb (noA b), funs_cut z.e0.funs hf, fun b hb => z.e0.frf b hb⟩,
  rfl, z.e0.bare, ⟨fun b o e _ _ _ => (cut_of e).2, fun b o e _ _ _ => ⟨o.slots, (cut_of e).2⟩, fun b o _ n _ => n, fun b o e _ => ⟨o, (cut_of e).2⟩, fun b xs e => e, fun b o u e => e, fun b ps e => ⟨#[], by rw [show H' b = some (.tbl ps) from e]; simp⟩⟩, ⟨m, ⟨oL, es, ep, eL.1, rL⟩, fun i x v h1 h2 h3 => ?_⟩, fun x c e => ?_, eL.2, fun x c e => ?_, fun p hp => ?_, z.e0.hok, I.len⟩, fun e => absurd e (Nat.ne_of_gt hj), hJ⟩
 · show (cutH y'.heap q.L).objs.size ≤ q.L
   rw [cut_size szy]; exact Nat.le_refl _
 · show (cutH y'.heap q.L).objs.size ≤ c
   rw [cut_size szy]; exact cab x c e
 · have := z.e0.bs b o e
   refine ⟨?_, this.2⟩
   show (cutH y'.heap q.L).get? b = some o
   rw [cut_lt (Nat.lt_of_lt_of_le (Heap.lt_size e) bsL)]
   exact this.1
 · show q.base.objs.size ≤ (cutH y'.heap q.L).objs.size
   rw [cut_size szy]; exact bsL
 · obtain ⟨u, r, lk⟩ := hl i x v h1 h2 h3
   refine ⟨u, r, ?_⟩
   rcases lk with ⟨k1, k2⟩ | ⟨k1, c, e, k2⟩
   · exact .inl ⟨k1, k2⟩
   · exact .inr ⟨k1, c, e, (cellK x c e _ k2).1⟩
 · obtain ⟨v, hv⟩ := I.cell x c e
   exact ⟨v, (cellK x c e v hv).1⟩
 · obtain ⟨v, hv⟩ := I.cell x c e
   exact (cellK x c e v hv).2
 · rcases List.mem_append.mp hp with hp | hp
   · have hp : p ∈ q.pn := hp
     obtain ⟨a1, a2, a3, a4, a5⟩ := I.pin p (List.mem_append_left _ hp)
     have := z.old p.1 p.2 (hpn p hp).1 (hpn p hp).2 a2 a1
     exact ⟨this.1, this.2, a3, a4, a5⟩
   · have hm : p.1 ∈ Ss := by rw [← ec']; exact List.mem_map.mpr ⟨p, hp, rfl⟩
     obtain ⟨a1, a2, a3⟩ := hcp p hp
     exact ⟨a1, a2, Nat.ne_of_gt (hS _ hm).1, (hS _ hm).2.1, a3⟩
end
abbrev YP := Nat → V → Hp → (Addr → Prop) → (Addr → Prop) → (Addr → Prop) → Prop
def YJ (q : GQ) (Ss : List Addr) (J : OwnJ) (yp : YP) : Protocol := fun n s₀ v y kap =>
 ∃ i x g σ H C N Gw, n + 1 + i = sizeLine ∧ RelV x v ∧ RunJ q Ss J g i σ H y ∧ (∀ a u, g.H a = some u → ¬ g.Gw a → H a = some u ∧ ¬ (Gw a ∨ N a)) ∧ (∀ a, g.C a → C a) ∧ yp i x H C N Gw ∧
  ∀ (y' : Shared) (H' : Hp) (cp' : List (Addr × Obj)), Woke q Ss C y H y' H' → cp'.map (·.1) = Ss → (∀ p ∈ cp', y'.heap.get? p.1 = some p.2 ∧ H' p.1 = none ∧ ∀ v, p.2.data ≠ .cell v) →
   (∀ y2 H2 G2, Went q.P q.w q.outer ⟨cutS q.L y', H', Gw, newC C H H'⟩ cp' y2 H2 G2 → J (i + 1) y2 H2 G2 (newC C H H')) → kap (.send .none) y'
structure XEnds where
 nx : Gh → Nat → L2.St → Hp → Prop
 rt : Gh → Nat → VK
 yp : YP
 bk : Gh → Nat → L2.St → Hp → Prop := fun _ _ _ _ => False
 ct : Gh → Nat → L2.St → Hp → Prop := fun _ _ _ _ => False
abbrev TX := XEnds → Gh → Nat → L2.St → Hp → Prop
def XEnds.one (D : XEnds) (g : Gh) (i : Nat) : Ends := { nx := D.nx g i, rt := D.rt g i, bk := D.bk g i, ct := D.ct g i }
def SX (q : GQ) (Ss : List Addr) (J : OwnJ) (D : XEnds) (g : Gh) (i : Nat) (f : Flow) (y : Shared) : Prop :=
 match f with
 | .next => ∃ σ H, RunJ q Ss J g i σ H y ∧ D.nx g i σ H
 | .brk => ∃ σ H, RunJ q Ss J g i σ H y ∧ D.bk g i σ H
 | .cont => ∃ σ H, RunJ q Ss J g i σ H y ∧ D.ct g i σ H
 | .ret u => ∃ v σ H, RunJ q Ss J g i σ H y ∧ RelV v u ∧ D.rt g i v H
structure CJ (q : GQ) (Ss : List Addr) (B : Around) (c : Code) (fs : List Frame) (gd : Bool → Bool) : Prop where
 pn : ∀ p ∈ q.pn, q.L ≤ p.1 ∧ p.1 ∉ Ss
 Ss : ∀ b ∈ Ss, q.L < b ∧ b ∉ frs q.outer ∧ ∀ x c, q.env.cells.lookup x = some c → c ≠ b
 fr : ∀ b ∈ frs q.outer, b < q.L
 over : B.over c fs = q.A.deeper q.env
 split : splitAtGen fs = none
 guard : fs.any Frame.guarded = false
 gd : gd false = false
structure KJ (q : GQ) (Ss : List Addr) (J : OwnJ) (B : Around) (R : GenEnd) (c : Code) (fs : List Frame) (K : Flow → Sem PySem.Fin) (Je : Value → Sem PySem.Fin) (D : XEnds) : Prop where
 ok : ∀ (n i : Nat) (g : Gh) (s₀ y : Shared) (f : Flow), n + i = sizeLine → SX q Ss J D g i f y → Seg (model q.P q.w) B R (YJ q Ss J D.yp) n s₀ c (K f) fs y
 exc : ∀ (n : Nat) (s₀ : Shared) (g : Gh) (e : Value) (y : Shared), (q.x g.b g.H).xe e y → Seg (model q.P q.w) B R (YJ q Ss J D.yp) n s₀ c (Je e) fs y
structure XS (q : GQ) (st : Stmt) (t : TX) : Prop where
 run : ∀ (B : Around) (Ss : List Addr) (J : OwnJ) (R : GenEnd) (n i : Nat) (g : Gh) (s₀ : Shared) (c : Code) (fs : List Frame) (K : Flow → Sem PySem.Fin) (Je : Value → Sem PySem.Fin) (gd : Bool → Bool) (lv : List Value → List Value) (y : Shared) (σ : L2.St) (H : Hp) (D : XEnds),
  CJ q Ss B c fs gd → n + i = sizeLine → KJ q Ss J B R c fs K Je D → RunJ q Ss J g i σ H y → t D g i σ H → Seg (model q.P q.w) B R (YJ q Ss J D.yp) n s₀ c ((exec st q.env).wrap K Je gd lv) fs y
structure XSs (q : GQ) (st : List Stmt) (t : TX) : Prop where
 run : ∀ (B : Around) (Ss : List Addr) (J : OwnJ) (R : GenEnd) (n i : Nat) (g : Gh) (s₀ : Shared) (c : Code) (fs : List Frame) (K : Flow → Sem PySem.Fin) (Je : Value → Sem PySem.Fin) (gd : Bool → Bool) (lv : List Value → List Value) (y : Shared) (σ : L2.St) (H : Hp) (D : XEnds),
  CJ q Ss B c fs gd → n + i = sizeLine → KJ q Ss J B R c fs K Je D → RunJ q Ss J g i σ H y → t D g i σ H → Seg (model q.P q.w) B R (YJ q Ss J D.yp) n s₀ c ((execs st q.env).wrap K Je gd lv) fs y
section
variable {q : GQ} {st : Stmt} {rest : List Stmt}
theorem XS.pre {t t' : TX} (h : XS q st t) (k : ∀ D g i σ H, t' D g i σ H → t D g i σ H) : XS q st t' := ⟨fun B Ss J R n i g s₀ c fs K Je gd lv y σ H D cc hn kk hI z => h.run B Ss J R n i g s₀ c fs K Je gd lv y σ H D cc hn kk hI (k D g i σ H z)⟩
theorem XSs.pre {t t' : TX} (h : XSs q rest t) (k : ∀ D g i σ H, t' D g i σ H → t D g i σ H) : XSs q rest t' := ⟨fun B Ss J R n i g s₀ c fs K Je gd lv y σ H D cc hn kk hI z => h.run B Ss J R n i g s₀ c fs K Je gd lv y σ H D cc hn kk hI (k D g i σ H z)⟩
theorem xs_ps {t : Gh → TS} (h : ∀ g, PS (q.x g.b g.H) st (t g)) : XS q st fun D g i σ H => t g (D.one g i) σ H := by
 refine ⟨fun B Ss J R n i g s₀ c fs K Je gd lv y σ H D cc hn k hI ht => ?_⟩
 obtain ⟨cp, ec, hb, I, h0, hJ⟩ := hI
 refine seg_wrap ?_
 rw [cc.over]
 refine wpAny_mono ((h g).run cp y σ H (D.one g i) I ht) (fun f y' z => k.ok n i g s₀ y' f hn ?_) fun x y' z => k.exc n s₀ g x y' z
 match f, z with
 | .next, ⟨σ', H', I', z⟩ => exact ⟨σ', H', ⟨cp, ec, hb, I', h0, hJ⟩, z⟩
 | .brk, ⟨σ', H', I', z⟩ => exact ⟨σ', H', ⟨cp, ec, hb, I', h0, hJ⟩, z⟩
 | .cont, ⟨σ', H', I', z⟩ => exact ⟨σ', H', ⟨cp, ec, hb, I', h0, hJ⟩, z⟩
 | .ret u, ⟨v, σ', H', I', r, z⟩ => exact ⟨v, σ', H', ⟨cp, ec, hb, I', h0, hJ⟩, r, z⟩
theorem xss_nil : XSs q [] fun D g i σ H => D.nx g i σ H := ⟨fun B Ss J R n i g s₀ c fs K Je gd lv y σ H D cc hn k hI ht => seg_execs_nil (k.ok n i g s₀ y .next hn ⟨σ, H, hI, ht⟩)⟩
theorem xss_cons {t u : TX} (a : XS q st t) (b : XSs q rest u) : XSs q (st :: rest) fun D g i σ H => t { D with nx := fun g' i' σ' H' => u D g' i' σ' H' } g i σ H := by
 refine ⟨fun B Ss J R n i g s₀ c fs K Je gd lv y σ H D cc hn k hI ht => seg_execs_cons ?_⟩
 refine a.run B Ss J R n i g s₀ c fs _ Je gd lv y σ H { D with nx := fun g' i' σ' H' => u D g' i' σ' H' } cc hn ⟨fun n' i' g' s₀' y' f hn' z => ?_, k.exc⟩ hI ht
 match f, z with
 | .next, ⟨σ', H', I', z⟩ => exact b.run B Ss J R n' i' g' s₀' c fs K Je gd lv y' σ' H' D cc hn' k I' z
 | .brk, z => exact k.ok n' i' g' s₀' y' .brk hn' z
 | .cont, z => exact k.ok n' i' g' s₀' y' .cont hn' z
 | .ret u, z => exact k.ok n' i' g' s₀' y' (.ret u) hn' z
def tXYield (te : Gh → TE) : TX := fun D g i σ H => i < sizeLine ∧ te g σ H fun x H1 => ∃ C N Gw, (∀ a u, g.H a = some u → ¬ g.Gw a → H1 a = some u ∧ ¬ (Gw a ∨ N a)) ∧ (∀ a, g.C a → C a) ∧ D.yp i x H1 C N Gw ∧ ∀ b' H', (∀ a u, H1 a = some u → ¬ C a → H' a = some u) → (∀ a u, H1 a = some u → ∃ u', H' a = some u') → D.nx ⟨b', H', Gw, newC C H1 H'⟩ (i + 1) σ H'
theorem xs_yield {e : Expr} {yp pos : Pos} {te : Gh → TE} (he : ∀ g, PE (q.x g.b g.H) e (te g)) (hco : q.env.scope.isCoroutine = false := by rfl) (hi : interactive q.env = false := by rfl) : XS q (.Expr (.Yield (some e) yp) pos) (tXYield te) := by
 refine ⟨fun B Ss J R n i g s₀ c fs K Je gd lv y σ H D cc hn k hI ht => ?_⟩
 obtain ⟨hlt, ht⟩ := ht
 cases n with
 | zero => exact absurd hn (by omega)
 | succ n =>
 obtain ⟨cp, ec, hb, I, h0, hJ⟩ := hI
 refine seg_Expr_Yield cc.split cc.gd cc.guard ?_ hco hi
 rw [cc.over]
 refine wpAny_mono ((he g).run cp y σ H _ I ht) (fun v y1 ⟨x, H1, I1, rv, C, N, Gw, tk, hc, hy, z⟩ kap hk => ?_) fun x s' hx => k.exc _ s₀ g x s' hx
 have R1 : RunJ q Ss J g i σ H1 y1 := ⟨cp, ec, hb, I1, h0, hJ⟩
 exact ⟨i, x, g, σ, H1, C, N, Gw, by omega, rv, R1, tk, hc, hy, fun y' H' cp' w e1 e2 e3 => hk .none y' (k.ok n (i + 1) ⟨cutS q.L y', H', Gw, newC C H1 H'⟩ y' y' .next (by omega) ⟨σ, H', R1.woken cc.pn cc.Ss cc.fr w e1 e2 (Nat.succ_pos i) e3, z _ H' w.typed w.there⟩)⟩
def tXIf (c : Gh → TT) (ta tb : TX) : TX := fun D g i σ H => c g σ H fun k H1 => if k = true then ta D g i σ H1 else tb D g i σ H1
theorem xs_if {test : Expr} {s1 s2 : List Stmt} {pos : Pos} {c : Gh → TT} {ta tb : TX} (hc : ∀ g, PT (q.x g.b g.H) test (c g)) (ha : XSs q s1 ta) (hb : XSs q s2 tb) : XS q (.If test s1 s2 pos) (tXIf c ta tb) := by
 refine ⟨fun B Ss J R n i g s₀ cc fs K Je gd lv y σ H D co hn k hI ht => ?_⟩
 obtain ⟨cp, ec, eb, I, h0, hJ⟩ := hI
 rw [exec_If]
 refine seg_bind_wrap (wpAny_standAt (seg_bind_wrap ?_))
 rw [co.over]
 refine wpAny_mono ((hc g).run cp y σ H _ I ht) (fun t y1 ⟨H1, I1, z⟩ => ?_) fun x s' hx => k.exc n s₀ g x s' hx
 have R1 : RunJ q Ss J g i σ H1 y1 := ⟨cp, ec, eb, I1, h0, hJ⟩
 cases t with
 | true => exact ha.run B Ss J R n i g s₀ cc fs K Je gd lv y1 σ H1 D co hn k R1 z
 | false => exact hb.run B Ss J R n i g s₀ cc fs K Je gd lv y1 σ H1 D co hn k R1 z
theorem cj_loop {Ss : List Addr} {B : Around} {c c' : Code} {fs : List Frame} {gd : Bool → Bool} {k : Result → Sem PySem.Fin} {l kp : List Value} {p : Pos} (z : CJ q Ss B c fs gd) (hw : c'.weight = 0) (hu : c'.cUnits = 0) : CJ q Ss B c' (.ret k none (gd false) l c p kp :: fs) id :=
 ⟨z.pn, z.Ss, z.fr, (over_loop hw hu).trans z.over, by show (splitAtGen fs).map _ = none; rw [z.split]; rfl, by show (gd false || fs.any Frame.guarded) = false; rw [z.gd, z.guard]; rfl, rfl⟩
theorem seg_backJ {Ss : List Addr} {J : OwnJ} {B : Around} {R : GenEnd} {c : Code} {fs : List Frame} {K : Flow → Sem PySem.Fin} {Je : Value → Sem PySem.Fin} {gd : Bool → Bool} {lv : List Value → List Value} {D : XEnds} {n : Nat} {s₀ y : Shared} {e : Value} {g : Gh}
    (z : CJ q Ss B c fs gd) (k : KJ q Ss J B R c fs K Je D) (h : cameBackBy (model q.P q.w) (q.A.deeper q.env) q.env (q.x g.b g.H).xe e y) : Seg (model q.P q.w) B R (YJ q Ss J D.yp) n s₀ c (((Sem.raise e : Sem Flow).onRaise (cameBack q.env)).wrap K Je gd lv) fs y := by
 show Seg _ _ _ _ _ _ _ (((cameBack q.env e).bind fun _ => (Sem.raise e : Sem Flow)).wrap K Je gd lv) _ _
 rw [Sem.bind_eq_wrap, Sem.wrap_wrap]; refine seg_wrap ?_
 rw [z.over]
 exact wpAny_mono h (fun _ y' r => k.exc n s₀ g e y' r) fun x y' r => k.exc n s₀ g x y' r
def tXWhile (c : Gh → TT) (tb : TX) : TX := fun D g i σ H => ∃ W : Nat → Gh → Nat → L2.St → Hp → Prop, (∃ m, W m g i σ H) ∧ ∀ m g i σ H, W m g i σ H → c g σ H fun k H1 =>
 if k = true then ∃ N : Gh → Nat → L2.St → Hp → Prop, (∀ g' i' σ' H', N g' i' σ' H' → ∃ m', m' < m ∧ W m' g' i' σ' H') ∧ tb { D with nx := N, ct := N, bk := D.nx } g i σ H1 else D.nx g i σ H1
theorem xs_while {test : Expr} {body : List Stmt} {pos : Pos} {c : Gh → TT} {tb : TX} (hc : ∀ g, PT (q.x g.b g.H) test (c g)) (hb : XSs q body tb) : XS q (.While test body [] pos) (tXWhile c tb) := by
 refine ⟨fun B Ss J R n i g s₀ cc fs K Je gd lv y σ H D co hn k hI ht => ?_⟩
 obtain ⟨W, ⟨m0, w0⟩, turn⟩ := ht
 refine seg_While fun p => ?_
 let top : Frame := .ret (fun r => ((match r with | .ok f => (.pure f : Sem Flow) | .error e => .raise e).onRaise (cameBack q.env)).wrap K Je gd lv) none (gd false) (lv []) cc p []
 have co2 : CJ q Ss B (.whileLoop test body [] q.env) (top :: fs) id := cj_loop co rfl rfl
 have out : ∀ (n : Nat) (s₀ : Shared) (g : Gh) (x : Value) (y' : Shared), (q.x g.b g.H).xe x y' → Seg (model q.P q.w) B R (YJ q Ss J D.yp) n s₀ (.whileLoop test body [] q.env) (noteE q.env x) (top :: fs) y' := fun n s₀ g x y' hx => by
  unfold noteE
  refine seg_wrap ?_
  rw [co2.over]
  exact wpAny_bind (wpAny_mono (owns_gq x y' hx) (fun _ y2 r => wpAny_theTreesLotGoes (seg_leaf (.error x) (seg_backJ co k r))) fun z y2 r => seg_leaf (.error z) (seg_backJ co k r))
 have loop : ∀ (m n i : Nat) (g : Gh) (s₀ y : Shared) (σ : L2.St) (H : Hp), n + i = sizeLine → W m g i σ H → RunJ q Ss J g i σ H y → Seg (model q.P q.w) B R (YJ q Ss J D.yp) n s₀ (.whileLoop test body [] q.env) ((model q.P q.w).den (.whileLoop test body [] q.env)) (top :: fs) y := by
  intro m
  induction m using Nat.strongRecOn with
  | ind m ih =>
   intro n i g s₀ y σ H hn w hI
   obtain ⟨cp, ec, eb, I, h0, hJ⟩ := hI
   refine seg_whileLoop ?_
   rw [co2.over]
   refine wpAny_mono ((hc g).run cp y σ H _ I (turn m g i σ H w)) (fun t y1 ⟨H1, I1, z⟩ => ?_) fun x y' hx => out n s₀ g x y' hx
   have R1 : RunJ q Ss J g i σ H1 y1 := ⟨cp, ec, eb, I1, h0, hJ⟩
   cases t with
   | true =>
    obtain ⟨N, hN, z⟩ := z
    rw [if_pos rfl]
    have back : ∀ {n' i' : Nat} {g' : Gh} {s₀' y' : Shared} {σ' : L2.St} {H' : Hp}, n' + i' = sizeLine → RunJ q Ss J g' i' σ' H' y' → N g' i' σ' H' → Seg (model q.P q.w) B R (YJ q Ss J D.yp) n' s₀' (.whileLoop test body [] q.env) (.pure (.again (.whileLoop test body [] q.env))) (top :: fs) y' := fun hn' r nn =>
     let ⟨m', lt, w'⟩ := hN _ _ _ _ nn; seg_again rfl (ih m' lt _ _ _ _ _ _ _ hn' w' r)
    refine hb.run B Ss J R n i g s₀ _ _ _ _ id id y1 σ H1 { D with nx := N, ct := N, bk := D.nx } co2 hn ⟨fun n' i' g' s₀' y' f hn' r => ?_, fun n' s₀' g' x y' hx => out n' s₀' g' x y' hx⟩ R1 z
    match f, r with
    | .next, ⟨σ', H', r, nn⟩ => exact back hn' r nn
    | .cont, ⟨σ', H', r, nn⟩ => exact back hn' r nn
    | .brk, r => exact seg_leaf (.ok .next) (k.ok n' i' g' s₀' y' .next hn' r)
    | .ret v, r => exact seg_leaf (.ok (.ret v)) (k.ok n' i' g' s₀' y' (.ret v) hn' r)
   | false =>
    rw [if_neg Bool.false_ne_true]
    exact seg_execs_nil (seg_leaf (.ok .next) (k.ok n i g s₀ y1 .next hn ⟨σ, H1, R1, z⟩))
 exact loop m0 n i g s₀ y σ H hn w0 hI
end
end VL
namespace VL
open PySem PySem.Spec PyProof.Rows L2 GenW
structure KG (g : Gh) (H : Hp) (Os : Nat → List Addr) : Prop where
 keep : ∀ a u, g.H a = some u → ¬ g.Gw a → H a = some u
 own : ∀ a, We Os a → g.Gw a ∨ g.H a = none
section
variable {g : Gh} {H H' : Hp} {Os Os' : Nat → List Addr}
theorem KG.nwe (k : KG g H Os) {a : Addr} {u : HO} (e : g.H a = some u) (n : ¬ g.Gw a) : ¬ We Os a := fun z => (k.own a z).elim n fun q => by rw [e] at q; cases q
theorem KG.step {O : Addr → Prop} (k : KG g H Os) (s : KeepE H Os H' Os' O) : KG g H' Os' where
 keep := fun a u e n => (s a u (k.keep a u e n) (k.nwe e n)).1
 own := fun a z => Classical.byContradiction fun q => by
  obtain ⟨n, m⟩ := not_or.mp q
  obtain ⟨u, e⟩ := Option.ne_none_iff_exists'.mp m
  exact (s a u (k.keep a u e n) (k.nwe e n)).2.1 z
end
theorem Rel.other {G : Gam} {R : Addr → Prop} {H H' : Hp} {σ : L2.St} {ρ : VEnv} {Os : Nat → List Addr} (r : Rel G R H σ ρ Os) (k : ∀ a u, H a = some u → ¬ R a → H' a = some u) (t : ∀ a u, H a = some u → ∃ u', H' a = some u') : Rel G R H' σ ρ Os where
 len := r.len
 rep := fun i v h => let ⟨x, e, q⟩ := r.rep i v h; ⟨x, e, q.mono (fun a o e nw => ⟨k a o e fun z => nw (.inl z), nw⟩) fun a ha o e => k a o e (r.dr i a ha)⟩
 nil := r.nil
 nd := r.nd
 dj := r.dj
 dr := r.dr
 rt := fun a z => let ⟨u, e⟩ := r.rt a z; t a u e
def gcatX (zs : List Val) : GR → GR
 | .nx ws ρ => .nx (zs ++ ws) ρ
 | .exc e ρ => if zs.isEmpty = true then .exc e ρ else .bad
 | .bad => .bad
structure Cov (R0 : Addr → Prop) (g : Gh) (R : Addr → Prop) : Prop where
 first : ∀ a, R0 a → R a
 then_ : ∀ a, g.C a → R a
theorem Rel.otherN {G : Gam} {R : Addr → Prop} {H H' : Hp} {σ : L2.St} {ρ : VEnv} {Os : Nat → List Addr} (r : Rel G R H σ ρ Os) (k : ∀ a u, H a = some u → ¬ R a → H' a = some u) (t : ∀ a u, H a = some u → ∃ u', H' a = some u') : Rel G (newC R H H') H' σ ρ Os where
 len := r.len
 rep := fun i v h => let ⟨x, e, q⟩ := r.rep i v h; ⟨x, e, q.mono (fun a o e nw => ⟨k a o e fun z => nw (.inl z), fun z => z.elim (fun z => z.elim (fun z => nw (.inl z)) fun z => by rw [e] at z; cases z.1) fun z => nw (.inr z)⟩) fun a ha o e => k a o e (r.dr i a ha)⟩
 nil := r.nil
 nd := r.nd
 dj := r.dj
 dr := fun i a ha z => z.elim (r.dr i a ha) fun z => by obtain ⟨u, e⟩ := r.there a ha; rw [e] at z; cases z.1
 rt := fun a z => z.elim (fun z => let ⟨u, e⟩ := r.rt a z; t a u e) fun z => z.2
def Gives (G : Gam) (R0 : Addr → Prop) (yp : YP) (i : Nat) (z : Val) : Prop := ∀ (R : Addr → Prop) (Os : Nat → List Addr) (O : List Addr) (x : V) (H : Hp), (∀ a, R0 a → R a) → Rep G (WW (fun a => R a ∨ a ∈ O) Os) H x z O → O.Nodup → (∀ a, R a ∨ a ∈ O → ¬ We Os a ∧ ∃ u, H a = some u) → (∀ a, We Os a → ∃ u, H a = some u) → yp i x H (fun a => R a ∨ a ∈ O) (· ∈ O) (We Os)
def PostX (G : Gam) (q : GQ) (R0 : Addr → Prop) (D : XEnds) (bs : List Bool) (σ0 : L2.St) (g : Gh) (R : Addr → Prop) (H : Hp) (Os : Nat → List Addr) (i : Nat) : GR → Prop
 | .nx zs ρ' => (∀ j z, zs[j]? = some z → Gives G R0 D.yp (i + j) z) ∧ ∀ g' R' σ' H' Os', (zs = [] → g' = g ∧ R' = R ∧ KeepE H Os H' Os' (fun _ => False)) → Cov R0 g' R' → PinB bs σ0 σ' → Rel G R' H' σ' ρ' Os' → KG g' H' Os' → D.nx g' (i + zs.length) σ' H'
 | .exc e ρ' => (g.b = q.b0 ∧ g.H = q.H0) ∧ ∀ c d σ' H' Os', PinB bs σ0 σ' → Rel G R H' σ' ρ' Os' → RepX G (WW R Os') H' c d e → KeepE H Os H' Os' (fun _ => False) → q.E0 c d H'
 | .bad => False
def tXG (G : Gam) (q : GQ) (R0 : Addr → Prop) (bs : List Bool) (σ0 : L2.St) (m : MGn) : TX := fun D g i σ H => ∃ R ρ Os, Cov R0 g R ∧ Rel G R H σ ρ Os ∧ PinB bs σ0 σ ∧ KG g H Os ∧ PostX G q R0 D bs σ0 g R H Os i (m i ρ)
def VX (G : Gam) (q : GQ) (R0 : Addr → Prop) (bs : List Bool) (σ0 : L2.St) (st : Stmt) (m : MGn) : Prop := XS q st (tXG G q R0 bs σ0 m)
def VXs (G : Gam) (q : GQ) (R0 : Addr → Prop) (bs : List Bool) (σ0 : L2.St) (st : List Stmt) (m : MGn) : Prop := XSs q st (tXG G q R0 bs σ0 m)
section
variable {G : Gam} {q : GQ} {R0 R R1 : Addr → Prop} {D : XEnds} {bs : List Bool} {σ0 σ : L2.St} {H H1 : Hp} {Os Os1 : Nat → List Addr} {ρ ρ1 : VEnv} {i : Nat} {zs : List Val} {r : GR} {g g1 : Gh}
theorem PostX.head (post : PostX G q R0 D bs σ0 g R H Os i (gcatX zs r)) : ∀ j z, zs[j]? = some z → Gives G R0 D.yp (i + j) z := by
 cases r with
 | bad => exact post.elim
 | exc e ρ' =>
  intro j z hj
  cases zs with
  | nil => cases hj
  | cons a l => exact post.elim
 | nx ws ρ' => exact fun j z e => post.1 j z (by rw [List.getElem?_append_left (List.getElem?_eq_some_iff.mp e).1]; exact e)
theorem PostX.after (post : PostX G q R0 D bs σ0 g R H Os i (gcatX zs r)) (same : zs = [] → g1 = g ∧ R1 = R ∧ KeepE H Os H1 Os1 fun _ => False) : PostX G q R0 D bs σ0 g1 R1 H1 Os1 (i + zs.length) r := by
 cases r with
 | bad => exact post
 | exc e ρ' =>
  cases zs with
  | cons a l => exact post.elim
  | nil =>
   obtain ⟨rfl, rfl, k⟩ := same rfl
   exact ⟨post.1, fun c d σ' H' Os' p r rx k2 => post.2 c d σ' H' Os' p r rx (k.trans k2)⟩
 | nx ws ρ' =>
  refine ⟨fun j z e => ?_, fun g' R' σ' H' Os' s r0 p r kg => ?_⟩
  · have := post.1 (zs.length + j) z (by rw [List.getElem?_append_right (Nat.le_add_right ..), Nat.add_sub_cancel_left]; exact e)
    rwa [← Nat.add_assoc] at this
  · have h := post.2 g' R' σ' H' Os' (fun e => by
      obtain ⟨e1, e2⟩ := List.append_eq_nil_iff.mp e
      obtain ⟨rfl, rfl, k⟩ := same e1
      obtain ⟨h1, h2, k2⟩ := s e2
      exact ⟨h1, h2, k.trans k2⟩) r0 p r kg
    rwa [List.length_append, ← Nat.add_assoc] at h
theorem PostX.later (post : PostX G q R0 D bs σ0 g R H Os i r) (k : KeepE H Os H1 Os1 fun _ => False) : PostX G q R0 D bs σ0 g R H1 Os1 i r := by
 have e : gcatX [] r = r := by cases r <;> rfl
 have := PostX.after (zs := []) (g1 := g) (R1 := R) (by rw [e]; exact post) fun _ => ⟨rfl, rfl, k⟩
 simpa using this
end
def gSeqX (m1 m2 : MGn) : MGn := fun n ρ => match m1 n ρ with
 | .nx zs ρ' => gcatX zs (m2 (n + zs.length) ρ')
 | r => r
def gYd (m : ME) : MGn := fun n ρ => match m ρ with
 | .ok v ρ' => if n < 16000000 then .nx [v] ρ' else .bad
 | _ => .bad
def gIf (m : ME) (m1 m2 : MGn) : MGn := fun n ρ => match m ρ with
 | .ok (.bl t) ρ' => if t = true then m1 n ρ' else m2 n ρ'
 | .ok _ _ => .bad
 | .exc e ρ' => .exc e ρ'
 | .bad => .bad
def whileG (m : ME) (mb : MGn) : Nat → MGn
 | 0, _, _ => .bad
 | k + 1, n, ρ => match m ρ with
  | .ok (.bl t) ρ1 => if t = true then (match mb n ρ1 with
   | .nx zs ρ2 => gcatX zs (whileG m mb k (n + zs.length) ρ2)
   | r => r) else .nx [] ρ1
  | .ok _ _ => .bad
  | .exc e ρ1 => .exc e ρ1
  | .bad => .bad
def gWhile (fuel : VEnv → Nat) (m : ME) (mb : MGn) : MGn := fun n ρ => whileG m mb (fuel ρ) n ρ
section
variable {G : Gam} {q : GQ} {R0 : Addr → Prop} {bs : List Bool} {σ0 : L2.St} {st : Stmt} {rest s1 s2 : List Stmt} {e : Expr} {pos yp : Pos} {p s : Bool} {m : ME} {m1 : MS} {g1 g2 : MGn}
theorem vx_vs (h : ∀ g : Gh, VS G (q.x g.b g.H) (fun c d _ H => q.E g.b g.H c d H) bs σ0 st m1) : VX G q R0 bs σ0 st (gPl m1) := by
 refine XS.pre (xs_ps h) fun D g i σ H ⟨R, ρ, Os, r0, rel, pin, kg, post⟩ => ⟨R, ρ, Os, rel, pin, ?_⟩
 unfold gPl at post
 cases hm : m1 ρ with
 | nx ρ' =>
  rw [hm] at post
  exact fun σ' H' Os' p r k => post.2 g R σ' H' Os' (fun _ => ⟨rfl, rfl, k⟩) r0 p r (kg.step k)
 | exc e ρ' =>
  rw [hm] at post
  exact fun c d σ' H' Os' p r rx k => ⟨post.1.1, post.1.2, post.2 c d σ' H' Os' p r rx k⟩
 | bad => rw [hm] at post; exact post.elim
 | rt v ρ' => rw [hm] at post; exact post.elim
 | bk ρ' => rw [hm] at post; exact post.elim
 | ct ρ' => rw [hm] at post; exact post.elim
theorem vxs_nil : VXs G q R0 bs σ0 [] gNone := XSs.pre xss_nil fun D g i σ H ⟨R, ρ, Os, r0, rel, pin, kg, post⟩ => post.2 g R σ H Os (fun _ => ⟨rfl, rfl, KeepE.refl⟩) r0 pin rel kg
theorem vxs_cons (h1 : VX G q R0 bs σ0 st g1) (h2 : VXs G q R0 bs σ0 rest g2) : VXs G q R0 bs σ0 (st :: rest) (gSeqX g1 g2) := by
 refine XSs.pre (xss_cons h1 h2) fun D g i σ H ⟨R, ρ, Os, r0, rel, pin, kg, post⟩ => ⟨R, ρ, Os, r0, rel, pin, kg, ?_⟩
 unfold gSeqX at post
 cases hm : g1 i ρ with
 | bad => rw [hm] at post; exact post
 | exc e ρ' => rw [hm] at post; exact post
 | nx zs ρ' =>
  rw [hm] at post
  exact ⟨fun j z e => PostX.head post j z e, fun g' R' σ' H' Os' same r0' p r kg' => ⟨R', ρ', Os', r0', r, p, kg', PostX.after post same⟩⟩
theorem vx_yd (he : ∀ g : Gh, VE G (q.x g.b g.H) (fun c d _ H => q.E g.b g.H c d H) p true e m) (hco : q.env.scope.isCoroutine = false := by rfl) (hi : interactive q.env = false := by rfl) : VX G q R0 bs σ0 (.Expr (.Yield (some e) yp) pos) (gYd m) := by
 refine XS.pre (xs_yield he hco hi) fun D g i σ H ⟨R, ρ, Os, r0, rel, pin, kg, post⟩ => ?_
 unfold gYd at post
 have sz : (16000000 : Nat) ≤ sizeLine := by decide
 cases hm : m ρ with
 | bad => rw [hm] at post; exact post.elim
 | exc e ρ' => rw [hm] at post; exact post.elim
 | ok v ρ' =>
  rw [hm] at post
  dsimp only at post
  by_cases lt : i < 16000000
  rotate_left
  · rw [if_neg lt] at post; exact post.elim
  rw [if_pos lt] at post
  refine ⟨by omega, R, ρ, Os, rel, ?_⟩
  rw [hm]
  intro x H1 Os1 O rel1 rep nd k _
  have eR : Rp R true O = fun a => R a ∨ a ∈ O := setEq fun a => ⟨fun z => z.imp id fun z => z.2, fun z => z.imp id fun z => ⟨rfl, z⟩⟩
  rw [eR] at rel1 rep
  refine ⟨fun a => R a ∨ a ∈ O, (· ∈ O), We Os1, fun a u e n => ⟨(kg.step k).keep a u e n, fun z => z.elim ((kg.step k).nwe e n) fun z => (k a u (kg.keep a u e n) (kg.nwe e n)).2.2 ⟨rfl, z⟩⟩, fun a z => .inl (r0.then_ a z), post.1 0 v rfl R Os1 O x H1 r0.first rep (nd rfl) (fun a z => ⟨rel1.nr z, rel1.rt a z⟩) (fun a z => rel1.we z), fun b' H' kp th => ?_⟩
  exact post.2 ⟨b', H', We Os1, newC (fun a => R a ∨ a ∈ O) H1 H'⟩ (newC (fun a => R a ∨ a ∈ O) H1 H') σ H' Os1 (fun z => nomatch z) ⟨fun a z => .inl (.inl (r0.first a z)), fun a z => z⟩ pin (rel1.otherN kp th) ⟨fun a u e _ => e, fun a z => .inl z⟩
theorem vx_if (hc : ∀ g : Gh, VT G (q.x g.b g.H) (fun c d _ H => q.E g.b g.H c d H) p e m) (ha : VXs G q R0 bs σ0 s1 g1) (hb : VXs G q R0 bs σ0 s2 g2) : VX G q R0 bs σ0 (.If e s1 s2 pos) (gIf m g1 g2) := by
 refine XS.pre (xs_if hc ha hb) fun D g i σ H ⟨R, ρ, Os, r0, rel, pin, kg, post⟩ => ⟨R, ρ, Os, rel, ?_⟩
 unfold gIf at post
 cases hm : m ρ with
 | bad => rw [hm] at post; exact post
 | exc e ρ' => rw [hm] at post; exact fun c d H' Os' r rx k => ⟨post.1.1, post.1.2, post.2 c d σ H' Os' pin r rx k⟩
 | ok v ρ' =>
  rw [hm] at post
  cases v with
  | bl t =>
   intro H' Os' rel' k _
   cases t with
   | true => exact ⟨R, ρ', Os', r0, rel', pin, kg.step k, PostX.later post k⟩
   | false => exact ⟨R, ρ', Os', r0, rel', pin, kg.step k, PostX.later post k⟩
  | _ => exact post.elim
theorem vx_while {body : List Stmt} {mb : MGn} (fuel : VEnv → Nat) (hc : ∀ g : Gh, VT G (q.x g.b g.H) (fun c d _ H => q.E g.b g.H c d H) p e m) (hb : VXs G q R0 bs σ0 body mb) : VX G q R0 bs σ0 (.While e body [] pos) (gWhile fuel m mb) := by
 refine XS.pre (xs_while hc hb) fun D g i σ H ⟨R, ρ, Os, r0, rel, pin, kg, post⟩ => ?_
 refine ⟨fun k g i σ H => ∃ R ρ Os, Cov R0 g R ∧ Rel G R H σ ρ Os ∧ PinB bs σ0 σ ∧ KG g H Os ∧ PostX G q R0 D bs σ0 g R H Os i (whileG m mb k i ρ), ⟨fuel ρ, R, ρ, Os, r0, rel, pin, kg, post⟩, ?_⟩
 rintro k g i σ H ⟨R, ρ, Os, r0, rel, pin, kg, post⟩
 refine ⟨R, ρ, Os, rel, ?_⟩
 cases k with
 | zero => exact post.elim
 | succ k =>
  unfold whileG at post
  cases hm : m ρ with
  | bad => rw [hm] at post; exact post
  | exc e ρ' => rw [hm] at post; exact fun c d H' Os' r rx k => ⟨post.1.1, post.1.2, post.2 c d σ H' Os' pin r rx k⟩
  | ok v ρ1 =>
   rw [hm] at post
   cases v with
   | bl t =>
    intro H1 Os1 rel1 k1 _
    cases t with
    | false => exact post.2 g R σ H1 Os1 (fun _ => ⟨rfl, rfl, k1⟩) r0 pin rel1 (kg.step k1)
    | true =>
     simp only [if_true] at post ⊢
     refine ⟨fun g' i' σ' H' => ∃ R ρ Os, Cov R0 g' R ∧ Rel G R H' σ' ρ Os ∧ PinB bs σ0 σ' ∧ KG g' H' Os ∧ PostX G q R0 D bs σ0 g' R H' Os i' (whileG m mb k i' ρ), fun _ _ _ _ z => ⟨k, Nat.lt_succ_self k, z⟩, R, ρ1, Os1, r0, rel1, pin, kg.step k1, ?_⟩
     refine PostX.later (H := H) (Os := Os) ?_ k1
     cases hb : mb i ρ1 with
     | bad => rw [hb] at post; exact post
     | exc e ρ2 => rw [hb] at post; exact post
     | nx zs ρ2 =>
      rw [hb] at post
      exact ⟨fun j z e => PostX.head post j z e, fun g' R' σ' H' Os' same r0' p r kg' => ⟨R', ρ2, Os', r0', r, p, kg', PostX.after post same⟩⟩
   | _ => exact post.elim
end
end VL
namespace VL
open PySem PySem.Spec PyProof.Rows L2 GenW
abbrev SpX := List V → Hp → (Nat → Prop) → YP → XK → (Addr → Prop) → Prop
structure Later (y y2 : Shared) : Prop where
 os : y2.os = y.os
 bare : AllBare y2.gens
 keep : ∀ b o, y.heap.get? b = some o → y2.heap.get? b = some o
theorem Went.later {P : Program} {w : World} {outer : List Env} {g : Gh} {cp : List (Addr × Obj)} {y y2 : Shared} {H : Hp} {G2 : Addr → Prop} (z : Went P w outer g cp y H G2) (l : Later y y2) : Went P w outer g cp y2 H G2 :=
 ⟨l.os.trans z.os, l.bare, z.un.trans (Un.kept l.keep), z.hok.kept l.keep, fun p hp => ⟨l.keep _ _ (z.own p hp).1, (z.own p hp).2⟩, z.keep, z.apart⟩
structure WokeP (P : Program) (w : World) (K : PySem.W.Frag) (mg : Str → Option Value) (base : Heap) (B : Around) (outer : List Env) (L : Addr) (Ss : List Addr) (C : Addr → Prop) (y : Shared) (H : Hp) (y' : Shared) (H' : Hp) : Prop where
 e0 : Env0 P w K mg base B outer y' H'
 os : y'.os = y.os
 old : ∀ b o, L ≤ b → b ∉ Ss → H b = none → y.heap.get? b = some o → y'.heap.get? b = some o ∧ H' b = none
 typed : ∀ a u, H a = some u → ¬ C a → H' a = some u
 there : ∀ a u, H a = some u → ∃ u', H' a = some u'
def CpOk (Ss : List Addr) (H : Hp) (y : Shared) (cp : List (Addr × Obj)) : Prop := cp.map (·.1) = Ss ∧ ∀ p ∈ cp, y.heap.get? p.1 = some p.2 ∧ H p.1 = none ∧ ∀ v, p.2.data ≠ .cell v
def OverX (P : Program) (w : World) (outer : List Env) (H : Hp) (z : Shared) (J : OwnJ) (a : Addr) (g : Nat) (Q : Nat → Prop) (E0 : XK) : GenEnd := fun n _ r y =>
 ((r = .ok (.ret .none) ∨ r = .ok .next) ∧ AllBare y.gens ∧ ∃ i H' Cg, (∀ y2, Later y y2 → J i y2 H' (fun _ => False) Cg) ∧ i ≤ sizeLine ∧ Q i) ∨ ∃ e, r = .error e ∧ L2.CX P w outer H z E0 e y ∧ y.heap.IsGen a g
def ItemX (P : Program) (w : World) (K : PySem.W.Frag) (mg : Str → Option Value) (base : Heap) (B : Around) (outer : List Env) (L : Addr) (Ss : List Addr) (J : OwnJ) (a : Addr) (g : Nat) (yp : YP) : Protocol := fun n s₀ v y kap =>
 AllBare y.gens ∧ y.heap.NoLimit ∧ y.heap.IsGen a g ∧ ∃ i x H C N Gw Cg, n + 1 + i = sizeLine ∧ RelV x v ∧ (∀ y2, Later y y2 → J i y2 H (fun a => Gw a ∨ N a) Cg) ∧ (∀ a, Cg a → C a) ∧ yp i x H C N Gw ∧ (H a = none ∧ L ≤ a) ∧
  ∀ (y' : Shared) (H' : Hp) (cp : List (Addr × Obj)), WokeP P w K mg base B outer L Ss C y H y' H' → CpOk Ss H' y' cp → (∀ y2 H2 G2, Went P w outer ⟨cutS L y', H', Gw, newC C H H'⟩ cp y2 H2 G2 → J (i + 1) y2 H2 G2 (newC C H H')) → kap (.send .none) y'
structure MadeX (P : Program) (w : World) (K : PySem.W.Frag) (mg : Str → Option Value) (base : Heap) (k : Nat) (outer : List Env) (H : Hp) (z : Shared) (Q : Nat → Prop) (yp : YP) (E0 : XK) (Gw0 : Addr → Prop) (a : Addr) (z' : Shared) : Prop where
 lo : z.heap.objs.size ≤ a
 hi : a < z'.heap.objs.size
 os : z'.os = z.os
 bare : AllBare z'.gens
 lim : z'.heap.NoLimit
 old : ∀ b o, z.heap.get? b = some o → z'.heap.get? b = some o
 own : ∃ (g : Nat) (c : Code), z'.heap.IsGen a g ∧ z'.gens[g]? = some (.fresh c) ∧ ∀ (B : Around) (Ss : List Addr) (J : OwnJ) (y : Shared) (cp : List (Addr × Obj)), RoomG k B → B.frames = some outer → (∀ b ∈ Ss, z'.heap.objs.size ≤ b) → (∀ b o, z'.heap.get? b = some o → y.heap.get? b = some o) → CpOk Ss H y cp → y.os = z.os → AllBare y.gens →
  (∀ y2 H2 G2, Went P w outer ⟨z, H, Gw0, fun _ => False⟩ cp y2 H2 G2 → J 0 y2 H2 G2 fun _ => False) → Seg (model P w) B (OverX P w outer H z J a g Q E0) (ItemX P w K mg base B outer z.heap.objs.size Ss J a g yp) sizeLine y c ((model P w).den c) [] y
structure GFnX (P : Program) (w : World) (K : PySem.W.Frag) (mg : Str → Option Value) (base : Heap) (k : Nat) (f : Addr) (fd : FuncData) (ps : List Str) (sp : SpX) : Prop where
 len : ∀ vs H Q yp E G, sp vs H Q yp E G → vs.length = ps.length
 run : ∀ (B : Around) (outer : List Env) (z : Shared) (H : Hp) (args : Args) (us : List Value) (vs : List V) (Q : Nat → Prop) (yp : YP) (E : XK) (Gw : Addr → Prop), RoomG k B → Env0 P w K mg base B outer z H → BindsTo z fd args (ps.zip us) → Vals vs us → sp vs H Q yp E Gw →
  codeAny (model P w) B (.call (.ref f) args) (fun r z' => ∃ a, r = .ok (.ret (.ref a)) ∧ MadeX P w K mg base k outer H z Q yp E Gw a z') z
section
variable {P : Program} {w : World} {K : PySem.W.Frag} {mg : Str → Option Value} {base : Heap} {N : List Str} {qual : Str} {scope : Scope} {f : Addr} {cd : Value} {outer : List Env} {z : Shared} {H : Hp} {k : Nat}
theorem gfnX_of {name : Str} {params : Arguments} {body : List Stmt} {dV kV doc pm cdv ct oc : Value} {an od : Option Addr} {osl : Array (Option Value)} {ps : List Str} {sp : SpX} (lk : K.lookup f = some ⟨oc, od, .func (PySem.W.fnOf name qual params body scope dV kV doc pm an cdv ct), osl⟩)
    (hcd : PySem.W.codeIn K cdv qual = true) (S : GScope N ps scope) (len : ∀ vs H Q yp E G, sp vs H Q yp E G → vs.length = ps.length)
    (walk : ∀ (A : Around) (outer : List Env) (L : Addr) (pn : List (Addr × Obj)) (b0 : Shared) (H0 : Hp) (E0 : XK) (vs : List V) (Q : Nat → Prop) (yp : YP) (Gw : Addr → Prop), RoomG k (A.deeper (envOfC qual scope L f cdv)) → sp vs H0 Q yp E0 Gw →
     ∃ t, XSs ⟨P, w, K, mg, base, N, qual, scope, f, cdv, A, outer, L, pn, b0, H0, E0⟩ body t ∧ t { nx := fun g i _ H' => Q i ∧ ∀ a u, g.H a = some u → ¬ g.Gw a → H' a = some u, rt := fun g i v H' => v = .non ∧ Q i ∧ ∀ a u, g.H a = some u → ¬ g.Gw a → H' a = some u, yp := yp } ⟨b0, H0, Gw, fun _ => False⟩ 0 (start N vs) H0) :
    GFnX P w K mg base (k + 1) f (PySem.W.fnOf name qual params body scope dV kV doc pm an cdv ct) ps sp := by
 refine ⟨len, fun B outer z H args us vs Q yp E0 Gw0 hr e0 hb r hsp => ?_⟩
 have here : ∀ (b : Addr) (o : Obj), base.get? b = some o → z.heap.get? b = some o := fun b o e => (e0.bs b o e).1
 have KX : K.In z.heap := e0.mod.kin.keeps here
 have kinds : ∀ y ∈ ps.zip us, scope.names.lookup y.1 = some .local ∨ (scope.names.lookup y.1 = some .cell ∧ ((cellsFrom (z.heap.objs.size + 1) scope.names []).lookup y.1).isSome = true) := fun y hy => (S.par y.1 (List.of_mem_zip (a := y.1) (b := y.2) hy).1).imp id fun q => ⟨q, PySem.W.cellsFrom_some _ _ _ (.inl q)⟩
 refine codeAny_call_generator hr.toRoom.depth (KX _ _ lk) rfl S.co S.gen rfl (PySem.W.codeRec_of KX hcd) (hb _ _ _ _ (wpAny_newFunctionEnv_cells S.kind kinds fun env he z1 x => ?_))
 subst he
 have lim1 : z1.heap.NoLimit := (e0.mod.nolimit.keeps here).keeps x.toInCall.keep
 have above : z.heap.objs.size < z1.heap.objs.size := x.toInCall.ns.lt
 have kept := x.toInCall.keep
 obtain ⟨_, _, ez, _⟩ := x.done
 have gens1 : z1.gens = z.gens := by rw [ez]
 have os1 : z1.os = z.os := by rw [ez]
 refine ⟨lim1, _, rfl, ?_⟩
 generalize hgo : ({ cls := .type "generator", data := .fields #[.int z1.gens.size 0, .str name z1.toks, .str qual (z1.toks + 1)] } : Obj) = go
 have gcls : go.cls = .type "generator" := by rw [← hgo]
 have gdat : ∃ a b, go.data = .fields #[.int z1.gens.size 0, a, b] := ⟨_, _, by rw [← hgo]⟩
 have gslt : go.slots = #[] := by rw [← hgo]
 have put : ∀ h : Heap, (h.push go).get? h.objs.size = some go := fun h => Heap.get?_push_size _ (by rw [← hgo]; rfl)
 have isG : ∀ {h : Heap}, h.get? z1.heap.objs.size = some go → h.IsGen z1.heap.objs.size z1.gens.size := fun e => by
  obtain ⟨a, b, d⟩ := gdat
  exact ⟨go, a, b, e, gcls, d, gslt⟩
 have noCell : ∀ v, go.data ≠ .cell v := fun v q => by
  obtain ⟨a, b, d⟩ := gdat
  rw [d] at q; cases q
 refine ⟨Nat.le_of_lt above, ?_, os1, AllBare.push (by rw [gens1]; exact e0.bare) rfl, lim1.keeps fun b o e => Heap.get?_push_of_some _ e, fun b o e => Heap.get?_push_of_some _ (kept b o e), z1.gens.size, _, isG (put _), Array.getElem?_push_size .., fun B' Ss J y cp hr' hfr hT hk hcp hos hba hJ => ?_⟩
 · show _ < (z1.heap.push go).objs.size
   rw [Heap.size_push]; exact Nat.lt_succ_self _
 have e0' : Env0 P w K mg base B' outer z H := ⟨hfr, e0.mod, e0.bs, e0.bsz, e0.funs, e0.frf, e0.hok, e0.bare⟩
 let q : GQ := ⟨P, w, K, mg, base, N, qual, scope, f, cdv, B', outer, z.heap.objs.size, [(z1.heap.objs.size, go)], z, H, E0⟩
 obtain ⟨t, ht, hq⟩ := walk B' outer z.heap.objs.size [(z1.heap.objs.size, go)] z H E0 vs Q yp Gw0 (hr'.deeper _) hsp
 have J1 : Inv (gcxOf P w K mg base N qual scope f cdv B' outer z H E0 []) [] (start N vs) H z1 := inv_startG S hr'.toRoom.hd e0' (len _ _ _ _ _ _ hsp) r x
 have same : ∀ b o, z1.heap.get? b = some o → y.heap.get? b = some o := fun b o e => hk b o (Heap.get?_push_of_some _ e)
 have J2 : Inv (gcxOf P w K mg base N qual scope f cdv B' outer z H E0 []) [] (start N vs) H y := J1.call' (ch := []) (hos.trans os1.symm) (Un.kept same) (J1.hok.kept same) hba fun b q => (List.not_mem_nil q).elim
 have lt : ∀ T ∈ Ss, z1.heap.objs.size < T := fun T hm => by
  have q : (z1.heap.push go).objs.size ≤ T := hT T hm
  rw [Heap.size_push] at q; exact q
 have atG : y.heap.get? z1.heap.objs.size = some go := hk _ go (put _)
 have late : ∀ b, z1.heap.objs.size ≤ b → H b = none ∧ b ≠ z.heap.objs.size ∧ b ∉ frs outer ∧ z.heap.objs.size ≤ b ∧ ∀ q c, (cellsFrom (z.heap.objs.size + 1) scope.names []).lookup q = some c → c ≠ b := fun b hb =>
  ⟨J1.hok.fresh hb, Nat.ne_of_gt (Nat.lt_of_lt_of_le above hb), J1.nofs hb, Nat.le_trans (Nat.le_of_lt above) hb, fun q c e e2 => by
   obtain ⟨_, o, ho, _⟩ := J1.cell q c e
   rw [e2] at ho
   exact Nat.lt_irrefl _ (Nat.lt_of_lt_of_le (Heap.lt_size ho) hb)⟩
 have lateG := late _ (Nat.le_refl _)
 have lateT := fun T hm => late T (Nat.le_of_lt (lt T hm))
 obtain ⟨ec, hcp⟩ := hcp
 have mem : ∀ p ∈ cp, p.1 ∈ Ss := fun p hp => by rw [← ec]; exact List.mem_map.mpr ⟨p, hp, rfl⟩
 have J3 : Inv (q.x z H) cp (start N vs) H y := ⟨⟨J2.ok.mod, J2.ok.kind, J2.ok.glob, J2.ok.blt, J2.ok.above, J2.ok.inj, J2.ok.has, J2.ok.cab, J2.ok.hd, J2.ok.frames, J2.ok.stk, J2.ok.exf, J2.ok.bs, J2.ok.bsz, J2.ok.noex, J2.ok.exfs, J2.ok.funs, J2.ok.frf⟩, J2.os, J2.bare, J2.base, J2.loc, J2.cell, J2.free, J2.freeC, fun p hp => by
  rcases List.mem_append.mp hp with m | m
  · have e : p = (z1.heap.objs.size, go) := List.mem_singleton.mp m
    rw [e]; exact ⟨atG, lateG.1, lateG.2.1, lateG.2.2.1, noCell⟩
  · have l := lateT p.1 (mem p m)
    exact ⟨(hcp p m).1, l.1, l.2.1, l.2.2.1, (hcp p m).2.2⟩, J2.hok, J2.len⟩
 have start_ : RunJ q Ss J ⟨z, H, Gw0, fun _ => False⟩ 0 (start N vs) H y := ⟨cp, ec, rfl, J3, fun _ => ⟨rfl, rfl⟩, hJ⟩
 have stillG : ∀ {g : Gh} {i : Nat} {y' : Shared} {σ' : L2.St} {H' : Hp}, RunJ q Ss J g i σ' H' y' → y'.heap.IsGen z1.heap.objs.size z1.gens.size ∧ H' z1.heap.objs.size = none := fun ⟨cp, _, _, I, _⟩ =>
  let m := I.pin (z1.heap.objs.size, go) (List.mem_append_left _ (List.mem_singleton.mpr rfl)); ⟨isG m.1, m.2.1⟩
 have later : ∀ {g : Gh} {i : Nat} {y' : Shared} {σ' : L2.St} {H' : Hp}, RunJ q Ss J g i σ' H' y' → ∀ G2 : Addr → Prop, (∀ a u, g.H a = some u → ¬ g.Gw a → H' a = some u ∧ ¬ G2 a) → ∀ y2, Later y' y2 → J i y2 H' G2 g.C := fun ⟨cp, _, _, I, _, hJ⟩ G2 tk y2 l =>
  hJ y2 _ _ (Went.later ⟨I.os, I.bare, I.base, I.hok, fun p hp => ⟨(I.pin p (List.mem_append_right _ hp)).1, (I.pin p (List.mem_append_right _ hp)).2.1⟩, fun a u e n => (tk a u e n).1, fun a u e n => (tk a u e n).2⟩ l)
 have flat : ∀ {g : Gh} {e : Value} {y' : Shared}, L2.CX P w outer g.H g.b (q.E g.b g.H) e y' → L2.CX P w outer H z E0 e y' := fun {g e y'} h => by
  obtain ⟨gb, gH, gw, gC⟩ := g
  obtain ⟨a, B, H', cls, d, h1, h2, h3, h4, h5, h6, h7, e1, e2, h8⟩ := h
  have e1 : gb = z := e1
  have e2 : gH = H := e2
  subst e1
  subst e2
  exact ⟨a, B, H', cls, d, h1, h2, h3, h4, h5, h6, h7, h8⟩
 refine seg_func (seg_imp (R := fun n s₀ r y => match r with
     | .ok (.ret u) => ∃ i g σ H', n + i = sizeLine ∧ RunJ q Ss J g i σ H' y ∧ u = .none ∧ Q i ∧ ∀ a u, g.H a = some u → ¬ g.Gw a → H' a = some u
     | .ok _ => False
     | .error e => L2.CX P w outer H z E0 e y ∧ y.heap.get? z1.heap.objs.size = some go) (Y := YJ q Ss J yp) ?_ ?_ sizeLine ?_)
 · intro n s₀ res y' h
   match res, h with
   | .error e, ⟨h1, h2⟩ => exact .inr ⟨e, rfl, h1, isG h2⟩
   | .ok (.ret u), ⟨i, g, σ', H', hn, hI, eu, hQ, tk⟩ =>
    have l := later hI (fun _ => False) fun a u e n => ⟨tk a u e n, id⟩
    obtain ⟨cp2, _, _, I, _, _⟩ := hI
    exact .inl ⟨.inl (by rw [eu]), I.bare, i, H', _, l, by omega, hQ⟩
 · intro n s₀ v y' kap kap' up h
   obtain ⟨i, x, g, σ', H', C, N, Gw, hn, rv, hI, tk, hc, hy, h3⟩ := h
   have l := later hI _ tk
   have sg := stillG hI
   obtain ⟨cp2, _, _, I, _, _⟩ := hI
   exact ⟨I.bare, I.nolimit, sg.1, i, x, H', C, N, Gw, _, hn, rv, l, hc, hy, ⟨sg.2, Nat.le_of_lt above⟩, fun y2 H2 cp3 wk ck hj => up _ _ (h3 y2 H2 cp3 ⟨wk.e0, wk.os, wk.old, wk.typed, wk.there⟩ ck.1 ck.2 hj)⟩
 · refine ht.run B' Ss J _ sizeLine 0 ⟨z, H, Gw0, fun _ => False⟩ y _ [] _ _ id id y (start N vs) H _ ⟨fun p hp => ?_, fun b hb => ⟨?_, (lateT b hb).2.2.1, (lateT b hb).2.2.2.2⟩, fun b hb => ?_, over_func, rfl, rfl, rfl⟩ (Nat.add_zero _) ⟨fun n i g s₀ y' fl hn h => ?_, fun n s₀ g e y' h => ?_⟩ start_ hq
   · have e : p = (z1.heap.objs.size, go) := List.mem_singleton.mp hp
     rw [e]
     exact ⟨Nat.le_of_lt above, fun hm => Nat.lt_irrefl _ (lt _ hm)⟩
   · exact Nat.lt_trans above (lt b hb)
   · obtain ⟨_, o, ho, _⟩ := e0.funs.mem hb
     exact Heap.lt_size ho
   · match fl, h with
     | .next, ⟨σ', H', hI, hQ, tk⟩ => exact seg_end (.ok (.ret .none)) ⟨i, g, σ', H', hn, hI, rfl, hQ, tk⟩
     | .ret u, ⟨v, σ', H', hI, rv, ev, hQ, tk⟩ =>
      have eu : u = Value.none := by rw [ev] at rv; exact rv
      exact seg_end (.ok (.ret u)) ⟨i, g, σ', H', hn, hI, eu, hQ, tk⟩
     | .brk, ⟨_, _, _, z⟩ => exact z.elim
     | .cont, ⟨_, _, _, z⟩ => exact z.elim
   · refine seg_wrap ?_
     rw [over_func]
     exact wpAny_mono h (fun _ y2 m => seg_end (.error e) ⟨flat m.1, m.2 (z1.heap.objs.size, go) (List.mem_singleton.mpr rfl)⟩) fun _ _ m => m.elim
end
def spXV (G : Gam) (n : Nat) (mf : MGF) : SpX := fun xs H Q yp E0 Gw => xs.length = n ∧ ∃ R vs Oa, Rel G R H (xs.map some) (vs.map some) Oa ∧ Gw = We Oa ∧ (match mf vs with
 | .nx zs ρ => (∀ j z, zs[j]? = some z → Gives G R yp j z) ∧ Q zs.length
 | .exc e ρ => ∀ c d H' Os', Rel G R H' (xs.map some) ρ Os' → RepX G (WW R Os') H' c d e → KeepE H Oa H' Os' (fun _ => False) → E0 c d H'
 | .bad => False)
theorem xbody_of {G : Gam} {q : GQ} {bs : List Bool} {N ps : List Str} {m : MGn} {body : List Stmt} {xs : List V} {Q : Nat → Prop} {yp : YP} {Gw : Addr → Prop} (hn : bs.length = ps.length) (hN : ps.length ≤ N.length) (hb : ∀ R0 σ0, VXs G q R0 bs σ0 body m) (h : spXV G ps.length (gBody bs N.length m) xs q.H0 Q yp q.E0 Gw) :
    ∃ t, XSs q body t ∧ t { nx := fun g i _ H' => Q i ∧ ∀ a u, g.H a = some u → ¬ g.Gw a → H' a = some u, rt := fun g i v H' => v = .non ∧ Q i ∧ ∀ a u, g.H a = some u → ¬ g.Gw a → H' a = some u, yp := yp } ⟨q.b0, q.H0, Gw, fun _ => False⟩ 0 (start N xs) q.H0 := by
 obtain ⟨hl, R, vs, Oa, rel, rfl, post⟩ := h
 refine ⟨_, hb R (start N xs), ?_⟩
 have hv : xs.length = vs.length := by simpa using rel.len
 have hlb : xs.length = bs.length := by omega
 refine ⟨R, _, Oa, ⟨fun a z => z, fun a z => z.elim⟩, rel_start (N := N) rel, fun _ _ => rfl, ⟨fun a u e _ => e, fun a z => .inl z⟩, ?_⟩
 unfold gBody at post
 rw [show N.length - bs.length = N.length - vs.length by omega] at post
 cases hm : m 0 (vs.map some ++ List.replicate (N.length - vs.length) none) with
 | bad => rw [hm] at post; exact post
 | exc e ρ' =>
  rw [hm] at post
  refine ⟨⟨rfl, rfl⟩, fun c d σ' H' Os' pin rel' rx k => ?_⟩
  obtain ⟨Os2, r2, w2⟩ := rel_outs hlb pin rel'
  exact post c d H' Os2 r2 (rx.mono fun a o e nw => ⟨e, fun z => nw (z.imp id (w2 a))⟩) fun a o e nw => let ⟨e1, n1, n2⟩ := k a o e nw; ⟨e1, fun z => n1 (w2 a z), n2⟩
 | nx zs ρ' =>
  rw [hm] at post
  refine ⟨fun j z e => ?_, fun g' R' σ' H' Os' _ _ _ _ kg => ⟨?_, kg.keep⟩⟩
  · rw [Nat.zero_add]; exact post.1 j z e
  · rw [Nat.zero_add]; exact post.2
def OkX (P : Program) (w : World) (K : PySem.W.Frag) (mg : Str → Option Value) (base : Heap) (G : Gam) (d : VDef) (k : Nat) (ps : List Str) (mf : MGF) : Prop :=
 ∃ fd, FunV K d fd ∧ GFnX P w K mg base k (d.ad K) fd ps (spXV G ps.length mf)
theorem okX_of {P : Program} {w : World} {K : PySem.W.Frag} {mg : Str → Option Value} {base : Heap} {G : Gam} {d : VDef} {k : Nat} {N ps : List Str} {bs : List Bool} {mb : MGn} (F : ∃ fd, FunV K d fd) (S : GScope N ps d.scope) (hn : bs.length = ps.length)
    (hbody : ∀ (cdv : Value) (A : Around) (outer : List Env) (L : Addr) (pn : List (Addr × Obj)) (b0 : Shared) (H0 : Hp) (E0 : XK) (R0 : Addr → Prop), RoomG k (A.deeper (envOfC d.qual d.scope L (d.ad K) cdv)) →
     (∀ g : Gh, Air.Takes .l (GQ.x ⟨P, w, K, mg, base, N, d.qual, d.scope, d.ad K, cdv, A, outer, L, pn, b0, H0, E0⟩ g.b g.H) (fun c d' _ H => GQ.E ⟨P, w, K, mg, base, N, d.qual, d.scope, d.ad K, cdv, A, outer, L, pn, b0, H0, E0⟩ g.b g.H c d' H)) →
     (∀ g : Gh, PassesOwn (model P w) (GQ.x ⟨P, w, K, mg, base, N, d.qual, d.scope, d.ad K, cdv, A, outer, L, pn, b0, H0, E0⟩ g.b g.H).A (GQ.x ⟨P, w, K, mg, base, N, d.qual, d.scope, d.ad K, cdv, A, outer, L, pn, b0, H0, E0⟩ g.b g.H).env (GQ.x ⟨P, w, K, mg, base, N, d.qual, d.scope, d.ad K, cdv, A, outer, L, pn, b0, H0, E0⟩ g.b g.H).xe) → ∀ σ0, VXs G ⟨P, w, K, mg, base, N, d.qual, d.scope, d.ad K, cdv, A, outer, L, pn, b0, H0, E0⟩ R0 bs σ0 d.body mb) :
    OkX P w K mg base G d (k + 1) ps (gBody bs N.length mb) := by
 obtain ⟨fd, F⟩ := F
 refine ⟨fd, F, ?_⟩
 obtain ⟨oc, od, dV, kV, doc, pm, an, cdv, ct, osl, e, lk, hcd, _, _⟩ := F.ex
 subst e
 have hN : ps.length ≤ N.length := by
  have := congrArg List.length S.pre
  rw [List.length_take] at this
  omega
 exact gfnX_of lk hcd S (fun vs H Q yp E G h => h.1) fun A outer L pn b0 H0 E0 vs Q yp Gw hr h => xbody_of (q := ⟨P, w, K, mg, base, N, d.qual, d.scope, d.ad K, cdv, A, outer, L, pn, b0, H0, E0⟩) hn hN (fun R0 σ0 => hbody cdv A outer L pn b0 H0 E0 R0 hr (fun g => takes_gq) (fun g => owns_gq) σ0) h
end VL
namespace VL
open PySem PySem.Spec PyProof.Rows L2 GenW
section
variable {P : Program} {w : World} {K : PySem.W.Frag} {mg : Str → Option Value} {base : Heap} {outer : List Env} {H0 H H2 : Hp} {z z' y y' y2 : Shared}
theorem Un.cut (L : Nat) (u : Un (frs outer) [] H0 H z.heap y.heap) (hz : z.heap.objs.size = L) (k : ∀ b o, b < L → y.heap.get? b = some o → y'.heap.get? b = some o) (v : Un (frs outer) [] H H2 (cutH y'.heap L) y2.heap) : Un (frs outer) [] H0 H2 z.heap y2.heap := by
 have lt : ∀ {b o}, z.heap.get? b = some o → b < L := fun e => by rw [← hz]; exact Heap.lt_size e
 have at_ : ∀ {b o}, b < L → y.heap.get? b = some o → (cutH y'.heap L).get? b = some o := fun {b o} l e => by rw [cut_lt l]; exact k b o l e
 have nx : ∀ b : Addr, b ∉ ([] : List Addr) := fun b h => nomatch h
 refine ⟨fun b o e n hb hx => ?_, fun b o e n hb hx => ?_, fun b o e n hx => ?_, fun b o e hx => ?_, fun b xs e => v.tups b xs (u.tups b xs e), fun b o x e => v.frzs b o x (u.frzs b o x e), fun b ps e => ?_⟩
 · exact v.keep b o (at_ (lt e) (u.keep b o e n hb hx)) (u.free b o e n hx) hb hx
 · obtain ⟨sl, e1⟩ := u.slot b o e n hb hx
   obtain ⟨sl2, e2⟩ := v.slot b _ (at_ (lt e) e1) (u.free b o e n hx) hb hx
   exact ⟨sl2, e2⟩
 · obtain ⟨o1, e1⟩ := u.there b o e hx
   exact v.free b o1 (at_ (lt e) e1) (u.free b o e n hx) hx
 · obtain ⟨o1, e1⟩ := u.there b o e hx
   exact v.there b o1 (at_ (lt e) e1) hx
 · obtain ⟨m1, e1⟩ := u.tbls b ps e
   obtain ⟨m2, e2⟩ := v.tbls b _ e1
   exact ⟨m1 ++ m2, by rw [e2, Array.append_assoc]⟩
theorem Env0.un {B B' : Around} (e0 : Env0 P w K mg base B outer z H0) (hf : B'.frames = some outer) (u : Un (frs outer) [] H0 H z.heap y.heap) (hok : HOk P w H y'.heap) (bare : AllBare y'.gens) (k : ∀ b o, b < z.heap.objs.size → y.heap.get? b = some o → y'.heap.get? b = some o) (sz : z.heap.objs.size ≤ y'.heap.objs.size) : Env0 P w K mg base B' outer y' H := by
 have nx : ∀ b : Addr, b ∉ ([] : List Addr) := fun b h => nomatch h
 have nf : ∀ b o, base.get? b = some o → b ∉ frs outer := fun b o e hb => by
  have := (e0.funs.mem hb).1
  rw [e] at this; cases this
 refine ⟨hf, e0.mod, fun b o e => ?_, Nat.le_trans e0.bsz sz, ?_, fun b hb => ?_, hok, bare⟩
 · have h := e0.bs b o e
   exact ⟨k b o (Heap.lt_size h.1) (u.keep b o h.1 h.2 (nf b o e) (nx b)), u.free b o h.1 h.2 (nx b)⟩
 · have fr : ∀ b ∈ frs outer, ∀ o, z.heap.get? b = some o → ∃ o', y'.heap.get? b = some o' ∧ o'.data = o.data := fun b hb o e => by
     obtain ⟨sl, e1⟩ := u.slot b o e (e0.frf b hb) hb (nx b)
     exact ⟨_, k b _ (Heap.lt_size e) e1, rfl⟩
   have all : ∀ l : List Env, (∀ b ∈ frs l, b ∈ frs outer) → z.heap.FunFrames base l → y'.heap.FunFrames base l := fun l => by
    induction l with
    | nil => exact fun _ _ => trivial
    | cons env rest ih =>
     intro sub ⟨hk, ⟨L, o, hL, hn, ho, hd⟩, hr⟩
     have m : L ∈ frs (env :: rest) := by show L ∈ (env :: rest).filterMap _; rw [List.filterMap_cons, hL]; exact List.mem_cons_self
     obtain ⟨o', e1, e2⟩ := fr L (sub L m) o ho
     refine ⟨hk, ⟨L, o', hL, hn, e1, fun vs => e2 ▸ hd vs⟩, ih (fun b hb => sub b ?_) hr⟩
     show b ∈ (env :: rest).filterMap _
     rw [List.filterMap_cons, hL]
     exact List.mem_cons_of_mem _ hb
   exact all outer (fun b hb => hb) e0.funs
 · obtain ⟨_, o, ho, _⟩ := e0.funs.mem hb
   exact u.free b o ho (e0.frf b hb) (nx b)
structure ListJ (P : Program) (w : World) (outer : List Env) (H0 : Hp) (z : Shared) (Gw0 : Addr → Prop) (T : Addr) (i : Nat) (y : Shared) (H : Hp) (Gw C : Addr → Prop) : Prop where
 os : y.os = z.os
 bare : AllBare y.gens
 un : Un (frs outer) [] H0 H z.heap y.heap
 hok : HOk P w H y.heap
 nT : H T = none
 lst : ∃ acc c xs, y.heap.get? T = some (lstObj acc c) ∧ Vals xs acc.toList ∧ xs.length = i
 keep : ∀ a u, H0 a = some u → ¬ Gw0 a → H a = some u ∧ ¬ Gw a
theorem drainX {B B0 : Around} {R : Result → Shared → Prop} {T a : Addr} {g : Nat} {res : Value} {k : Nat} {Q : Nat → Prop} {yp : YP} {E0 : XK} {Gw0 : Addr → Prop} (calm : B.handled = none) (room : B.depth < recursionLimit) (hfr : B.frames = some outer) (e0 : Env0 P w K mg base B0 outer z H0) (neG : T ≠ a) (neC : T ≠ cStatics) (hT : z.heap.objs.size ≤ T)
    (over : ∀ y acc c H' i xs, y.heap.get? T = some (lstObj acc c) → Vals xs acc.toList → xs.length = i → i ≤ sizeLine → y.os = z.os → AllBare y.gens → Un (frs outer) [] H0 H' z.heap y.heap → HOk P w H' y.heap → H' T = none → (∀ a u, H0 a = some u → ¬ Gw0 a → H' a = some u) → Q i → R (.ok (.ret res)) y)
    (flew : ∀ e y, L2.CX P w outer H0 z E0 e y → NotStop (model P w) e y.heap ∧ R (.error e) (y.setGen g .finished)) :
    ∀ (m : Nat) (y : Shared), y.heap.IsGen a g → y.heap.NoLimit → (∃ gs, y.gens[g]? = some gs ∧ gs.Goes (model P w) B.in1.in1 (OverX P w outer H0 z (ListJ P w outer H0 z Gw0 T) a g Q E0) (ItemX P w K mg base B.in1.in1 outer z.heap.objs.size [T] (ListJ P w outer H0 z Gw0 T) a g yp) m (.send .none) (y.setGen g .running)) →
     codeAny (model P w) B (.builtin "list.extend.loop" ⟨[.ref T, .ref a, res], []⟩) R y := by
 intro m
 induction m using Nat.strongRecOn with
 | ind m ih =>
  intro y hg hl ⟨gs, hgs, hgo⟩
  have hgl : g < y.gens.size := (Array.getElem?_eq_some_iff.mp hgs).1
  refine codeAny_builtin F.entry_extend_loop ?_
  rw [Around.under_plainId F.plain_extend_loop _]
  show wpAny _ B.in1 (pyNext (.ref a) >>= _) _ _ y
  refine wpAny_bind (wpAny_gsz (n := g + 1) hgl (next_genG (A := B.in1) (F := fun n _ y => AllBare y.gens ∧ ∃ i H' Cg, (∀ y2, Later y y2 → ListJ P w outer H0 z Gw0 T i y2 H' (fun _ => False) Cg) ∧ i ≤ sizeLine ∧ Q i) (Er := fun e y => L2.CX P w outer H0 z E0 e y ∧ y.heap.IsGen a g) calm hl room hg hgs hgo (fun v s1 gs' hb hv hsz => ?_) (fun s1 hp h' hk hsz => ?_) fun e s1 he => ⟨he.2, (flew e s1 he.1).1, fun hsz => (flew e s1 he.1).2⟩))
  · obtain ⟨b1, l1, g1, i, x, H', C, N, Gw, Cg, hn, rv, hJ, _, _, hLa, kap⟩ := hv
    have j := hJ s1 ⟨rfl, b1, fun b o e => e⟩
    obtain ⟨acc, c, xs, eT, rx, lx⟩ := j.lst
    have sz : acc.size = i := by have := rx.length; simpa [lx] using this.symm
    have szl : acc.size < sizeLine := by omega
    have old : ∀ b o, b ≠ T → s1.heap.get? b = some o → (s1.heap.update T (Obj.mapSeq (·.push v))).get? b = some o := fun b o hb e => (Heap.get?_update_other _ _ (Ne.symm hb)).trans e
    have ub : (s1.heap.update T (Obj.mapSeq (·.push v))).objs.size = s1.heap.objs.size := Heap.size_update ..
    have newT : (s1.heap.update T (Obj.mapSeq (·.push v))).get? T = some (Obj.mapSeq (·.push v) (lstObj acc c)) := Heap.get?_update_self _ eT rfl
    obtain ⟨c', eT'⟩ : ∃ c', (s1.heap.update T (Obj.mapSeq (·.push v))).get? T = some (lstObj (acc.push v) c') := ⟨_, newT⟩
    show wpAny _ B.in1 (updateSeq T (·.push v) >>= _) _ _ _
    refine wpAny_bind (wpAny_updateSeq eT rfl (wpAny_pure ⟨plainId_quiet F.plain_extend_loop _, ?_⟩) (Nat.le_of_lt szl) (by show (acc.push v).size ≤ sizeLine + 1; rw [Array.size_push]; omega))
    have gsz : g < s1.gens.size := by
     have q : (s1.setGen g gs').gens.size = s1.gens.size := setGen_size _ _ _
     omega
    let y3 : Shared := { s1.setGen g gs' with heap := s1.heap.update T (Obj.mapSeq (·.push v)) }
    have bare3 : AllBare (y3.setGen g .running).gens := allBare_setGen (s := y3) (allBare_setGen (s := s1) b1 hb) rfl
    have lo : ∀ b o, b < z.heap.objs.size → s1.heap.get? b = some o → y3.heap.get? b = some o := fun b o l e => old b o (Nat.ne_of_lt (Nat.lt_of_lt_of_le l hT)) e
    have hok3 : HOk P w H' y3.heap := fun b u e => (j.hok b u e).stay (fun c v hc q => old c v (fun z => by
     rcases hc with h | h
     · rw [← h, z, j.nT] at e; cases e
     · rw [z, j.nT] at h; cases h) q) (fun _ q => q) fun _ _ q => q
    have szz : z.heap.objs.size ≤ s1.heap.objs.size := Nat.le_trans hT (Nat.le_of_lt (Heap.lt_size eT))
    have wk : WokeP P w K mg base B.in1.in1 outer z.heap.objs.size [T] C s1 H' (y3.setGen g .running) H' :=
     ⟨Env0.un e0 hfr j.un hok3 bare3 lo (by show _ ≤ y3.heap.objs.size; rw [ub]; exact szz), rfl, fun b o _ hb n e => ⟨old b o (fun h => hb (by rw [h]; exact List.mem_singleton.mpr rfl)) e, n⟩, fun a u e _ => e, fun a u e => ⟨u, e⟩⟩
    have ck : CpOk [T] H' (y3.setGen g .running) [(T, lstObj (acc.push v) c')] := ⟨rfl, fun p hp => by rw [List.mem_singleton.mp hp]; exact ⟨eT', j.nT, fun v q => nomatch q⟩⟩
    have q := kap (y3.setGen g .running) H' [(T, lstObj (acc.push v) c')] wk ck fun y2 H2 G2 wt => by
     have o2 := wt.own (T, lstObj (acc.push v) c') (List.mem_singleton.mpr rfl)
     exact ⟨wt.os.trans j.os, wt.bare, Un.cut z.heap.objs.size j.un rfl lo wt.un, wt.hok, o2.2, ⟨acc.push v, c', xs ++ [x], o2.1, by rw [Array.toList_push]; exact rx.append (.cons rv .nil), by rw [List.length_append, lx]; rfl⟩, fun a u e n =>
      let k := j.keep a u e n; ⟨wt.keep a u k.1 fun z => k.2 (.inl z), wt.apart a u k.1 fun z => k.2 (.inl z)⟩⟩
    cases m with
    | zero => exact q.elim
    | succ m' =>
     refine ih m' (Nat.lt_succ_self _) y3 ?_ ?_ ⟨gs', setGen_at gsz, q⟩
     · obtain ⟨o, nm, qn, ho, r⟩ := g1
       exact ⟨o, nm, qn, old a o (Ne.symm neG) ho, r⟩
     · obtain ⟨mc, hns, hnn⟩ := l1
       exact ⟨mc, hns.at' fun o e => old _ o (Ne.symm neC) e, hnn⟩
  · obtain ⟨b1, i, H', Cg, hJ, hle, hQ⟩ := hp
    have j := hJ { s1.setGen g .finished with heap := h' } ⟨rfl, allBare_setGen b1 rfl, hk⟩
    obtain ⟨acc, c, xs, eT, rx, lx⟩ := j.lst
    exact wpAny_pure (over _ acc c H' i xs eT rx lx hle j.os j.bare j.un j.hok j.nT (fun a u e n => (j.keep a u e n).1) hQ)
theorem list_madeX {B B0 : Around} {a : Addr} {k : Nat} {Q : Nat → Prop} {yp : YP} {EX : XK} {Gw0 : Addr → Prop} {Y : Value → Shared → Prop} {Fl : Value → Shared → Prop} (hr : RoomG (k + 3) B) (hfr : B.frames = some outer) (e0 : Env0 P w K mg base B0 outer z H0) (h : MadeX P w K mg base k outer H0 z Q yp EX Gw0 a z')
    (got : ∀ T y acc c H' i xs, z'.heap.objs.size ≤ T → y.heap.get? T = some (lstObj acc c) → Vals xs acc.toList → xs.length = i → i ≤ sizeLine → y.os = z.os → AllBare y.gens → Un (frs outer) [] H0 H' z.heap y.heap → HOk P w H' y.heap → H' T = none → (∀ a u, H0 a = some u → ¬ Gw0 a → H' a = some u) → Q i → Y (.ref T) y)
    (flew : ∀ e y g, L2.CX P w outer H0 z EX e y → NotStop (model P w) e y.heap ∧ Fl e (y.setGen g .finished)) : wpAny (model P w) B (call (.type "list") [.ref a]) Y Fl z' := by
 obtain ⟨g, c, hg, hgs, wake⟩ := h.own
 let T := z'.heap.objs.size
 have neG : T ≠ a := Nat.ne_of_gt h.hi
 have neC : T ≠ cStatics := by
  obtain ⟨_, hn, _⟩ := h.lim
  exact Nat.ne_of_gt hn.lt
 have rm : RoomG k B.in1.in1.in1 := ⟨⟨hr.hd, by have := hr.dp; show B.depth + 3 * k + 5 < _; omega, by have := hr.un; show B.units + 1 + 1 + 1 + 16 * k + 200 < _; omega⟩, hr.gd⟩
 have h0 : (z'.heap.push { cls := .type "list", data := .seq #[] }).get? T = some { cls := .type "list", data := .seq #[] } := Heap.get?_push_size _ rfl
 have old0 : ∀ b o, z'.heap.get? b = some o → (z'.heap.push { cls := .type "list", data := .seq #[] }).get? b = some o := fun b o e => Heap.get?_push_of_some _ e
 have upd_ : ∀ {h : Heap} (t : Obj → Obj), (∀ b o, z'.heap.get? b = some o → h.get? b = some o) → ∀ b o, z'.heap.get? b = some o → (h.update T t).get? b = some o := fun {h} t q b o e => (Heap.get?_update_other _ _ (Nat.ne_of_gt (Heap.lt_size e))).trans (q b o e)
 have gen : ∀ {h : Heap}, (∀ b o, z'.heap.get? b = some o → h.get? b = some o) → h.IsGen a g := fun q => hg.keeps q
 refine callType_codes (Q₁ := fun o y => o = .ref T ∧ y = { z' with heap := z'.heap.push { cls := .type "list", data := .seq #[] } }) F.called_list (F.typeCall_list_1 _) F.entry_list_init (code_list_new _ ⟨rfl, rfl⟩) fun o y e => ?_
 cases e.1
 cases e.2
 refine ⟨⟨_, h0, rfl⟩, F.args_list_init_2 _ _, ?_⟩
 show wpAny _ B.in1.in1 (do let q ← Builtin.List.listItems (.ref T); Builtin.List.listUpdate (.ref T) (fun _ => #[]); letGo q.toList.reverse; Builtin.List.listExtendWith (.ref T) (.ref a) .none) _ _ _
 unfold Builtin.List.listItems
 refine wpAny_bind (wpAny_bind (wpAny_seqItems h0 rfl (wpAny_pure ?_)))
 have h1 := Heap.get?_update_self (Obj.mapSeq (fun _ => (#[] : Array Value))) h0 rfl
 have old1 := upd_ (Obj.mapSeq (fun _ => (#[] : Array Value))) old0
 refine wpAny_bind (wpAny_updateSeq h0 rfl (wpAny_bind (wpAny_letGo ?_)))
 unfold Builtin.List.listExtendWith
 refine wpAny_bind (wpAny_typeOf (Heap.IsGen.typeIs (s := { z' with heap := _ }) (gen old1)) ?_)
 have c1 : Builtin.List.listSameRef (.ref T) (.ref a) = false := by simp [Builtin.List.listSameRef, neG]
 rw [show (Builtin.List.listSameRef (.ref T) (.ref a) || Value.type "generator" == Value.type "list" || Value.type "generator" == Value.type "tuple") = false by rw [c1]; decide, if_neg Bool.false_ne_true]
 refine wpAny_bind (wpAny_pyIter_gen (s := { z' with heap := _ }) (gen old1) (wpAny_bind (wpAny_holding ?_)))
 have noLen : wpAny (model P w) B.in1.in1 (Builtin.List.listLengthHint (.ref a)) (fun v y => v = true ∧ y = { z' with heap := (z'.heap.push { cls := .type "list", data := .seq #[] }).update T (Obj.mapSeq (fun _ => (#[] : Array Value))) }) Fl { z' with heap := (z'.heap.push { cls := .type "list", data := .seq #[] }).update T (Obj.mapSeq (fun _ => (#[] : Array Value))) } := by
  unfold Builtin.List.listLengthHint
  refine wpAny_bind (wpAny_specialOf (Heap.IsGen.typeIs (s := { z' with heap := _ }) (gen old1)) F.gen_no_len (wpAny_bind (wpAny_specialOf (Heap.IsGen.typeIs (s := { z' with heap := _ }) (gen old1)) F.gen_no_hint ?_)))
  exact wpAny_pure ⟨rfl, rfl⟩
 refine wpAny_mono noLen (fun v y q => ?_) fun _ _ q => q
 cases q.1
 cases q.2
 show wpAny _ B.in1.in1 (rule "list.extend.makes-room" >>= fun _ => Builtin.List.listTouch (.ref T) >>= fun _ => again (.builtin "list.extend.loop" ⟨[.ref T, .ref a, .none], []⟩)) _ _ _
 refine wpAny_bind (wpAny_rule (wpAny_bind (m := Builtin.List.listTouch (.ref T)) ?_))
 have h2 := Heap.get?_update_self (Obj.mapSeq (·.push Value.none)) h1 rfl
 have h3 := Heap.get?_update_self (Obj.mapSeq (·.pop)) h2 rfl
 have old3 := upd_ (Obj.mapSeq (·.pop)) (upd_ (Obj.mapSeq (·.push Value.none)) old1)
 refine wpAny_bind (m := updateSeq T (·.push .none)) (wpAny_updateSeq h1 rfl (wpAny_updateSeq (hz := by seq_fits) h2 rfl (wpAny_pure ⟨plainId_quiet F.plain_extend_loop _, ?_⟩)))
 have hT : z.heap.objs.size ≤ T := Nat.le_trans h.lo (Nat.le_of_lt h.hi)
 refine drainX (H0 := H0) (z := z) (B := B.in1) (B0 := B0) (g := g) (yp := yp) (k := k) (mg := mg) (K := K) (base := base) hr.hd (by have := hr.dp; show B.depth < _; omega) hfr e0 neG neC hT
  (fun y acc c H' i xs q1 q2 q3 q4 q5 q6 q7 q8 q9 q10 q11 => ⟨rfl, got _ y acc c H' i xs (Nat.le_refl _) q1 q2 q3 q4 q5 q6 q7 q8 q9 q10 q11⟩) (fun e y q => flew e y g q) sizeLine _ (gen old3) (h.lim.keeps old3) ⟨_, hgs, rfl, ?_⟩
 refine wake _ [T] _ _ [(T, _)] rm hfr (fun b hb => by rw [List.mem_singleton.mp hb]; exact Nat.le_refl _) old3 ⟨rfl, fun p hp => by rw [List.mem_singleton.mp hp]; exact ⟨h3, e0.hok.fresh hT, fun v q => nomatch q⟩⟩ h.os (allBare_setGen (s := { z' with heap := _ }) h.bare rfl) fun y2 H2 G2 wt => ?_
 have o2 := wt.own (T, _) (List.mem_singleton.mpr rfl)
 exact ⟨wt.os, wt.bare, wt.un, wt.hok, o2.2, ⟨#[], _, [], o2.1, .nil, rfl⟩, fun a u e n => ⟨wt.keep a u e n, wt.apart a u e n⟩⟩
end
end VL
namespace VL
open PySem PySem.Spec PyProof.Rows L2 GenW
def mfLen (L : List Nat) (mf : MGF) : MF := fun vs => match mf vs with
 | .nx zs _ => .ok (.int zs.length) (vs.map fun _ => none)
 | .exc e ρ => (match e.cls with
  | .fn n => if L.contains n = true then .exc e ρ else .bad
  | _ => .bad)
 | .bad => .bad
def mfFly (L : List Nat) (mf : MGF) : MF := fun vs => match mf vs with
 | .nx _ _ => .bad
 | .exc e ρ => (match e.cls with
  | .fn n => if L.contains n = true then .exc e ρ else .bad
  | _ => .bad)
 | .bad => .bad
def spWant (H1 : Hp) (Gw : Addr → Prop) (Φ : Nat → Hp → Prop) : Nat → Prop := fun i => ∀ H', (∀ a u, H1 a = some u → ¬ Gw a → H' a = some u) → Φ i H'
section
variable {G : Gam} {K : PySem.W.Frag} {L : List Nat} {n : Nat} {mf : MGF} {xs : List V} {H : Hp} {Q : VK} {E0 : XK}
theorem rel_noneX {R : Addr → Prop} {σ : L2.St} {ρ : VEnv} {Oa : Nat → List Addr} {H' : Hp} (rel : Rel G R H σ ρ Oa) (k : ∀ a u, H a = some u → ¬ We Oa a → H' a = some u) : Rel G R H' σ (ρ.map fun _ => none) (fun _ => []) where
 len := by rw [List.length_map]; exact rel.len
 rep := fun i v h => by
  rw [List.getElem?_map] at h
  cases hr : ρ[i]? <;> rw [hr] at h <;> cases h
 nil := fun _ _ => rfl
 nd := fun _ => List.nodup_nil
 dj := fun i j a h _ => nomatch h
 dr := fun i a h => nomatch h
 rt := fun a z => let ⟨u, e⟩ := rel.rt a z; ⟨u, k a u e fun ⟨i, m⟩ => rel.dr i a m z⟩
theorem len_conv (hN : ∀ m ∈ L, ∀ C, G.fa m = some C → PySem.W.subIn K (.ref C) (.type "StopIteration") = some false) (h : spV G n (mfLen L mf) xs H Q E0) :
    ∃ Gw, spXV G n mf xs H (spWant H Gw fun i H' => Q (.int i) H') (fun _ _ _ _ _ _ => True) (fun c d H' => E0 c d H' ∧ PySem.W.subIn K c (.type "StopIteration") = some false) Gw := by
 obtain ⟨hl, R, vs, Oa, rel, post⟩ := h
 refine ⟨We Oa, hl, R, vs, Oa, rel, rfl, ?_⟩
 unfold mfLen at post
 cases hm : mf vs with
 | bad => rw [hm] at post; exact post
 | exc e ρ =>
  rw [hm] at post
  dsimp only at post
  intro c d H' Os' r rx k
  cases hc : e.cls with
  | fn m =>
   rw [hc] at post
   dsimp only at post
   by_cases hm2 : L.contains m = true
   · rw [if_pos hm2] at post
     refine ⟨post c d H' Os' r rx k, ?_⟩
     unfold RepX at rx
     rw [hc] at rx
     obtain ⟨C, _, _, e1, e2, _⟩ := rx
     rw [e1]
     exact hN m (by simpa using hm2) C e2
   · rw [if_neg hm2] at post; exact post.elim
  | _ => rw [hc] at post; exact post.elim
 | nx zs ρ =>
  rw [hm] at post
  refine ⟨fun _ _ _ _ _ _ _ _ _ _ _ _ _ => trivial, fun H' kp => ?_⟩
  have rn := rel_noneX (H' := H') rel fun a u e nw => kp a u e nw
  rw [List.map_map] at rn
  refine post (.int zs.length) H' (fun _ => []) [] (rn.weak fun a z => z.elim id fun q => nomatch q.2) (.int _) (fun _ => List.nodup_nil) (fun a u e nw => ⟨kp a u e nw, fun ⟨i, z⟩ => (nomatch z), fun z => nomatch z.2⟩) fun z => nomatch z
theorem fly_conv (hN : ∀ m ∈ L, ∀ C, G.fa m = some C → PySem.W.subIn K (.ref C) (.type "StopIteration") = some false) (h : spV G n (mfFly L mf) xs H Q E0) :
    ∃ Gw, spXV G n mf xs H (spWant H Gw fun i H' => False) (fun _ _ _ _ _ _ => True) (fun c d H' => E0 c d H' ∧ PySem.W.subIn K c (.type "StopIteration") = some false) Gw := by
 refine len_conv (L := L) (Q := fun _ _ => False) hN ?_
 obtain ⟨hl, R, vs, Oa, rel, post⟩ := h
 refine ⟨hl, R, vs, Oa, rel, ?_⟩
 unfold mfFly at post
 unfold mfLen
 cases hm : mf vs with
 | bad => rw [hm] at post; exact post
 | nx zs ρ => rw [hm] at post; exact post.elim
 | exc e ρ =>
  rw [hm] at post
  dsimp only at post ⊢
  cases hc : e.cls with
  | fn m =>
   rw [hc] at post
   dsimp only at post ⊢
   by_cases hm2 : L.contains m = true
   · rw [if_pos hm2] at post ⊢; exact post
   · rw [if_neg hm2] at post; exact post.elim
  | _ => rw [hc] at post; exact post.elim
end
section
variable {G : Gam} {X : Cx} {E : WX} {e : Expr} {es : List Expr} {as : List Arg} {x : Str} {p px cpos pos : Pos} {k n : Nat} {f : Addr} {fd : FuncData} {ps ks : List Str} {mf : MGF} {m : MF} {kws : List Keyword} {os1 os2 : List Op} {g : List Value → List Value → List Value} {gV : List V → List V → List V}
structure CallX (G : Gam) (X : Cx) (E : WX) (k n : Nat) (f : Addr) (fd : FuncData) (ps ks : List Str) (mf : MGF) (x : Str) (px cpos : Pos) (e : Expr) (es : List Expr) (kws : List Keyword) (as : List Arg) (os1 os2 : List Op) (g : List Value → List Value → List Value) (gV : List V → List V → List V) : Prop where
 F : GFnX X.prog X.w X.K X.mg X.base k f fd ps (spXV G n mf)
 hb : KBn X.K fd ps os1.length ks g gV
 hg : Gl X x
 hm : X.mg x = some (.ref f)
 hk : PySem.W.keepIn X.K (.ref f) = true
 ha : VAs G X E (e :: es) os1
 hkw : PK X kws fun σ H K => nest G E os2 σ H K
 df : Dfl G as
 hv : vals as = os1 ++ os2
 hgv : ∀ xs zs, xs.length = os1.length → zs.length = os2.length → gV xs zs = mergeD0 as (xs ++ zs)
 hn : as.length = n
 hs : (vals as).all (·.s) = true
 nr : noRefs as = true
 hks0 : os2.length = ks.length
 hall : (backToKw cpos (keywordEach kws X.env)).all (·.1.isSome) = true
 hks : (backToKw cpos (keywordEach kws X.env)).filterMap (·.1) = ks
 hdb : (x == ("__debug__" : Str)) = false
 he : starEach (e :: es) X.env = (false, eval e X.env) :: starEach es X.env
 hpl : ((backTo cpos (starEach (e :: es) X.env)).any (·.1) || (backToKw cpos (keywordEach kws X.env)).any (·.1.isNone)) = false
theorem made_callX {pins : List (Addr × Obj)} {s : Shared} {σ : L2.St} {H : Hp} {Q : VK} {Ψ : Hp → (Nat → Prop) → YP → XK → (Addr → Prop) → Prop} (c : CallX G X E k n f fd ps ks mf x px cpos e es kws as os1 os2 g gV) (hr : RoomG k X.A) (I : Inv X pins σ H s) (h : rd G E (argsP as) true (mCall m as) σ H Q)
    (conv : ∀ xs H1, spV G n m xs H1 Q (WE E σ) → ∃ Q' yp E0 Gw, spXV G n mf xs H1 Q' yp E0 Gw ∧ Ψ H1 Q' yp E0 Gw) :
    wpAny (model X.prog X.w) X.A (eval (.Call (.Name x px) (e :: es) kws cpos) X.env) (fun u z' => ∃ a H1 z Q' yp E0 Gw, u = .ref a ∧ Inv X pins σ H1 z ∧ MadeX X.prog X.w X.K X.mg X.base k X.stack H1 z Q' yp E0 Gw a z' ∧ Ψ H1 Q' yp E0 Gw) X.xe s := by
 have q0 := nest_of_G c.nr (call_of c.df c.hs c.hn h)
 rw [c.hv] at q0
 have q1 := nest_len (nest_app q0)
 have q2 := nest_imp q1 (K' := fun xs H1 => xs.length = os1.length ∧ nest G E os2 σ H1 fun zs H2 => zs.length = os2.length ∧ spV G n m (mergeD0 as (xs ++ zs)) H2 Q (WE E σ)) fun xs H1 ⟨l, z⟩ => ⟨l, nest_len z⟩
 refine wpAny_Call_Name_kw (ld_glob I c.hg c.hm ?_ c.hdb)
 refine PySem.W.callWith_KW (h₀ := X.base) I.ok.mod.kin c.hk c.hall (thn (c.ha.run cpos pins s σ H _ I q2) fun us s1 ⟨xs, H1, I1, r, lx, q3⟩ => ?_) c.hpl c.he
 refine thn (c.hkw.run cpos pins s1 σ H1 _ I1 q3) fun ws s2 ⟨zs, H2, I2, rz, hlen, q2⟩ => ⟨I2.kIn, ?_⟩
 rw [c.hks]
 rw [← c.hgv xs zs lx hlen] at q2
 obtain ⟨Q', yp, E0, Gw, sp, hΨ⟩ := conv _ _ q2
 refine wpAny_call (codeAny_mono (c.F.run X.A X.stack s2 H2 ⟨us, ks.zip ws⟩ (g us ws) (gV xs zs) Q' yp E0 Gw hr I2.env0 (c.hb.to s2 us ws I2.kIn (by rw [← r.length, lx]) (by rw [← rz.length, hlen, c.hks0])) (c.hb.rel r rz) sp) fun res z' ⟨a, ea, md⟩ => ?_)
 subst ea
 exact ⟨a, H2, s2, Q', yp, E0, Gw, rfl, I2, md, hΨ⟩
theorem list_coreX {pins : List (Addr × Obj)} {s : Shared} {σ : L2.St} {H : Hp} {Q Q2 : VK} {Φ : Nat → Hp → Prop} (c : CallX G X E k n f fd ps ks mf x px cpos e es kws as os1 os2 g gV) (hr : RoomG (k + 3) X.A) (tk : Takes X E) (I : Inv X pins σ H s) (h : rd G E (argsP as) true (mCall m as) σ H Q)
    (conv : ∀ xs H1, spV G n m xs H1 Q (WE E σ) → ∃ Gw, spXV G n mf xs H1 (spWant H1 Gw Φ) (fun _ _ _ _ _ _ => True) (fun c d H' => WE E σ c d H' ∧ PySem.W.subIn X.K c (.type "StopIteration") = some false) Gw)
    (hΦ : ∀ i H', Φ i H' → ∀ p ys, H' p = some (.lst ys) → ys.length = i → Q2 (.ref p) H')
    (hgl : Gl X "list") (hml : X.mg "list" = none) (hvl : bootBuiltins "list" = some (.type "list")) (hel : starEach [.Call (.Name x px) (e :: es) kws cpos] X.env = (false, eval (.Call (.Name x px) (e :: es) kws cpos) X.env) :: starEach [] X.env) :
    wpAny (model X.prog X.w) X.A (eval (.Call (.Name "list" p) [.Call (.Name x px) (e :: es) kws cpos] [] pos) X.env) (EP X pins σ Q2) X.xe s := by
 refine wpAny_Call_Name_kw (ld_blt I hgl hml hvl (PyProof.Rows.callWith_type1 ?_ hel rfl) (by decide) (by decide))
 rw [hel]
 refine Calls.spliced_cons ?_
 refine wpAny_mono (made_callX (m := m) (Q := Q) (Ψ := fun H1 Q' yp E0 Gw => Q' = spWant H1 Gw Φ ∧ E0 = fun c d H' => WE E σ c d H' ∧ PySem.W.subIn X.K c (.type "StopIteration") = some false) c (hr.mono (by omega)) I h fun xs H1 sp => let ⟨Gw, q⟩ := conv xs H1 sp; ⟨_, _, _, Gw, q, rfl, rfl⟩) (fun u z' ⟨a, H1, z, Q', yp, E0, Gw, eu, I1, md, e1, e2⟩ => ?_) fun _ _ w => w
 subst eu
 subst e1
 subst e2
 refine Calls.spliced_nil (list_madeX hr I1.ok.frames I1.env0 md (fun T y acc c' H' i ys q0 q1 q2 hl hi q3 q4 q5 q6 q7 q8 q9 => ?_) fun ex y g hc => ?_)
 · have nT : ∀ a u, H1 a = some u → a ≠ T := fun a u eu z => by
     have h1 := (I1.hok.fresh (Nat.le_trans (Nat.le_trans md.lo (Nat.le_of_lt md.hi)) q0) : H1 T = none)
     rw [← z, eu] at h1; cases h1
   exact ⟨.ref T, upd H' T (.lst ys), I1.drained (Nat.le_trans (Nat.le_trans md.lo (Nat.le_of_lt md.hi)) q0) (by omega) q1 q2 ExOk.nil q3 q4 q5 q6 q7, rfl, hΦ _ _ (q9 (upd H' T (.lst ys)) fun a u eu nw => (upd_ne (nT a u eu)).trans (q8 a u eu nw)) T ys upd_same hl⟩
 · have kin : X.K.In y.heap := by
     obtain ⟨a, B, H', cls, d, _, fl, _, ub, _⟩ := id hc
     refine I1.ok.mod.kin.keeps fun b o eb => fl.1 b o (ub.keep b o (I1.bs b o eb).1 (I1.bs b o eb).2 fun hm => ?_)
     rcases List.mem_cons.mp (I1.stkSub b hm) with z | z
     · have h1 := Heap.lt_size eb
       rw [z] at h1
       exact Nat.lt_irrefl _ (Nat.lt_of_lt_of_le h1 (Nat.le_trans I1.ok.bsz I1.ok.above))
     · exact I1.ok.nofr eb z
   refine ⟨notStop_of (K := X.K) (fun cls d H' w => w.2) kin hc, ?_⟩
   obtain ⟨a, B, H', cls, d, z1, fl, z2, ub, z3, z4, z5, z6⟩ := hc
   exact passAt tk σ pins H1 z ex _ I1 ⟨a, B, H', cls, d, z1, fl, z2, ub, z3, z4, allBare_setGen z5 rfl, z6.1⟩
theorem ve_lenX {L : List Nat} {lpos lp : Pos} (c : CallX G X E k n f fd ps ks mf x px cpos e es kws as os1 os2 g gV) (hr : RoomG (k + 3) X.A) (tk : Takes X E) (hN : ∀ m ∈ L, ∀ C, G.fa m = some C → PySem.W.subIn X.K (.ref C) (.type "StopIteration") = some false)
    (hgl : Gl X "list") (hml : X.mg "list" = none) (hvl : bootBuiltins "list" = some (.type "list")) (hgn : Gl X "len") (hmn : X.mg "len" = none)
    (hel : starEach [.Call (.Name x px) (e :: es) kws cpos] X.env = (false, eval (.Call (.Name x px) (e :: es) kws cpos) X.env) :: starEach [] X.env := by rfl)
    (hen : starEach [.Call (.Name "list" p) [.Call (.Name x px) (e :: es) kws cpos] [] pos] X.env = (false, eval (.Call (.Name "list" p) [.Call (.Name x px) (e :: es) kws cpos] [] pos) X.env) :: starEach [] X.env := by rfl)
    (hpl : (backTo lpos (starEach [] X.env)).any (·.1) = false := by rfl) :
    VE G X E (argsP as) true (.Call (.Name "len" lp) [.Call (.Name "list" p) [.Call (.Name x px) (e :: es) kws cpos] [] pos] [] lpos) (mCall (mfLen L mf) as) := by
 have hlist : PE X (.Call (.Name "list" p) [.Call (.Name x px) (e :: es) kws cpos] [] pos) fun σ H Q => rd G E (argsP as) true (mCall (mfLen L mf) as) σ H fun v H' => ∀ q ys, H' q = some (.lst ys) → v = .int ys.length → Q (.ref q) H' :=
  ⟨fun pins s σ H Q I h => list_coreX (Φ := fun i H' => ∀ q ys, H' q = some (.lst ys) → V.int i = .int ys.length → Q (.ref q) H') c hr tk I h (fun xs H1 sp => len_conv hN sp) (fun i H' hh q ys e l => hh q ys e (by rw [l])) hgl hml hvl hel⟩
 exact PE.pre (pe_callB call_len_seq hgn hmn boot_len (pa_cons hlist pa_nil hen) (by decide) (by decide) hen hpl) fun σ H Q h => rd_mono h fun v H' z q ys e ev => ⟨q, ys, rfl, .inl (.inl (.inl e)), by rw [← ev]; exact z⟩
theorem ve_flyX {L : List Nat} (c : CallX G X E k n f fd ps ks mf x px cpos e es kws as os1 os2 g gV) (hr : RoomG (k + 3) X.A) (tk : Takes X E) (hN : ∀ m ∈ L, ∀ C, G.fa m = some C → PySem.W.subIn X.K (.ref C) (.type "StopIteration") = some false)
    (hgl : Gl X "list") (hml : X.mg "list" = none) (hvl : bootBuiltins "list" = some (.type "list"))
    (hel : starEach [.Call (.Name x px) (e :: es) kws cpos] X.env = (false, eval (.Call (.Name x px) (e :: es) kws cpos) X.env) :: starEach [] X.env := by rfl) :
    VE G X E (argsP as) true (.Call (.Name "list" p) [.Call (.Name x px) (e :: es) kws cpos] [] pos) (mCall (mfFly L mf) as) :=
 ⟨fun pins s σ H Q I h => list_coreX (Φ := fun _ _ => False) c hr tk I h (fun xs H1 sp => fly_conv hN sp) (fun i H' hh => hh.elim) hgl hml hvl hel⟩
end
end VL
namespace VL
open PySem PySem.Spec PyProof.Rows L2 GenW
structure KU (X : Cx) (s : Shared) (H : Hp) (s' : Shared) (H' : Hp) : Prop where
 gens : s'.gens = s.gens
 old : ∀ b o, s.heap.get? b = some o → H b = none → b ≠ X.env.locals → s'.heap.get? b = some o ∧ H' b = none
 there : ∀ a u, H a = some u → ∃ u', H' a = some u'
section
variable {X : Cx} {s s1 s' : Shared} {H H1 H' : Hp}
theorem KU.refl : KU X s H s H := ⟨rfl, fun b o e n _ => ⟨e, n⟩, fun a u e => ⟨u, e⟩⟩
theorem KU.trans (a : KU X s H s1 H1) (b : KU X s1 H1 s' H') : KU X s H s' H' where
 gens := b.gens.trans a.gens
 old := fun c o e n l => let ⟨e1, n1⟩ := a.old c o e n l; b.old c o e1 n1 l
 there := fun c u e => let ⟨u1, e1⟩ := a.there c u e; b.there c u1 e1
end
structure PEg (X : Cx) (e : Expr) (t : TE) : Prop where
 run : ∀ (pins : List (Addr × Obj)) (s : Shared) (σ : L2.St) (H : Hp) (Q : VK), Inv X pins σ H s → t σ H Q → wpAny (model X.prog X.w) X.A (eval e X.env) (fun u s' => ∃ v H', KU X s H s' H' ∧ Inv X pins σ H' s' ∧ RelV v u ∧ Q v H') X.xe s
structure PAg (X : Cx) (es : List Expr) (t : TA) : Prop where
 run : ∀ (pos : Pos) (pins : List (Addr × Obj)) (s : Shared) (σ : L2.St) (H : Hp) (Q : List V → Hp → Prop), Inv X pins σ H s → t σ H Q → wpAny (model X.prog X.w) X.A (spliced (backTo pos (starEach es X.env))) (fun us s' => ∃ vs H', KU X s H s' H' ∧ Inv X pins σ H' s' ∧ Vals vs us ∧ Q vs H') X.xe s
def SPg (X : Cx) (pins : List (Addr × Obj)) (s : Shared) (H : Hp) (D : Ends) (f : Flow) (s' : Shared) : Prop :=
 match f with
 | .next => ∃ σ' H', KU X s H s' H' ∧ Inv X pins σ' H' s' ∧ D.nx σ' H'
 | .brk => ∃ σ' H', KU X s H s' H' ∧ Inv X pins σ' H' s' ∧ D.bk σ' H'
 | .cont => ∃ σ' H', KU X s H s' H' ∧ Inv X pins σ' H' s' ∧ D.ct σ' H'
 | .ret u => ∃ v σ' H', KU X s H s' H' ∧ Inv X pins σ' H' s' ∧ RelV v u ∧ D.rt v H'
structure PSg (X : Cx) (st : Stmt) (t : TS) : Prop where
 run : ∀ (pins : List (Addr × Obj)) (s : Shared) (σ : L2.St) (H : Hp) (D : Ends), Inv X pins σ H s → t D σ H → wpAny (model X.prog X.w) X.A (exec st X.env) (SPg X pins s H D) X.xe s
structure PSsg (X : Cx) (st : List Stmt) (t : TS) : Prop where
 run : ∀ (pins : List (Addr × Obj)) (s : Shared) (σ : L2.St) (H : Hp) (D : Ends), Inv X pins σ H s → t D σ H → wpAny (model X.prog X.w) X.A (execs st X.env) (SPg X pins s H D) X.xe s
structure PGg (X : Cx) (target : Expr) (t : TG) : Prop where
 run : ∀ (pins : List (Addr × Obj)) (s : Shared) (σ : L2.St) (H : Hp) (v : V) (u : Value) (Q : L2.St → Hp → Prop), Inv X pins σ H s → RelV v u → t v σ H Q →
  wpAny (model X.prog X.w) X.A (assign target X.env u) (fun _ s' => ∃ σ' H', KU X s H s' H' ∧ Inv X pins σ' H' s' ∧ Q σ' H') X.xe s
section
variable {X : Cx}
theorem PEg.pre {e : Expr} {t t' : TE} (h : PEg X e t) (k : ∀ σ H Q, t' σ H Q → t σ H Q) : PEg X e t' := ⟨fun pins s σ H Q I q => h.run pins s σ H Q I (k σ H Q q)⟩
theorem PSg.pre {st : Stmt} {t t' : TS} (h : PSg X st t) (k : ∀ D σ H, t' D σ H → t D σ H) : PSg X st t' := ⟨fun pins s σ H D I q => h.run pins s σ H D I (k D σ H q)⟩
theorem PSsg.pre {st : List Stmt} {t t' : TS} (h : PSsg X st t) (k : ∀ D σ H, t' D σ H → t D σ H) : PSsg X st t' := ⟨fun pins s σ H D I q => h.run pins s σ H D I (k D σ H q)⟩
theorem PGg.pre {e : Expr} {t t' : TG} (h : PGg X e t) (k : ∀ v σ H Q, t' v σ H Q → t v σ H Q) : PGg X e t' := ⟨fun pins s σ H v u Q I r q => h.run pins s σ H v u Q I r (k v σ H Q q)⟩
theorem peg_var {i : Nat} {x : Str} {pos : Pos} (hN : X.N[i]? = some x) (hv : Vis X.env.scope x) (hd : (x == ("__debug__" : Str)) = false := by decide) (hcd : (x == ("__classdict__" : Str)) = false := by decide) : PEg X (.Name x pos) (tVar i) := by
 refine ⟨fun pins s σ H Q I h => ?_⟩
 obtain ⟨v, e, h⟩ := h
 obtain ⟨m, hn, hl⟩ := I.loc
 obtain ⟨u, r, l⟩ := hl i x v hN e hv
 have fin : ∃ v H', KU X s H s H' ∧ Inv X pins σ H' s ∧ RelV v u ∧ Q v H' := ⟨v, H, KU.refl, I, r, h⟩
 rcases l with ⟨hk, hm⟩ | ⟨hk, c, hc, hcell⟩
 · exact wpAny_Name (wpAny_loadName_local I.ok.kind hk hn hm fin) hd
 · rcases hk with hk | hk
   · exact wpAny_Name (wpAny_loadName_cell I.ok.kind hk hc hcell fin) hd
   · exact wpAny_Name (wpAny_loadName_free I.ok.kind hk hc hcell fin hcd) hd
theorem peg_int {i j pos} : PEg X (.Constant (.int i) j pos) (tC (.int i)) := ⟨fun _ s _ H _ I h => wpAny_Constant_int ⟨.int i, H, ⟨rfl, fun b o e n _ => ⟨e, n⟩, fun a u e => ⟨u, e⟩⟩, I.tok _, ⟨_, rfl⟩, h⟩⟩
theorem pag_nil : PAg X [] tNil := ⟨fun _ _ _ _ H Q I h => Calls.spliced_nil ⟨[], H, KU.refl, I, .nil, h⟩⟩
theorem pag_cons {e : Expr} {es : List Expr} {te : TE} {t : TA} (ha : PEg X e te) (hr : PAg X es t) (hs : starEach (e :: es) X.env = (false, eval e X.env) :: starEach es X.env := by rfl) : PAg X (e :: es) (tCons te t) := by
 refine ⟨fun pos pins s σ H Q I h => ?_⟩
 rw [hs]
 show wpAny _ _ (spliced ((false, eval e X.env) :: backTo pos (starEach es X.env))) _ _ s
 refine Calls.spliced_cons (thn (ha.run pins s σ H _ I h) fun u s1 ⟨x, H1, k1, I1, r1, q1⟩ => ?_)
 exact thn (hr.run pos pins s1 σ H1 _ I1 q1) fun us s2 ⟨xs, H2, k2, I2, r2, q2⟩ => ⟨x :: xs, H2, k1.trans k2, I2, .cons r1 r2, q2⟩
theorem peg_list {p pos : Pos} {e : Expr} {t : TA} (hg : Gl X "list") (hm : X.mg "list" = none) (hv : bootBuiltins "list" = some (.type "list")) (ha : PAg X [e] t)
    (he : starEach [e] X.env = (false, eval e X.env) :: starEach [] X.env := by rfl) (hpl : (backTo pos (starEach [] X.env)).any (·.1) = false := by rfl) :
    PEg X (.Call (.Name "list" p) [e] [] pos) (tCB (fun xs H Q => ∃ p ys, xs = [.ref p] ∧ (SqL X.K H p ys ∨ SqT X.K H p ys) ∧ ∀ l, H l = none → Q (.ref l) (upd H l (.lst ys))) t) := by
 refine ⟨fun pins s σ H Q I h => ?_⟩
 refine wpAny_Call_Name_kw (ld_blt I hg hm hv ?_ (by decide) (by decide))
 refine PyProof.Rows.callWith_type1 (thn (ha.run pos pins s σ H _ I h) fun us s1 ⟨vs, H1, k1, I1, r1, q1⟩ => ?_) he hpl
 obtain ⟨p, ys, rfl, hq, q⟩ := q1
 obtain ⟨u, rfl, rx⟩ := vals1 r1
 cases rx
 have fin : ∀ (its : List Value), Vals ys its → ys.length ≤ sizeLine → ∀ (h' : Heap) (c' : Nat), (∀ b o', s1.heap.get? b = some o' → h'.get? b = some o') →
     h'.get? s1.heap.objs.size = some { cls := .type "list", dict := none, data := .seq its.toArray c', slots := #[] } → ∃ v H', KU X s H { s1 with heap := h' } H' ∧ Inv X pins σ H' { s1 with heap := h' } ∧ RelV v (.ref s1.heap.objs.size) ∧ Q v H' := fun its r' hz h' c' kp e =>
  ⟨.ref s1.heap.objs.size, _, k1.trans ⟨rfl, fun b o eb n _ => ⟨kp b o eb, (upd_ne (Nat.ne_of_lt (Heap.lt_size eb))).trans n⟩, fun a u ea => ⟨u, (same_upd (I1.hok.fresh (Nat.le_refl _))) a u ea⟩⟩, I1.laid (t' := s1.toks) kp (Nat.le_refl _) (show ObjOk X.prog X.w _ h' _ (.lst ys) from ⟨hz, its, c', r', e⟩), rfl, q _ (I1.hok.fresh (Nat.le_refl _))⟩
 rcases hq with hq | hq
 · obtain ⟨its, r', pl, hz⟩ := I1.list hq
   have hlen := r'.length
   obtain ⟨o, ho, hc, n, hd⟩ := pl.isList
   exact call_list_seq p (.inl rfl) ho hc hd (fun h' c' kp e => fin its r' hz h' c' kp e) (by simp only [List.size_toArray] <;> omega)
 · obtain ⟨its, r', pl, hz⟩ := I1.tuple hq
   have hlen := r'.length
   obtain ⟨o, ho, hc, n, hd⟩ := pl
   exact call_list_seq p (.inr rfl) ho hc hd (fun h' c' kp e => fin its r' hz h' c' kp e) (by simp only [List.size_toArray] <;> omega)
theorem peg_append {o e : Expr} {to : TE} {t : TA} {apos cpos : Pos} (ho : PEg X o to) (ha : PAg X [e] t)
    (hbase : attributeBase o "append" X.env (eval o X.env) = eval o X.env := by rfl)
    (hfew : ((backTo cpos (starEach [e] X.env)).all (fun x => !x.1) && (backToKw cpos (keywordEach [] X.env)).all (fun x => x.1.isSome)
     && decide (([e] : List Expr).length + ([] : List Keyword).length + (if ([] : List Keyword).isEmpty then 0 else 1) < 30)) = true := by rfl)
    (hline : (apos.endLine == cpos.line) = true := by rfl) (hs : starEach [e] X.env = (false, eval e X.env) :: starEach [] X.env := by rfl) (hplain : (backTo cpos (starEach [] X.env)).any (·.1) = false := by rfl) :
    PEg X (.Call (.Attribute o "append" apos) [e] [] cpos) (tBM X.K "list" rAppend to t) := by
 refine ⟨fun pins s σ H Q I h => ?_⟩
 refine wpAny_Call_method_late hbase hfew hline rfl (thn (ho.run pins s σ H _ I h) fun v s1 ⟨x, H1, k1, I1, r1, ty, q1⟩ => ?_)
 obtain ⟨h1, h2⟩ := tyV_is I1 r1 ty
 refine ⟨"list", "list.append", PySem.F.plainAttrs_list, PySem.F.slot_list_append, PySem.F.type_list_append, h1, h2, ?_⟩
 have hA := ha.run cpos pins s1 σ H1 _ I1 q1
 rw [hs] at hA ⊢
 refine Calls.callWith_builtin (by show (false || (backTo cpos (starEach [] X.env)).any (·.1)) = false; rw [hplain] <;> rfl) (Calls.evalArgs_plain ?_)
 refine thn hA fun us s2 ⟨vs, H2, k2, I2, r2, q2⟩ => ?_
 obtain ⟨l, xs, y, rfl, rfl, hH, hz, q⟩ := q2
 cases r1
 obtain ⟨u, rfl, ru⟩ := r2.one
 obtain ⟨z, its, n, r, hl, e⟩ := I2.lstM hH
 refine call_meets F.slot_list_append ⟨_, e, rfl⟩ F.entry_list_append (F.args_list_append_2 _ _) (PySem.list_append l its.toArray n u (by rw [List.size_toArray]; omega)) ⟨e, ?_⟩
 refine ⟨.non, _, (k1.trans k2).trans ⟨rfl, fun b o eb nb _ => ?_, fun a u ea => ?_⟩, I2.lset (its' := its ++ [u]) hH e (by simp) (r.append (.cons ru .nil)) ?_, rfl, q⟩
 · have nl : b ≠ l := fun q => by rw [q, hH] at nb; cases nb
   exact ⟨(Heap.get?_update_other _ _ (Ne.symm nl)).trans eb, (upd_ne nl).trans nb⟩
 · by_cases q : a = l
   · exact ⟨_, by rw [q]; exact upd_same⟩
   · exact ⟨u, (upd_ne q).trans ea⟩
 · rw [List.length_append, List.length_singleton]
   omega
theorem psg_expr {e : Expr} {te : TE} {pos : Pos} (he : PEg X e te) (hs : swapsWith e none pos.line X.env = pure false := by rfl) : PSg X (.Expr e pos) (tDrop te) := by
 refine ⟨fun pins s σ H D I h => ?_⟩
 exact wpAny_Expr_any (thn (he.run pins s σ H _ I h) fun v s1 ⟨x, H1, k1, I1, r1, q1⟩ => ⟨σ, H1, k1, I1, q1⟩) I.quiet hs
theorem pssg_nil : PSsg X [] tNext := ⟨fun _ _ σ H _ I h => wpAny_execs_nil ⟨σ, H, KU.refl, I, h⟩⟩
theorem pssg_cons {st : Stmt} {rest : List Stmt} {t u : TS} (h1 : PSg X st t) (h2 : PSsg X rest u) : PSsg X (st :: rest) (tSeq t u) := by
 refine ⟨fun pins s σ H D I h => ?_⟩
 refine wpAny_execs_cons (thn (h1.run pins s σ H { D with nx := u D } I h) fun f s1 q => ?_)
 cases f with
 | next =>
  obtain ⟨σ', H', k1, I', q⟩ := q
  refine thn (h2.run pins s1 σ' H' D I' q) fun f s2 q2 => ?_
  cases f with
  | next => obtain ⟨σ2, H2, k2, q2⟩ := q2; exact ⟨σ2, H2, k1.trans k2, q2⟩
  | brk => obtain ⟨σ2, H2, k2, q2⟩ := q2; exact ⟨σ2, H2, k1.trans k2, q2⟩
  | cont => obtain ⟨σ2, H2, k2, q2⟩ := q2; exact ⟨σ2, H2, k1.trans k2, q2⟩
  | ret v => obtain ⟨v, σ2, H2, k2, q2⟩ := q2; exact ⟨v, σ2, H2, k1.trans k2, q2⟩
 | ret v => exact q
 | brk => exact q
 | cont => exact q
theorem pgg_name {i : Nat} {x : Str} {pos : Pos} (hN : X.N.Nodup) (hi : X.N[i]? = some x) (hk : X.env.scope.names.lookup x = some .local) : PGg X (.Name x pos) (gName i) := by
 refine ⟨fun pins s σ H v u Q I r h => wpAny_assign_Name ?_⟩
 obtain ⟨m, hn, hl⟩ := id I.loc
 have hcls : (X.env.scope.kind == .class || (X.env.scope.kind == .module && X.env.locals != X.env.globals)) = false := by rw [I.ok.kind]; rfl
 have hiσ : i < σ.length := by rw [I.len]; exact (List.getElem?_eq_some_iff.mp hi).1
 have cne := I.cne
 refine wpAny_storeName_local hk hn (fun h' hn' hs => ?_) hcls
 obtain ⟨oL, _, _, hoL, _⟩ := id hn
 refine ⟨_, H, ⟨rfl, fun b o e n l => ⟨(hs.2 b l).trans e, n⟩, fun a u e => ⟨u, e⟩⟩, ⟨I.ok, I.os, I.bare, ⟨fun b o e n hb hx => ?_, fun b o e n hb hx => ?_, I.base.free, fun b o e hx => ?_, I.base.tups, I.base.frzs, I.base.tbls⟩, ⟨_, hn', fun j y v' e1 e2 e3 => ?_⟩, fun y c e => ?_, I.free, I.freeC, fun p hp => ?_, fun b ob e => ?_, by simpa using I.len⟩, h⟩
 · exact (hs.2 b (Nat.ne_of_lt (Nat.lt_of_lt_of_le (Heap.lt_size e) I.ok.above))).trans (I.base.keep b o e n hb hx)
 · obtain ⟨sl, e1⟩ := I.base.slot b o e n hb hx
   exact ⟨sl, (hs.2 b (Nat.ne_of_lt (Nat.lt_of_lt_of_le (Heap.lt_size e) I.ok.above))).trans e1⟩
 · obtain ⟨o', e1⟩ := I.base.there b o e hx
   exact ⟨o', (hs.2 b (Nat.ne_of_lt (Nat.lt_of_lt_of_le (Heap.lt_size e) I.ok.above))).trans e1⟩
 · by_cases hj : j = i
   · subst hj
     rw [hi] at e1; cases e1
     rw [List.getElem?_set_self hiσ] at e2
     cases e2
     exact ⟨u, r, .inl ⟨hk, by simp⟩⟩
   · rw [List.getElem?_set_ne (Ne.symm hj)] at e2
     obtain ⟨u', r', q⟩ := hl j y v' e1 e2 e3
     refine ⟨u', r', ?_⟩
     rcases q with ⟨k, e⟩ | ⟨k, c, e, z⟩
     · refine .inl ⟨k, ?_⟩
       have : y ≠ x := fun e => hj (nodup_ix hN e1 (e ▸ hi))
       simp [this, e]
     · exact .inr ⟨k, c, e, z.sameBut hs (cne y c e)⟩
 · obtain ⟨w', z⟩ := I.cell y c e
   exact ⟨w', z.sameBut hs (cne y c e)⟩
 · obtain ⟨e, n, ne, nf, d⟩ := I.pin p hp
   exact ⟨(hs.2 p.1 ne).trans e, n, ne, nf, d⟩
 · refine (I.hok b ob e).stay (fun c w' hc q => (hs.2 c ?_).trans q) (fun _ q => q) fun _ _ q => q
   rintro rfl
   rcases hc with rfl | hc
   · rw [I.free] at e; cases e
   · rw [I.free] at hc; cases hc
end
end VL
namespace VL
open PySem PySem.Spec PyProof.Rows L2 GenW
section
variable {G : Gam} {X : Cx} {E : WX} {bs : List Bool} {σ0 : L2.St} {e : Expr} {pos : Pos} {p s : Bool} {m : ME} {m1 m2 : MS} {st : Stmt} {rest : List Stmt}
theorem veg_var {i : Nat} (h : PEg X e (tVar i)) : PEg X e (rd G E true false (mVar i)) := by
 refine PEg.pre h fun σ H Q z => ?_
 obtain ⟨R, ρ, Os, rel, post⟩ := z
 unfold mVar at post
 cases hv : ρ[i]? with
 | none => rw [hv] at post; exact post.elim
 | some o =>
  cases o with
  | none => rw [hv] at post; exact post.elim
  | some v =>
   rw [hv] at post
   obtain ⟨x, hx, rep⟩ := rel.rep i v hv
   refine ⟨x, hx, post x H Os (Os i) (rel.weak fun a z => z.elim id fun z => by cases z.1) (rep.mono (fun a o e nw => ⟨e, fun z => nw (z.imp (fun z => z.elim id fun z => by cases z.1) id)⟩) fun _ _ _ e => e) (fun z => by cases z) (KeepE.refl.imp fun a z => by cases z.1) fun _ => ⟨rfl, rfl, fun _ _ e => e⟩⟩
theorem veg_c {x : V} {v : Val} (h : PEg X e (tC x)) (r : ∀ W H, Rep G W H x v []) : PEg X e (rd G E true true (mC v)) := by
 refine PEg.pre h fun σ H Q z => ?_
 obtain ⟨R, ρ, Os, rel, post⟩ := z
 exact post x H Os [] (rel.weak fun a z => z.elim id fun z => nomatch z.2) (r _ _) (fun _ => List.nodup_nil) (KeepE.refl.imp fun a z => nomatch z.2) fun _ => ⟨rfl, rfl, fun _ _ e => e⟩
theorem veg_list {zp lp : Pos} (hK : X.K = G.K) (hg : Gl X "list") (hm : X.mg "list" = none) (hv : bootBuiltins "list" = some (.type "list")) (h : PEg X e (rd G E p s m))
    (he : starEach [e] X.env = (false, eval e X.env) :: starEach [] X.env := by rfl) (hpl : (backTo zp (starEach [] X.env)).any (·.1) = false := by rfl) : PEg X (.Call (.Name "list" lp) [e] [] zp) (rd G E (([⟨p, s, m⟩] : List Op).all (·.p)) true (mFun semList [m])) :=
 PEg.pre (peg_list hg hm hv (pag_cons h pag_nil he) he hpl) (fun_pre (os := [⟨p, s, m⟩]) (r := fun xs H Q => ∃ p ys, xs = [V.ref p] ∧ (SqL X.K H p ys ∨ SqT X.K H p ys) ∧ ∀ l, H l = none → Q (V.ref l) (upd H l (.lst ys))) (fun σ H Q h => h) (ok_list hK) wf1)
theorem tng_root {i : Nat} (h : PEg X e (tVar i)) : PEg X e (tNav X.K i []) := PEg.pre h fun σ H Q ⟨x, y, h1, h2, q⟩ => ⟨x, h1, by cases h2; exact q⟩
theorem veg_app {i : Nat} {o : Expr} {apos : Pos} (ho : PEg X o (tVar i)) (he : PEg X e (rd G E p true m)) (hbase : attributeBase o "append" X.env (eval o X.env) = eval o X.env := by rfl)
    (hfew : ((backTo pos (starEach [e] X.env)).all (fun x => !x.1) && (backToKw pos (keywordEach [] X.env)).all (fun x => x.1.isSome) && decide (([e] : List Expr).length + ([] : List Keyword).length + (if ([] : List Keyword).isEmpty then 0 else 1) < 30)) = true := by rfl)
    (hline : (apos.endLine == pos.line) = true := by rfl) (hs : starEach [e] X.env = (false, eval e X.env) :: starEach [] X.env := by rfl) (hp : (backTo pos (starEach [] X.env)).any (·.1) = false := by rfl) : PEg X (.Call (.Attribute o "append" apos) [e] [] pos) (rd G E false true (mLopN i fApp m)) :=
 PEg.pre (peg_append (tng_root ho) (pag_cons he pag_nil hs) hbase hfew hline hs hp) fun σ H Q h => lopN_pre ok_app h
theorem vsg_expr (he : PEg X e (rd G E p s m)) (hs : swapsWith e none pos.line X.env = pure false := by rfl) : PSg X (.Expr e pos) (tS G E bs σ0 (mDrop m)) := by
 refine PSg.pre (psg_expr he hs) fun D σ H ⟨R, ρ, Os, rel, pin, post⟩ => ⟨R, ρ, Os, rel, ?_⟩
 refine PostS.post (f := fun _ ρ' => .nx ρ') pin post fun v ρ' x H' Os' O _ post rel rep nd k => ?_
 exact post σ H' Os' pin (rel.weak fun a z => .inl z) (k.imp fun _ z => z.elim)
theorem vssg_nil : PSsg X [] (tS G E bs σ0 mNext) := PSsg.pre pssg_nil fun D σ H ⟨R, ρ, Os, rel, pin, post⟩ => post σ H Os pin rel KeepE.refl
theorem vssg_cons (h1 : PSg X st (tS G E bs σ0 m1)) (h2 : PSsg X rest (tS G E bs σ0 m2)) : PSsg X (st :: rest) (tS G E bs σ0 (mSeq m1 m2)) := by
 refine PSsg.pre (pssg_cons h1 h2) fun D σ H ⟨R, ρ, Os, rel, pin, post⟩ => ⟨R, ρ, Os, rel, pin, ?_⟩
 unfold mSeq at post
 cases hm : m1 ρ with
 | nx ρ' => rw [hm] at post; exact fun σ' H' Os' p r k => ⟨R, ρ', Os', r, p, post.later k⟩
 | bad => rw [hm] at post; exact post
 | bk ρ' => rw [hm] at post; exact post
 | ct ρ' => rw [hm] at post; exact post
 | rt v ρ' => rw [hm] at post; exact post
 | exc e ρ' => rw [hm] at post; exact post
theorem vgg_name {i : Nat} {x : Str} (hN : X.N.Nodup) (hi : X.N[i]? = some x) (hk : X.env.scope.names.lookup x = some .local) (hb : bs[i]? ≠ some true := by decide) : PGg X (.Name x pos) (tG G bs σ0 (gV i)) := by
 refine PGg.pre (pgg_name hN hi hk) fun x σ H Q ⟨R, ρ, Os, v, O, rel, rep, nd, nr, pin, post⟩ => ?_
 unfold gV at post
 by_cases hi' : i < ρ.length
 · rw [if_pos hi'] at post
   refine post _ _ (pin.set hb) (by rw [List.length_set]) (rel.put rep nd hi' nr) fun a ⟨j, z⟩ => ?_
   by_cases hj : j = i
   · simp only [hj, if_true] at z; exact .inr z
   · simp only [hj, if_false] at z; exact .inl ⟨j, z⟩
 · rw [if_neg hi'] at post; exact post.elim
end
theorem call_ofX {G : Gam} {E : WX} {σ : L2.St} {as : List Arg} {R : Addr → Prop} {ρ ρ1 ρ2 : VEnv} {Os : Nat → List Addr} {vs us : List Val} {n : Nat} {H : Hp} {K : List V → Hp → Prop} (df : Dfl G as) (hs : (vals as).all (·.s) = true) (hn : as.length = n) (ok : refsOk ρ as = true) (rel : Rel G R H σ ρ Os)
    (he : evalM ((vals as).map Op.m) ρ = .ok vs ρ1) (hf : fill as ρ1 vs = some (us, ρ2))
    (k : ∀ xs H1 Os2 Oa, xs.length = n → Rel G (fun a => R a ∨ We Oa a) H1 σ ρ2 Os2 → Rel G (fun a => R a ∨ We Os2 a) H1 (xs.map some) (us.map some) Oa → KeepE H Os H1 Os2 (We Oa) → K xs H1) : nestG G E as σ H K := by
 refine nestG_of (ρ := ρ) (fun i v hv => let ⟨x, hx, _⟩ := rel.rep i v hv; ⟨x, hx⟩) ok (nest_of (wf_all hs) rel ?_)
 rw [evalA_eq, he]
 intro xs H1 Os1 Ol rel1 reps nd1 keep1 pure1
 have hlen := reps.len
 have hv := evalM_len he
 rw [List.length_map] at hv
 have es := stab_all hs (hv.symm.trans hlen.2)
 rw [es] at rel1 nd1 reps keep1
 have hnr : ∀ a ∈ Ol.flatten, ¬ R a := fun a ha z => by
  obtain ⟨o, e⟩ := rel.rt a z
  obtain ⟨_, _, n⟩ := keep1 a o e (rel.nr z)
  exact n ha
 obtain ⟨Os2, Ul, held, eqv, nrf⟩ := Held.fill df ⟨rel1, reps, nd1, hnr⟩ hf
 have view := held.view
 have wf : ∀ a, We (fun j => Ul.getD j []) a ↔ a ∈ Ul.flatten := fun a => ⟨fun ⟨i, z⟩ => flat_get z, fun z => get_flat z⟩
 have mlen : (merge σ as xs).length = n := by
  have := held.rep.len.1
  rw [this, (fill_len hf).1, hn]
 refine k _ _ Os2 _ mlen (held.rel.weak fun a z => z.imp id (wf a).mp) view fun a o e nw => ?_
 obtain ⟨e1, n1, n2⟩ := keep1 a o e nw
 have nn : ¬ (We Os2 a ∨ a ∈ Ul.flatten) := fun z => ((eqv a).mp z).elim n1 n2
 exact ⟨e1, fun z => nn (.inl z), fun z => nn (.inr ((wf a).mp z))⟩
theorem made_nestX {G : Gam} {X : Cx} {E : WX} {e : Expr} {es : List Expr} {as : List Arg} {x : Str} {px cpos : Pos} {k n : Nat} {f : Addr} {fd : FuncData} {ps ks : List Str} {mf : MGF} {kws : List Keyword} {os1 os2 : List Op} {g : List Value → List Value → List Value} {gV : List V → List V → List V}
    {pins : List (Addr × Obj)} {s : Shared} {σ : L2.St} {H : Hp} {Ψ : Hp → (Nat → Prop) → YP → XK → (Addr → Prop) → Prop} (c : CallX G X E k n f fd ps ks mf x px cpos e es kws as os1 os2 g gV) (hr : RoomG k X.A) (I : Inv X pins σ H s) (h : nestG G E as σ H fun xs H1 => ∃ Q' yp E0 Gw, spXV G n mf xs H1 Q' yp E0 Gw ∧ Ψ H1 Q' yp E0 Gw) :
    wpAny (model X.prog X.w) X.A (eval (.Call (.Name x px) (e :: es) kws cpos) X.env) (fun u z' => ∃ a H1 z Q' yp E0 Gw, u = .ref a ∧ Inv X pins σ H1 z ∧ MadeX X.prog X.w X.K X.mg X.base k X.stack H1 z Q' yp E0 Gw a z' ∧ Ψ H1 Q' yp E0 Gw) X.xe s := by
 have q0 := nest_of_G c.nr h
 rw [c.hv] at q0
 have q1 := nest_len (nest_app q0)
 have q2 := nest_imp q1 (K' := fun xs H1 => xs.length = os1.length ∧ nest G E os2 σ H1 fun zs H2 => zs.length = os2.length ∧ ∃ Q' yp E0 Gw, spXV G n mf (mergeD0 as (xs ++ zs)) H2 Q' yp E0 Gw ∧ Ψ H2 Q' yp E0 Gw) fun xs H1 ⟨l, z⟩ => ⟨l, nest_len z⟩
 refine wpAny_Call_Name_kw (ld_glob I c.hg c.hm ?_ c.hdb)
 refine PySem.W.callWith_KW (h₀ := X.base) I.ok.mod.kin c.hk c.hall (thn (c.ha.run cpos pins s σ H _ I q2) fun us s1 ⟨xs, H1, I1, r, lx, q3⟩ => ?_) c.hpl c.he
 refine thn (c.hkw.run cpos pins s1 σ H1 _ I1 q3) fun ws s2 ⟨zs, H2, I2, rz, hlen, Q', yp, E0, Gw, sp, hΨ⟩ => ⟨I2.kIn, ?_⟩
 rw [c.hks]
 rw [← c.hgv xs zs lx hlen] at sp
 refine wpAny_call (codeAny_mono (c.F.run X.A X.stack s2 H2 ⟨us, ks.zip ws⟩ (g us ws) (gV xs zs) Q' yp E0 Gw hr I2.env0 (c.hb.to s2 us ws I2.kIn (by rw [← r.length, lx]) (by rw [← rz.length, hlen, c.hks0])) (c.hb.rel r rz) sp) fun res z' ⟨a, ea, md⟩ => ?_)
 subst ea
 exact ⟨a, H2, s2, Q', yp, E0, Gw, rfl, I2, md, hΨ⟩
theorem inv_went {X : Cx} {pins : List (Addr × Obj)} {σ : L2.St} {H H2 : Hp} {y y2 : Shared} {L : Addr} {Gw G2 C : Addr → Prop} (I : Inv X pins σ H y) (hl : X.env.locals < L) (hc : ∀ x c, X.env.cells.lookup x = some c → c < L) (hp : ∀ p ∈ X.pn ++ pins, p.1 < L) (h : Went X.prog X.w X.stack ⟨cutS L y, H, Gw, C⟩ [] y2 H2 G2) : Inv X pins σ H2 y2 := by
 have mem : ∀ b o, y.heap.get? b = some o → b ∉ (List.range y.heap.objs.size).filter (L ≤ ·) → (cutH y.heap L).get? b = some o := fun b o e hx => by
  have lt : b < L := by
   refine Nat.lt_of_not_le fun q => hx (List.mem_filter.mpr ⟨List.mem_range.mpr (Heap.lt_size e), by simpa using q⟩)
  rw [cut_lt lt]; exact e
 have nx : ∀ b : Addr, b ∉ ([] : List Addr) := fun b h => nomatch h
 refine I.call' (ch := (List.range y.heap.objs.size).filter (L ≤ ·)) h.os ⟨fun b o e n hb hx => h.un.keep b o (mem b o e hx) n hb (nx b), fun b o e n hb hx => h.un.slot b o (mem b o e hx) n hb (nx b), fun b o e n hx => h.un.free b o (mem b o e hx) n (nx b), fun b o e hx => h.un.there b o (mem b o e hx) (nx b), h.un.tups, h.un.frzs, h.un.tbls⟩ h.hok h.bare fun b hb => ?_
 have ge : L ≤ b := by simpa using (List.mem_filter.mp hb).2
 exact ⟨.inr (Nat.le_trans I.ok.above (Nat.le_trans (Nat.le_of_lt hl) ge)), Nat.ne_of_gt (Nat.lt_of_lt_of_le hl ge), fun x c e => Nat.ne_of_lt (Nat.lt_of_lt_of_le (hc x c e) ge), fun p hm => Nat.ne_of_lt (Nat.lt_of_lt_of_le (hp p hm) ge)⟩
def forX (g : MG) (body : MS) : List Val → VEnv → RS
 | [], ρ => .nx ρ
 | u :: us, ρ => match g u ρ with
  | none => .bad
  | some ρ1 => match body ρ1 with
   | .nx ρ2 => forX g body us ρ2
   | .ct ρ2 => forX g body us ρ2
   | _ => .bad
def mForX (as : List Arg) (mf : MGF) (g : MG) (body : MS) : MS := fun ρ => if refsOk ρ as = true then (match evalM ((vals as).map Op.m) ρ with
 | .ok vs ρ1 => (match fill as ρ1 vs with
  | some (us, ρ2) => (match mf us with
   | .nx zs _ => forX g body zs ρ2
   | _ => .bad)
  | none => .bad)
 | _ => .bad) else .bad
abbrev RJ (R Gw : Addr → Prop) (H : Hp) : Addr → Prop := fun a => R a ∨ (Gw a ∧ ∃ u, H a = some u)
structure ForJ (G : Gam) (X : Cx) (E : WX) (D : Ends) (bs : List Bool) (σ0 : L2.St) (g : MG) (mb : MS) (pins : List (Addr × Obj)) (R R0 : Addr → Prop) (H0 : Hp) (Os0 : Nat → List Addr) (zs : List Val) (i : Nat) (y : Shared) (H : Hp) (Gw C : Addr → Prop) (σ : L2.St) (ρ : VEnv) (Os : Nat → List Addr) : Prop where
 I : Inv X pins σ H y
 pin : PinB bs σ0 σ
 rel : Rel G (RJ R Gw H) H σ ρ Os
 nr : ∀ a, R a → ¬ Gw a
 keep : KeepE H0 Os0 H Os Gw
 own : ∀ a, We Os a → R0 a ∨ C a
 post : PostS G R E D bs σ0 H0 Os0 (forX g mb (zs.drop i) ρ)
abbrev forJ (G : Gam) (X : Cx) (E : WX) (D : Ends) (bs : List Bool) (σ0 : L2.St) (g : MG) (mb : MS) (pins : List (Addr × Obj)) (R R0 : Addr → Prop) (H0 : Hp) (Os0 : Nat → List Addr) (zs : List Val) : OwnJ := fun i y H Gw C => ∃ σ ρ Os, ForJ G X E D bs σ0 g mb pins R R0 H0 Os0 zs i y H Gw C σ ρ Os
section
variable {G : Gam} {X : Cx} {E : WX} {D : Ends} {bs : List Bool} {σ0 : L2.St} {g : MG} {mb : MS} {pins : List (Addr × Obj)} {R R0 : Addr → Prop} {H0 : Hp} {Os0 : Nat → List Addr} {zs : List Val}
theorem ForJ.step {L i : Nat} {σ7 : L2.St} {ρ7 : VEnv} {Os7 : Nat → List Addr} {y7 y2 : Shared} {H7 H2 : Hp} {R7 Gw G2 C : Addr → Prop} (I7 : Inv X pins σ7 H7 y7) (hl : X.env.locals < L) (hc : ∀ x c, X.env.cells.lookup x = some c → c < L) (hp : ∀ p ∈ X.pn ++ pins, p.1 < L)
    (pin : PinB bs σ0 σ7) (r7 : Rel G R7 H7 σ7 ρ7 Os7) (h1 : ∀ a, R a → R7 a) (h2 : ∀ a, Gw a → R7 a) (nr : ∀ a, R a → ¬ Gw a) (kp : KeepE H0 Os0 H7 Os7 Gw) (own : ∀ a, We Os7 a → R0 a ∨ C a) (post : PostS G R E D bs σ0 H0 Os0 (forX g mb (zs.drop i) ρ7)) (wt : Went X.prog X.w X.stack ⟨cutS L y7, H7, Gw, C⟩ [] y2 H2 G2) :
    forJ G X E D bs σ0 g mb pins R R0 H0 Os0 zs i y2 H2 G2 C := by
 have tr : ∀ a, R a → ∃ u, H7 a = some u := fun a z => r7.rt a (h1 a z)
 refine ⟨σ7, ρ7, Os7, inv_went I7 hl hc hp wt, pin, ⟨r7.len, fun j v hv => ?_, r7.nil, r7.nd, r7.dj, fun j a ha z => ?_, fun a z => ?_⟩, fun a z => ?_, fun a o e n => ?_, own, post⟩
 · obtain ⟨x, e, q⟩ := r7.rep j v hv
   have ko : ∀ a ∈ Os7 j, ∀ o, H7 a = some o → H2 a = some o := fun a ha o ea => wt.keep a o ea fun z => r7.dr j a ha (h2 a z)
   refine ⟨x, e, q.mono (fun a o ea nw => ?_) ko⟩
   have ng : ¬ Gw a := fun z => nw (.inl (h2 a z))
   exact ⟨wt.keep a o ea ng, fun z => z.elim (fun z => z.elim (fun z => nw (.inl (h1 a z))) fun z => wt.apart a o ea ng z.1) fun z => nw (.inr z)⟩
 · obtain ⟨o, ea⟩ := r7.there a ha
   exact z.elim (fun z => r7.dr j a ha (h1 a z)) fun z => wt.apart a o ea (fun z => r7.dr j a ha (h2 a z)) z.1
 · rcases z with z | z
   · obtain ⟨u, e⟩ := tr a z
     exact ⟨u, wt.keep a u e (nr a z)⟩
   · exact z.2
 · obtain ⟨u, e⟩ := tr a z
   exact wt.apart a u e (nr a z)
 · obtain ⟨e1, n1, n2⟩ := kp a o e n
   exact ⟨wt.keep a o e1 n2, n1, wt.apart a o e1 n2⟩
def ypX (G : Gam) (R0 : Addr → Prop) (zs : List Val) : YP := fun i x H C N Gw => (∀ a, R0 a → C a) ∧ (∀ a, C a → ¬ Gw a) ∧ (∀ a, Gw a → ∃ u, H a = some u) ∧ ∃ z O, zs[i]? = some z ∧ N = (· ∈ O) ∧ (∀ a ∈ O, C a) ∧ O.Nodup ∧ Rep G (fun a => C a ∨ Gw a) H x z O
theorem gives_ypX {j : Nat} {z : Val} (e : zs[j]? = some z) : Gives G R0 (ypX G R0 zs) j z := fun R Os O x H r0 rep nd h1 h2 =>
 ⟨fun a z => .inl (r0 a z), fun a z => (h1 a z).1, h2, z, O, e, rfl, fun a h => .inr h, nd, rep⟩
variable {e : Expr} {es : List Expr} {as : List Arg} {x : Str} {px cpos pos : Pos} {k n : Nat} {f : Addr} {fd : FuncData} {ps ks : List Str} {mf : MGF} {kws : List Keyword} {os1 os2 : List Op} {gf : List Value → List Value → List Value} {gV : List V → List V → List V} {tg : Expr} {body : List Stmt}
theorem vs_forX (c : CallX G X E k n f fd ps ks mf x px cpos e es kws as os1 os2 gf gV) (hr : RoomG (k + 1) X.A) (hp : PassesOwn (model X.prog X.w) X.A X.env X.xe) (hg : PGg X tg (tG G bs σ0 g)) (hb : PSsg X body (tS G E bs σ0 mb))
    (hs : ∀ z, foldedSetIterable (.Call (.Name x px) (e :: es) kws cpos) X.env z = pure z := by intro _; rfl) : VS G X E bs σ0 (.For tg (.Call (.Name x px) (e :: es) kws cpos) body [] pos) (mForX as mf g mb) := by
 refine ⟨fun pins s σ H D I ⟨R, ρ, Os, rel, pin, post⟩ => ?_⟩
 unfold mForX at post
 by_cases ok : refsOk ρ as = true
 rotate_left
 · rw [if_neg ok] at post; exact post.elim
 rw [if_pos ok] at post
 cases he : evalM ((vals as).map Op.m) ρ with
 | bad => rw [he] at post; exact post.elim
 | exc e ρ' => rw [he] at post; exact post.elim
 | ok vs ρ1 =>
 rw [he] at post
 dsimp only at post
 cases hf : fill as ρ1 vs with
 | none => rw [hf] at post; exact post.elim
 | some q =>
 obtain ⟨us, ρ2⟩ := q
 rw [hf] at post
 dsimp only at post
 cases hm : mf us with
 | bad => rw [hm] at post; exact post.elim
 | exc e ρ' => rw [hm] at post; exact post.elim
 | nx zs ρx =>
 rw [hm] at post
 dsimp only at post
 have nst : nestG G E as σ H fun xs H1 => ∃ Q' yp E0 Gw, spXV G n mf xs H1 Q' yp E0 Gw ∧ (∃ Os2, (Q' = fun i => i = zs.length) ∧ yp = ypX G (fun a => R a ∨ We Os2 a) zs ∧ (E0 = fun _ _ _ => False) ∧ Rel G (fun a => R a ∨ Gw a) H1 σ ρ2 Os2 ∧ (∀ a, R a → ¬ Gw a) ∧ KeepE H Os H1 Os2 Gw) := by
  refine call_ofX c.df c.hs c.hn ok rel he hf fun xs H1 Os2 Oa hlen r1 rv kp => ⟨_, _, _, We Oa, ⟨hlen, fun a => R a ∨ We Os2 a, us, Oa, rv, rfl, ?_⟩, Os2, rfl, rfl, rfl, r1, fun a z => rv.nr (.inl z), kp⟩
  rw [hm]
  exact ⟨fun j z ez => gives_ypX ez, rfl⟩
 refine wpAny_For (thn (made_nestX (Ψ := fun H1 Q' yp E0 Gw => ∃ Os2, (Q' = fun i => i = zs.length) ∧ yp = ypX G (fun a => R a ∨ We Os2 a) zs ∧ (E0 = fun _ _ _ => False) ∧ Rel G (fun a => R a ∨ Gw a) H1 σ ρ2 Os2 ∧ (∀ a, R a → ¬ Gw a) ∧ KeepE H Os H1 Os2 Gw) c (hr.mono (Nat.le_succ k)) I nst) fun u z' ⟨a, H1, z, Q', yp, E0, Gw0, eu, I1, md, Os2, eQ, ey, eE, r1, nr1, kp1⟩ => ?_) hs
 subst eu
 subst eQ
 subst ey
 subst eE
 obtain ⟨gn, c0, hgen, hgs, wake⟩ := md.own
 refine wpAny_pyIter_gen hgen ?_
 have hloc : X.env.locals < z.heap.objs.size := by
  obtain ⟨m, ⟨o, _, _, ho, _⟩, _⟩ := I1.loc
  exact Heap.lt_size ho
 have hcell : ∀ x c, X.env.cells.lookup x = some c → c < z.heap.objs.size := fun x c e => by
  obtain ⟨_, o, ho, _⟩ := I1.cell x c e
  exact Heap.lt_size ho
 have hpin : ∀ p ∈ X.pn ++ pins, p.1 < z.heap.objs.size := fun p hm => Heap.lt_size (I1.pin p hm).1
 let R0 : Addr → Prop := fun a => R a ∨ We Os2 a
 let J : OwnJ := forJ G X E D bs σ0 g mb pins R R0 H Os zs
 have cutz : cutS z.heap.objs.size z = z := by
  unfold cutS cutH
  rw [Array.extract_size]
 have hh : X.A.handled = none := hr.toRoom.hd
 refine codeAny_forLoop_any (fun m y => ∃ gs, y.gens[gn]? = some gs ∧ gs.Goes (model X.prog X.w) X.A.in1 (OverX X.prog X.w X.stack H1 z J a gn (fun i => i = zs.length) (fun _ _ _ => False)) (ItemX X.prog X.w X.K X.mg X.base X.A.in1 X.stack z.heap.objs.size [] J a gn (ypX G R0 zs)) m (.send .none) (y.setGen gn .running) ∧ y.heap.IsGen a gn ∧ y.heap.NoLimit) ?_ sizeLine ⟨.fresh c0, hgs, ⟨rfl, ?_⟩, hgen, md.lim⟩
 rotate_left
 · refine wake X.A.in1 [] J (z'.setGen gn .running) [] hr.in1 I1.ok.frames (fun b hb => nomatch hb) (fun b o e => e) ⟨rfl, fun p hp => nomatch hp⟩ md.os (allBare_setGen (s := z') md.bare rfl) fun y2 H2 G2 wt => ?_
   refine ForJ.step (y7 := z) (R7 := fun a => R a ∨ Gw0 a) I1 hloc hcell hpin pin r1 (fun a z => .inl z) (fun a z => .inr z) nr1 kp1 (fun a z => .inl (.inr z)) (by rw [List.drop_zero]; exact post) (by rw [cutz]; exact wt)
 rintro m y ⟨gs, hgs, hgo, hg1, hlim⟩
 have hgl : gn < y.gens.size := (Array.getElem?_eq_some_iff.mp hgs).1
 refine wpAny_passesOwn hp (wpAny_gsz (n := gn + 1) hgl (next_genG (F := fun n _ y => AllBare y.gens ∧ ∃ i H' Cg, (∀ y2, Later y y2 → J i y2 H' (fun _ => False) Cg) ∧ i ≤ sizeLine ∧ i = zs.length) (Er := fun e y => L2.CX X.prog X.w X.stack H1 z (fun _ _ _ => False) e y ∧ y.heap.IsGen a gn) hh hlim hr.toRoom.depth hg1 hgs hgo (fun v s1 gs' hbare hv hsz => ?_) (fun s1 hp1 h' hk _ => ?_) fun e s1 he => ?_))
 · obtain ⟨b1, l1, g1, i, xv, H', C, N, Gw, Cg, hn, rv, hJ, hCg, ⟨y1, y2, y3, zi, O, ezi, eN, yO, ndO, rep⟩, ⟨ua, hLa⟩, kap⟩ := hv
   subst eN
   obtain ⟨σ', ρ', Os', Ij, pinj, relj, nrj, kpj, ownj, postj⟩ := hJ s1 ⟨rfl, b1, fun b o e => e⟩
   have ownC : ∀ a, We Os' a → C a := fun a z => (ownj a z).elim (y1 a) (hCg a)
   have hlt : i < zs.length := (List.getElem?_eq_some_iff.mp ezi).1
   have ezi' : zs[i] = zi := (List.getElem?_eq_some_iff.mp ezi).2
   rw [List.drop_eq_getElem_cons hlt, ezi'] at postj
   unfold forX at postj
   have gsz : gn < s1.gens.size := by
    have q : (s1.setGen gn gs').gens.size = s1.gens.size := setGen_size _ _ _
    omega
   obtain ⟨og, nmg, qng, hog, hcg, hdg, _⟩ := id g1
   dsimp only
   refine wpAny_passesOwn hp (go_of (s := s1.setGen gn gs') (o := og) hog hcg hdg (by decide) ?_)
   have I2 : Inv X pins σ' H' (s1.setGen gn gs') := Ij.call' (ch := []) rfl Un.refl Ij.hok (allBare_setGen (s := s1) b1 hbare) fun b q => nomatch q
   have hO : ∀ a ∈ O, ¬ RJ R Gw H' a := fun a ha q => q.elim (fun q => nrj a q (.inr ha)) fun q => y2 a (yO a ha) q.1
   have relO : Rel G (fun a => RJ R Gw H' a ∨ a ∈ O) H' σ' ρ' Os' := relj.weak fun a q => q.elim (fun q => q.imp id fun q => ⟨.inl q.1, q.2⟩) fun q => .inr ⟨.inr q, rep.there a q⟩
   have repO : Rep G (WW (fun a => RJ R Gw H' a ∨ a ∈ O) Os') H' xv zi O := rep.mono (fun a o e nw => ⟨e, fun q => by
    rcases q with (q | q) | q
    · exact q.elim (fun q => nw (.inl (y1 a (.inl q)))) fun q => nw (.inr q.1)
    · exact nw (.inl (yO a q))
    · exact nw (.inl (ownC a q))⟩) fun _ _ _ e => e
   let Nx : L2.St → Hp → Prop := fun σ7 H7 => ∃ ρ7 Os7, PinB bs σ0 σ7 ∧ Rel G (RJ R Gw H') H7 σ7 ρ7 Os7 ∧ (∀ b u, H' b = some u → ¬ We Os' b → b ∉ O → H7 b = some u ∧ ¬ We Os7 b) ∧ PostS G R E D bs σ0 H Os (forX g mb (zs.drop (i + 1)) ρ7)
   refine wpAny_passesOwn hp (thn (hg.run pins (s1.setGen gn gs') σ' H' xv v (fun σ5 H5 => H5 = H' ∧ tS G E bs σ0 mb { D with nx := Nx, ct := Nx, bk := fun _ _ => False, rt := fun _ _ => False } σ5 H5) I2 rv ⟨RJ R Gw H', ρ', Os', zi, O, relO, repO, ndO, hO, pinj, ?_⟩) fun _ s5 ⟨σ5, H5, k5, I5, e5, t5⟩ => ?_)
   · cases hgz : g zi ρ' with
     | none => rw [hgz] at postj; exact postj.elim
     | some ρ3 =>
      rw [hgz] at postj
      dsimp only at postj ⊢
      intro σ3 Os3 pin3 _ rel3 we3
      refine ⟨rfl, RJ R Gw H', ρ3, Os3, rel3, pin3, ?_⟩
      have go : ∀ ρ4, PostS G R E D bs σ0 H Os (forX g mb (zs.drop (i + 1)) ρ4) → ∀ σ7 H7 Os7, PinB bs σ0 σ7 → Rel G (RJ R Gw H') H7 σ7 ρ4 Os7 → KeepE H' Os3 H7 Os7 (fun _ => False) → Nx σ7 H7 := fun ρ4 ps σ7 H7 Os7 p7 r7 k7 =>
       ⟨ρ4, Os7, p7, r7, fun b u e n1 n2 => let ⟨e1, n, _⟩ := k7 b u e fun q => (we3 b q).elim n1 n2; ⟨e1, n⟩, ps⟩
      cases hbm : mb ρ3 with
      | bad => rw [hbm] at postj; exact postj.elim
      | exc e ρ4 => rw [hbm] at postj; exact postj.elim
      | rt v ρ4 => rw [hbm] at postj; exact postj.elim
      | bk ρ4 => rw [hbm] at postj; exact postj.elim
      | nx ρ4 => rw [hbm] at postj; exact go ρ4 postj
      | ct ρ4 => rw [hbm] at postj; exact go ρ4 postj
   subst e5
   refine wpAny_passesOwn hp (thn (hb.run pins s5 σ5 H5 _ I5 t5) fun fl s7 q7 => ?_)
   have again : ∀ {σ7 : L2.St} {H7 : Hp}, KU X s5 H5 s7 H7 → Inv X pins σ7 H7 s7 → Nx σ7 H7 → ∃ m', m' < m ∧ ∃ gs, s7.gens[gn]? = some gs ∧ gs.Goes (model X.prog X.w) X.A.in1 (OverX X.prog X.w X.stack H1 z J a gn (fun i => i = zs.length) (fun _ _ _ => False)) (ItemX X.prog X.w X.K X.mg X.base X.A.in1 X.stack z.heap.objs.size [] J a gn (ypX G R0 zs)) m' (.send .none) (s7.setGen gn .running) ∧ s7.heap.IsGen a gn ∧ s7.heap.NoLimit := by
    intro σ7 H7 k7 I7 ⟨ρ7, Os7, p7, r7, kk, ps7⟩
    have ku := k5.trans k7
    have ge7 : s7.gens = (s1.setGen gn gs').gens := ku.gens
    have old : ∀ b o, z.heap.objs.size ≤ b → s1.heap.get? b = some o → H5 b = none → s7.heap.get? b = some o ∧ H7 b = none := fun b o l e n => ku.old b o e n (Nat.ne_of_gt (Nat.lt_of_lt_of_le hloc l))
    have w7 := I7.env0
    have bare7 : AllBare (s7.setGen gn .running).gens := allBare_setGen (s := s7) I7.bare rfl
    have I8 : Inv X pins σ7 H7 (s7.setGen gn .running) := I7.call' (ch := []) rfl Un.refl I7.hok bare7 fun b q => nomatch q
    have wk : WokeP X.prog X.w X.K X.mg X.base X.A.in1 X.stack z.heap.objs.size [] C s1 H5 (s7.setGen gn .running) H7 := ⟨⟨w7.frames, w7.mod, w7.bs, w7.bsz, w7.funs, w7.frf, w7.hok, bare7⟩, I7.os.trans Ij.os.symm, fun b o l _ n e => old b o l e n, fun b u e nC => (kk b u e (fun q => nC (ownC b q)) fun q => nC (yO b q)).1, ku.there⟩
    have q := kap (s7.setGen gn .running) H7 [] wk ⟨rfl, fun p hp => nomatch hp⟩ fun y2 H2 G2 wt => ?_
    · cases m with
      | zero => exact q.elim
      | succ m' =>
       refine ⟨m', Nat.lt_succ_self _, gs', by rw [ge7]; exact setGen_at gsz, q, ⟨og, nmg, qng, (old a og hLa hog ua).1, hcg, hdg, by assumption⟩, I7.nolimit⟩
    · refine ForJ.step (y7 := s7.setGen gn .running) (R7 := RJ R Gw H5) I8 hloc hcell hpin p7 r7 (fun b q => .inl q) (fun b q => .inr ⟨q, y3 b q⟩) (fun b q r => nrj b q (.inl r)) (fun b o e n => ?_) (fun b q => ?_) ps7 wt
      · obtain ⟨e1, n1, n2⟩ := kpj b o e n
        obtain ⟨e2, n3⟩ := kk b o e1 n1 fun q => n2 (.inr q)
        exact ⟨e2, n3, fun q => n2 (.inl q)⟩
      · right
        cases hb5 : H5 b with
        | none => exact .inr ⟨hb5, r7.we q⟩
        | some u =>
         by_cases w1 : We Os' b
         · exact .inl (ownC b w1)
         · by_cases w2 : b ∈ O
           · exact .inl (yO b w2)
           · exact absurd q (kk b u hb5 w1 w2).2
   cases fl with
   | next => obtain ⟨σ7, H7, k7, I7, n7⟩ := q7; exact again k7 I7 n7
   | cont => obtain ⟨σ7, H7, k7, I7, n7⟩ := q7; exact again k7 I7 n7
   | brk => obtain ⟨σ7, H7, k7, I7, n7⟩ := q7; exact n7.elim
   | ret v => obtain ⟨v7, σ7, H7, k7, I7, r7, n7⟩ := q7; exact n7.elim
 · obtain ⟨b1, i, H', Cg, hJ, _, ei⟩ := hp1
   obtain ⟨σ', ρ', Os', Ij, pinj, relj, nrj, kpj, ownj, postj⟩ := hJ { s1.setGen gn .finished with heap := h' } ⟨rfl, allBare_setGen (s := s1) b1 rfl, hk⟩
   rw [ei, List.drop_length] at postj
   exact wpAny_execs_nil ⟨σ', H', Ij, postj σ' H' Os' pinj (relj.weak fun a z => .inl z) kpj⟩
 · obtain ⟨⟨_, _, _, _, _, _, _, _, _, _, _, _, w⟩, _⟩ := he
   exact w.elim
end
end VL
namespace VL
open PySem PySem.Spec PyProof.Rows L2
def fExtO (ys : List Val) (u : Val) : Option (List Val) := match u with
 | .lst true us => if ys.length + us.length ≤ 16777216 then some (ys ++ us) else none
 | _ => none
def mPopO (i : Nat) : ME := fun ρ => match ρ[i]? with
 | some (some (.lst true ys)) => (match ys.getLast? with
  | some z => .ok z (ρ.set i (some (.lst true ys.dropLast)))
  | none => .bad)
 | _ => .bad
section
variable {G : Gam} {X : Cx} {E : WX} {o e : Expr} {i : Nat} {pos apos : Pos} {p : Bool} {m : ME}
theorem ok_extO : LopOk G rExtend fExtO := by
 intro W H b xs ys O u y Ou zs eb q ry nd ndu dj hf
 unfold fExtO at hf
 split at hf
 · rename_i us
   split at hf
   · rename_i hl
     cases hf
     cases ry with
     | @lstO a xs2 _ O1 e1 q1 =>
     have ndO := (List.nodup_cons.mp nd).2
     have ndu1 := (List.nodup_cons.mp ndu).2
     refine ⟨xs ++ xs2, O ++ O1, fun Q h => ⟨b, a, xs, xs2, rfl, rfl, eb, e1, by rw [q.length, q1.length, sizeLine_eq]; exact hl, h⟩, List.nodup_append.mpr ⟨ndO, ndu1, fun c hc c' hc' e => dj c (List.mem_cons_of_mem _ hc) (List.mem_cons_of_mem _ (e ▸ hc'))⟩, fun c hc => (List.mem_append.mp hc).imp id (List.mem_cons_of_mem _), fun W' H' tr => ?_⟩
     have e : ∀ {xs : List V} {ys : List Val} {P : List Addr}, Reps G W H xs ys P → (∀ c ∈ P, c ∈ O ∨ c ∈ a :: O1) → Reps G W' H' xs ys P := by
      intro xs ys P r
      induction ys generalizing xs P with
      | nil => intro _; cases r; exact .nil
      | cons v vs ih =>
       intro hP
       cases r with
       | cons r t => exact .cons (tr _ _ _ (fun c hc => hP c (List.mem_append_left _ hc)) r) (ih t fun c hc => hP c (List.mem_append_right _ hc))
     exact (e q fun c hc => .inl hc).append (e q1 fun c hc => .inr (List.mem_cons_of_mem _ hc))
   · cases hf
 · cases hf
theorem ve_extO (ho : PE X o (tNav X.K i [])) (he : VE G X E p true e m) (hbase : attributeBase o "extend" X.env (eval o X.env) = eval o X.env := by rfl)
    (hfew : ((backTo pos (starEach [e] X.env)).all (fun x => !x.1) && (backToKw pos (keywordEach [] X.env)).all (fun x => x.1.isSome) && decide (([e] : List Expr).length + ([] : List Keyword).length + (if ([] : List Keyword).isEmpty then 0 else 1) < 30)) = true := by rfl)
    (hline : (apos.endLine == pos.line) = true := by rfl) (hs : starEach [e] X.env = (false, eval e X.env) :: starEach [] X.env := by rfl) (hp : (backTo pos (starEach [] X.env)).any (·.1) = false := by rfl) : VE G X E false true (.Call (.Attribute o "extend" apos) [e] [] pos) (mLopN i fExtO m) :=
 PE.pre (pe_bm PySem.F.plainAttrs_list PySem.F.slot_list_extend PySem.F.type_list_extend mt_extend ho (pa_cons he pa_nil hs) hbase hfew hline hs hp) fun σ H Q h => lopN_pre ok_extO h
theorem popO_pre {σ : L2.St} {H : Hp} {Q : VK} (h : rd G E false true (mPopO i) σ H Q) : tBM0 X.K "list" rPop (tNav X.K i []) σ H Q := by
 obtain ⟨R, ρ, Os, rel, post⟩ := h
 unfold mPopO at post
 split at post
 rotate_left
 · exact post.elim
 rename_i ys hv
 split at post
 rotate_left
 · exact post.elim
 rename_i z hz
 obtain ⟨x, hx, relM, _⟩ := rel.take hv
 obtain ⟨x', hx', rep⟩ := rel.rep i _ hv
 rw [hx] at hx'
 cases hx'
 have eys : ys = ys.dropLast ++ [z] := by
  have hne : ys ≠ [] := fun e => by rw [e] at hz; cases hz
  have h1 := List.getLast?_eq_some_getLast hne
  rw [h1] at hz
  have h2 := Option.some.inj hz
  rw [← h2]
  exact (List.dropLast_concat_getLast hne).symm
 generalize hOi : Os i = Oi at rep
 cases rep with
 | @lstO b xs2 _ P0 eb2 q =>
 rw [eys] at q
 obtain ⟨xs1, xs3, O1, O2, rfl, rfl, q1, q2⟩ := Reps.parted q
 cases q2 with
 | @cons x0 _ xs0 _ Oz Ot r1 rt =>
 cases rt
 have ndw := rel.nd i
 rw [hOi] at ndw relM
 simp only [List.append_nil] at ndw relM hOi q
 obtain ⟨nb, nd1⟩ := List.nodup_cons.mp ndw
 obtain ⟨ndO1, ndOz, dj⟩ := List.nodup_append.mp nd1
 refine ⟨.ref b, .ref b, hx, rfl, .inl ⟨rfl, _, .inl (.inl eb2)⟩, b, _, x0, rfl, rfl, eb2, by simp, ?_⟩
 rw [List.dropLast_concat]
 have mOi : ∀ a ∈ b :: (O1 ++ Oz), a ∈ Os i := fun a ha => by rw [hOi]; exact ha
 have hbW : WW R Os b := .inr ⟨i, mOi b List.mem_cons_self⟩
 have relB : Rel G (fun a => R a ∨ a ∈ b :: (O1 ++ Oz)) (upd H b (.lst xs1)) σ (ρ.set i none) (fun j => if j = i then [] else Os j) := relM.other (fun a u e n => (upd_ne fun q => n (.inr (by rw [q]; exact List.mem_cons_self))).trans e) fun a u e => by
  by_cases q : a = b
  · exact ⟨_, by rw [q]; exact upd_same⟩
  · exact ⟨u, (upd_ne q).trans e⟩
 have eS : (fun a => R a ∨ a ∈ b :: (O1 ++ Oz)) = fun a => Rp R true Oz a ∨ a ∈ b :: O1 := setEq fun a => by
  constructor
  · rintro (z | z)
    · exact .inl (.inl z)
    · rcases List.mem_cons.mp z with z | z
      · exact .inr (by rw [z]; exact List.mem_cons_self)
      · exact (List.mem_append.mp z).elim (fun z => .inr (List.mem_cons_of_mem _ z)) fun z => .inl (.inr ⟨rfl, z⟩)
  · rintro ((z | z) | z)
    · exact .inl z
    · exact .inr (List.mem_cons_of_mem _ (List.mem_append_right _ z.2))
    · rcases List.mem_cons.mp z with z | z
      · exact .inr (by rw [z]; exact List.mem_cons_self)
      · exact .inr (List.mem_cons_of_mem _ (List.mem_append_left _ z))
 rw [eS] at relB
 have wz : ∀ a, Rp R true Oz a → WW R Os a := fun a z => z.elim .inl fun z => .inr ⟨i, mOi a (List.mem_cons_of_mem _ (List.mem_append_right _ z.2))⟩
 have w1 : ∀ a ∈ b :: O1, WW R Os a := fun a z => .inr ⟨i, mOi a ((List.mem_cons.mp z).elim (fun z => by rw [z]; exact List.mem_cons_self) fun z => List.mem_cons_of_mem _ (List.mem_append_left _ z))⟩
 have w0 : ∀ a, We (fun j => if j = i then [] else Os j) a → WW R Os a := fun a ⟨j, z⟩ => by
  by_cases hj : j = i
  · simp only [hj, if_true] at z; cases z
  · simp only [hj, if_false] at z; exact .inr ⟨j, z⟩
 have keepB : ∀ {W' : Addr → Prop}, (∀ a, W' a → WW R Os a) → Keep (WW R Os) H W' (upd H b (.lst xs1)) := fun hW a o e nw => ⟨(upd_ne fun q => nw (by rw [q]; exact hbW)).trans e, fun z => nw (hW a z)⟩
 have q1' : Reps G (WW (fun a => Rp R true Oz a ∨ a ∈ b :: O1) (fun j => if j = i then [] else Os j)) (upd H b (.lst xs1)) xs1 ys.dropLast O1 := q1.mono (keepB fun a z => z.elim (fun z => z.elim (wz a) (w1 a)) (w0 a)) fun a ha o e => (upd_ne fun q => nb (by rw [← q]; exact List.mem_append_left _ ha)).trans e
 have hRb : ∀ a ∈ b :: O1, ¬ Rp R true Oz a := fun a ha z => by
  rcases z with z | z
  · exact rel.dr i a (mOi a ((List.mem_cons.mp ha).elim (fun z => by rw [z]; exact List.mem_cons_self) fun z => List.mem_cons_of_mem _ (List.mem_append_left _ z))) z
  · rcases List.mem_cons.mp ha with q | q
    · exact nb (by rw [← q]; exact List.mem_append_right _ z.2)
    · exact dj a q a z.2 rfl
 have hil : i < (ρ.set i none).length := by rw [List.length_set]; exact (List.getElem?_eq_some_iff.mp hv).1
 have done := relB.put (x := .ref b) (v := .lst true ys.dropLast) (.lstO upd_same q1') (List.nodup_cons.mpr ⟨fun z => nb (List.mem_append_left _ z), ndO1⟩) hil hRb
 have eσ : σ.set i (some (.ref b)) = σ := by
  apply List.ext_getElem?
  intro j
  by_cases hj : i = j
  · subst hj
    rw [List.getElem?_set_self (List.getElem?_eq_some_iff.mp hx).1, hx]
  · rw [List.getElem?_set_ne hj]
 rw [eσ, List.set_set] at done
 have sub : ∀ a, We (fun j => if j = i then b :: O1 else if j = i then [] else Os j) a → We Os a := fun a ⟨j, z⟩ => by
  by_cases hj : j = i
  · simp only [hj, if_true] at z
    exact ⟨i, mOi a ((List.mem_cons.mp z).elim (fun z => by rw [z]; exact List.mem_cons_self) fun z => List.mem_cons_of_mem _ (List.mem_append_left _ z))⟩
  · simp only [hj, if_false] at z; exact ⟨j, z⟩
 refine post x0 _ _ Oz done (r1.mono (keepB fun a z => z.elim (wz a) fun z => .inr (sub a z)) fun a ha o e => (upd_ne fun q => nb (by rw [← q]; exact List.mem_append_right _ ha)).trans e) (fun _ => ndOz) (fun a u e nw => ?_) fun z => by cases z
 exact ⟨(upd_ne fun q => nw ⟨i, by rw [q]; exact mOi b List.mem_cons_self⟩).trans e, fun z => nw (sub a z), fun z => nw ⟨i, mOi a (List.mem_cons_of_mem _ (List.mem_append_right _ z.2))⟩⟩
theorem ve_popO (ho : PE X o (tNav X.K i [])) (hbase : attributeBase o "pop" X.env (eval o X.env) = eval o X.env := by rfl) (hline : (apos.endLine == pos.line) = true := by rfl) :
    VE G X E false true (.Call (.Attribute o "pop" apos) [] [] pos) (mPopO i) :=
 PE.pre (pe_bm0 PySem.F.plainAttrs_list PySem.F.slot_list_pop PySem.F.type_list_pop mt_pop ho hbase hline) fun σ H Q h => popO_pre h
end
end VL
namespace VL
open PySem L2
section
variable {ρ : VEnv} {m m1 m2 m3 : ME} {a b : MS} {i j : Nat} {ms : List ME}
@[simp] theorem z_evalM0 : evalM [] ρ = .ok [] ρ := rfl
@[simp] theorem z_evalM1 : evalM (m :: ms) ρ = match m ρ with
    | .ok v ρ1 => (match evalM ms ρ1 with
     | .ok vs ρ2 => .ok (v :: vs) ρ2
     | .exc e ρ2 => .exc e ρ2
     | .bad => .bad)
    | .exc e ρ1 => .exc e ρ1
    | .bad => .bad := rfl
@[simp] theorem z_fun {sem : List Val → Option Val} : mFun sem ms ρ = match evalM ms ρ with
 | .ok vs ρ' => (match sem vs with
  | some v => .ok v ρ'
  | none => .bad)
 | .exc e ρ' => .exc e ρ'
 | .bad => .bad := rfl
@[simp] theorem z_var : mVar i ρ = match ρ[i]? with
 | some (some v) => .ok v ρ
 | _ => .bad := rfl
@[simp] theorem z_c {v : Val} : mC v ρ = .ok v ρ := rfl
@[simp] theorem z_stab : mStab m ρ = match m ρ with
 | .ok v ρ' => if v.fz = true then .ok v ρ' else .bad
 | .exc e ρ' => .exc e ρ'
 | .bad => .bad := rfl
@[simp] theorem z_frz : mFrz i ρ = match ρ[i]? with
 | some (some v) => .ok v.frz (ρ.set i (some v.frz))
 | _ => .bad := rfl
@[simp] theorem z_fz : mFz m ρ = match m ρ with
 | .ok v ρ' => .ok v.frz ρ'
 | .exc e ρ' => .exc e ρ'
 | .bad => .bad := rfl
@[simp] theorem z_not : mNot m ρ = match m ρ with
 | .ok (.bl b) ρ' => .ok (.bl (!b)) ρ'
 | .ok _ _ => .bad
 | .exc e ρ' => .exc e ρ'
 | .bad => .bad := rfl
@[simp] theorem z_and : mAnd m1 m2 ρ = match m1 ρ with
 | .ok (.bl b) ρ' => if b = true then m2 ρ' else .ok (.bl false) ρ'
 | .ok _ _ => .bad
 | .exc e ρ' => .exc e ρ'
 | .bad => .bad := rfl
@[simp] theorem z_or : mOr m1 m2 ρ = match m1 ρ with
 | .ok (.bl b) ρ' => if b = true then .ok (.bl true) ρ' else m2 ρ'
 | .ok _ _ => .bad
 | .exc e ρ' => .exc e ρ'
 | .bad => .bad := rfl
@[simp] theorem z_if : mIf m1 m2 m3 ρ = match m1 ρ with
 | .ok (.bl b) ρ' => if b = true then m2 ρ' else m3 ρ'
 | .ok _ _ => .bad
 | .exc e ρ' => .exc e ρ'
 | .bad => .bad := rfl
@[simp] theorem z_lst : mLst ms ρ = match evalM ms ρ with
 | .ok vs ρ' => .ok (.lst true vs) ρ'
 | .exc e ρ' => .exc e ρ'
 | .bad => .bad := rfl
@[simp] theorem z_tup : mTup ms ρ = match evalM ms ρ with
 | .ok vs ρ' => .ok (.tup vs) ρ'
 | .exc e ρ' => .exc e ρ'
 | .bad => .bad := rfl
@[simp] theorem z_next : mNext ρ = .nx ρ := rfl
@[simp] theorem z_seq : mSeq a b ρ = match a ρ with
 | .nx ρ' => b ρ'
 | r => r := rfl
@[simp] theorem z_drop : mDrop m ρ = match m ρ with
 | .ok _ ρ' => .nx ρ'
 | .exc e ρ' => .exc e ρ'
 | .bad => .bad := rfl
@[simp] theorem z_ret : mRet m ρ = match m ρ with
 | .ok v ρ' => .rt v ρ'
 | .exc e ρ' => .exc e ρ'
 | .bad => .bad := rfl
@[simp] theorem z_ifs : mIfS m a b ρ = match m ρ with
 | .ok (.bl t) ρ' => if t = true then a ρ' else b ρ'
 | .ok _ _ => .bad
 | .exc e ρ' => .exc e ρ'
 | .bad => .bad := rfl
@[simp] theorem z_set : mSet i m ρ = match m ρ with
 | .ok v ρ' => if i < ρ'.length then .nx (ρ'.set i (some v)) else .bad
 | .exc e ρ' => .exc e ρ'
 | .bad => .bad := rfl
@[simp] theorem z_par : mPar i j m1 m2 ρ = match evalM [m1, m2] ρ with
 | .ok [v, w] ρ' => if i < ρ'.length ∧ j < ρ'.length then .nx ((ρ'.set i (some v)).set j (some w)) else .bad
 | .ok _ _ => .bad
 | .exc e ρ' => .exc e ρ'
 | .bad => .bad := rfl
@[simp] theorem z_setF {cs : List Nat} {f : Str} : mSetF cs i f m ρ = match m ρ with
 | .ok v ρ1 => (match ρ1[i]? with
  | some (some (.obj true n fs xs)) => if n ∈ cs ∧ fs.length < 1000 then .nx (ρ1.set i (some (.obj true n (putFn f fs) (putFv f v fs xs)))) else .bad
  | _ => .bad)
 | .exc e ρ' => .exc e ρ'
 | .bad => .bad := rfl
@[simp] theorem z_putL {mi : ME} : mPutL i mi m ρ = match m ρ with
 | .ok v ρ1 => (match mi ρ1 with
  | .ok (.int k) ρ2 => if ρ2 = ρ1 then (match ρ2[i]? with
   | some (some (.lst true xs)) => (match ixN xs.length k with
    | some j => .nx (ρ2.set i (some (.lst true (xs.set j v))))
    | none => .bad)
   | _ => .bad) else .bad
  | _ => .bad)
 | .exc e ρ' => .exc e ρ'
 | .bad => .bad := rfl
@[simp] theorem z_call {mf : MF} {as : List Arg} : mCall mf as ρ = if refsOk ρ as = true then (match evalM ((vals as).map Op.m) ρ with
 | .ok vs ρ1 => (match fill as ρ1 vs with
  | some (us, ρ2) => (match mf us with
   | .ok v fs => .ok v (back as fs ρ2)
   | .exc e fs => .exc e (back as fs ρ2)
   | .bad => .bad)
  | none => .bad)
 | .exc e ρ1 => .exc e ρ1
 | .bad => .bad) else .bad := rfl
end
section
variable {a b : Int} {x y : Str} {o : Bool} {xs ys : List Val} {ns : List Int} {c : Bool} {u v : Val}
@[simp] theorem z_add : semAdd [.int a, .int b] = some (.int (a + b)) := rfl
@[simp] theorem z_addS : semAdd [.str x, .str y] = if x.length + y.length ≤ 16777216 then some (.str (x ++ y)) else none := rfl
@[simp] theorem z_addL {p : Bool} : semAdd [.lst o xs, .lst p ys] = if xs.length + ys.length ≤ 16777216 ∧ fzs xs = true ∧ fzs ys = true then some (.lst true (xs ++ ys)) else none := rfl
@[simp] theorem z_sub : semSub [.int a, .int b] = some (.int (a - b)) := rfl
@[simp] theorem z_mul : semMul [.int a, .int b] = if mulOk a b then some (.int (a * b)) else none := rfl
@[simp] theorem z_div : semDiv [.int a, .int b] = if divOk b then some (.int (a / b)) else none := rfl
@[simp] theorem z_mod : semMod [.int a, .int b] = if 0 < b then some (.int (a % b)) else none := rfl
@[simp] theorem z_pow : semPow [.int a, .int b] = if powOk a b then some (.int (a ^ b.toNat)) else none := rfl
@[simp] theorem z_neg : semNeg [.int a] = some (.int (-a)) := rfl
@[simp] theorem z_cmp {f : Int → Int → Bool} : semCmp f [.int a, .int b] = some (.bl (f a b)) := rfl
@[simp] theorem z_lenL : semLen [.lst o xs] = some (.int xs.length) := rfl
@[simp] theorem z_lenT : semLen [.tup xs] = some (.int xs.length) := rfl
@[simp] theorem z_lenW : semLen [.wtp xs] = some (.int xs.length) := rfl
@[simp] theorem z_lenS : semLen [.scr ns] = some (.int ns.length) := rfl
@[simp] theorem z_int : semInt [.int a] = some (.int a) := rfl
@[simp] theorem z_intB : semInt [.bl c] = some (.int (if c then 1 else 0)) := rfl
@[simp] theorem z_str : semStr [.int a] = if a.natAbs.log2 < 1920 then some (.str (toString a)) else none := rfl
@[simp] theorem z_max : semMax2 [.int a, .int b] = some (.int (if b > a then b else a)) := rfl
@[simp] theorem z_min : semMin2 [.int a, .int b] = some (.int (if b < a then b else a)) := rfl
@[simp] theorem z_ixS : semIx [.scr ns, .int a] = match atI ns a with
    | some n => some (.int n)
    | none => none := rfl
@[simp] theorem z_ixL : semIx [.lst o xs, .int a] = match atI xs a with
    | some v => if v.fz = true then some v else none
    | none => none := rfl
@[simp] theorem z_ixT : semIx [.tup xs, .int a] = match atI xs a with
    | some v => if v.fz = true then some v else none
    | none => none := rfl
@[simp] theorem z_fzI : (Val.int a).fz = true := rfl
@[simp] theorem z_fzB : (Val.bl c).fz = true := rfl
@[simp] theorem z_fzN : Val.non.fz = true := rfl
@[simp] theorem z_fzS : (Val.str x).fz = true := rfl
@[simp] theorem z_fzC : (Val.scr ns).fz = true := rfl
@[simp] theorem z_fzL : (Val.lst o xs).fz = (!o && fzs xs) := by simp only [Val.fz]
@[simp] theorem z_fzT : (Val.tup xs).fz = fzs xs := by simp only [Val.fz]
@[simp] theorem z_fzO {n : Nat} {fs : List Str} : (Val.obj o n fs xs).fz = (!o && fzs xs) := by simp only [Val.fz]
@[simp] theorem z_fzs0 : fzs [] = true := by simp only [fzs]
@[simp] theorem z_fzs1 : fzs (v :: xs) = (v.fz && fzs xs) := by simp only [fzs]
@[simp] theorem z_frI : (Val.int a).frz = .int a := by simp only [Val.frz]
@[simp] theorem z_frB : (Val.bl c).frz = .bl c := by simp only [Val.frz]
@[simp] theorem z_frN : Val.non.frz = .non := by simp only [Val.frz]
@[simp] theorem z_frS : (Val.str x).frz = .str x := by simp only [Val.frz]
@[simp] theorem z_frL : (Val.lst o xs).frz = .lst false (frzs xs) := by simp only [Val.frz]
@[simp] theorem z_frT : (Val.tup xs).frz = .tup (frzs xs) := by simp only [Val.frz]
@[simp] theorem z_frO {n : Nat} {fs : List Str} : (Val.obj o n fs xs).frz = .obj false n fs (frzs xs) := by simp only [Val.frz]
@[simp] theorem z_frzs0 : frzs [] = [] := by simp only [frzs]
@[simp] theorem z_frzs1 : frzs (v :: xs) = v.frz :: frzs xs := by simp only [frzs]
mutual
theorem frz_of_fz : ∀ {v : Val}, v.fz = true → v.frz = v
 | .non, _ => by simp
 | .bl _, _ => by simp
 | .int _, _ => by simp
 | .str _, _ => by simp
 | .ty _, _ => by simp only [Val.frz]
 | .cn _, _ => by simp only [Val.frz]
 | .tup xs, h => by simp only [Val.fz] at h; simp only [Val.frz, frzs_of_fzs h]
 | .lst o xs, h => by
  simp only [Val.fz, Bool.and_eq_true, Bool.not_eq_true'] at h
  simp only [Val.frz, frzs_of_fzs h.2, h.1]
 | .dct o d ks xs, h => by
  simp only [Val.fz, Bool.and_eq_true, Bool.not_eq_true'] at h
  simp only [Val.frz, frzs_of_fzs h.2, h.1]
 | .obj o C fs xs, h => by
  simp only [Val.fz, Bool.and_eq_true, Bool.not_eq_true'] at h
  simp only [Val.frz, frzs_of_fzs h.2, h.1]
 | .exn _ _ _, _ => by simp only [Val.frz]
 | .scr _, _ => by simp only [Val.frz]
 | .wdk _ _, _ => by simp only [Val.frz]
 | .wtp _, _ => by simp only [Val.frz]
 | .fn _, _ => by simp only [Val.frz]
theorem frzs_of_fzs : ∀ {vs : List Val}, fzs vs = true → frzs vs = vs
 | [], _ => by simp
 | v :: vs, h => by
  simp only [fzs, Bool.and_eq_true] at h
  simp only [frzs, frz_of_fz h.1, frzs_of_fzs h.2]
end
end
section
variable {ρ : VEnv} {as : List Arg} {i : Nat} {op : Op} {v : Val} {vs : List Val} {x : V}
@[simp] theorem z_v0 : vals [] = [] := rfl
@[simp] theorem z_v1 : vals (.v op :: as) = op :: vals as := rfl
@[simp] theorem z_v2 : vals (.r i :: as) = vals as := rfl
@[simp] theorem z_v3 : vals (.k x v :: as) = vals as := rfl
@[simp] theorem z_r0 : refsOk ρ [] = true := rfl
@[simp] theorem z_r1 : refsOk ρ (.v op :: as) = refsOk ρ as := rfl
@[simp] theorem z_r2 : refsOk ρ (.r i :: as) = (slotOk ρ i && refsOk ρ as) := rfl
@[simp] theorem z_r3 : refsOk ρ (.k x v :: as) = refsOk ρ as := rfl
@[simp] theorem z_slot : slotOk ρ i = match ρ[i]? with
 | some (some _) => true
 | _ => false := rfl
@[simp] theorem z_f0 : fill [] ρ [] = some ([], ρ) := rfl
@[simp] theorem z_f1 : fill (.v op :: as) ρ (v :: vs) = match fill as ρ vs with
    | some (us, ρ') => some (v :: us, ρ')
    | none => none := rfl
@[simp] theorem z_f2 : fill (.r i :: as) ρ vs = match ρ[i]? with
    | some (some v) => (match fill as (ρ.set i none) vs with
     | some (us, ρ') => some (v :: us, ρ')
     | none => none)
    | _ => none := rfl
@[simp] theorem z_f3 : fill (.k x v :: as) ρ vs = match fill as ρ vs with
    | some (us, ρ') => some (v :: us, ρ')
    | none => none := rfl
@[simp] theorem z_b0 {fs : VEnv} : back [] fs ρ = ρ := rfl
@[simp] theorem z_b1 {f : Option Val} {fs : VEnv} : back (.v op :: as) (f :: fs) ρ = back as fs ρ := by cases f <;> rfl
@[simp] theorem z_b2 {f : Val} {fs : VEnv} : back (.r i :: as) (some f :: fs) ρ = back as fs (ρ.set i (some f)) := rfl
@[simp] theorem z_b3 {f : Option Val} {fs : VEnv} : back (.k x v :: as) (f :: fs) ρ = back as fs ρ := by cases f <;> rfl
@[simp] theorem z_o0 : outs [] ρ = [] := rfl
@[simp] theorem z_o1 {b : Bool} {bs : List Bool} {f : Option Val} : outs (b :: bs) (f :: ρ) = (if b = true then f else none) :: outs bs ρ := rfl
end
section
variable {ρ : VEnv} {m : ME} {ms : List ME} {acc a b : Str}
@[simp] theorem z_j0 : mJoin [] acc ρ = .ok (.str acc) ρ := rfl
@[simp] theorem z_j1 : mJoin (m :: ms) acc ρ = match m ρ with
    | .ok (.str y) ρ1 => if (acc ++ y).length ≤ 16777216 then mJoin ms (acc ++ y) ρ1 else .bad
    | .ok _ _ => .bad
    | .exc e ρ1 => .exc e ρ1
    | .bad => .bad := rfl
end
@[simp] theorem eq_int (a b : Int) : semEq [.int a, .int b] = some (.bl (decide (a = b))) := by
 simp [semEq, eqD, toD, SeqAt.shaped, PyData.eqv, PyData.canLay0, PyData.depth, Bool.beq_eq_decide_eq]
@[simp] theorem ne_int (a b : Int) : semNe [.int a, .int b] = some (.bl (!decide (a = b))) := by
 simp [semNe, eqD, toD, SeqAt.shaped, PyData.eqv, PyData.canLay0, PyData.depth, Bool.beq_eq_decide_eq]
@[simp] theorem eq_bl (a b : Bool) : semEq [.bl a, .bl b] = some (.bl (decide (a = b))) := by
 simp [semEq, eqD, toD, SeqAt.shaped, PyData.eqv, PyData.canLay0, PyData.depth, Bool.beq_eq_decide_eq]
@[simp] theorem ne_bl (a b : Bool) : semNe [.bl a, .bl b] = some (.bl (!decide (a = b))) := by
 simp [semNe, eqD, toD, SeqAt.shaped, PyData.eqv, PyData.canLay0, PyData.depth, Bool.beq_eq_decide_eq]
@[simp] theorem z_asg {m : ME} {g : MG} {ρ : VEnv} : mAsg m g ρ = (match m ρ with
 | .ok v ρ' => (match g v ρ' with
  | some ρ2 => .nx ρ2
  | none => .bad)
 | .exc e ρ' => .exc e ρ'
 | .bad => .bad) := rfl
@[simp] theorem z_gV {i : Nat} {v : Val} {ρ : VEnv} : gV i v ρ = if i < ρ.length then some (ρ.set i (some v)) else none := rfl
@[simp] theorem z_gTup {g : MGs} {n : Nat} {vs : List Val} {ρ : VEnv} : gTupV g n (.tup vs) ρ = if vs.length = n then g vs ρ else none := rfl
@[simp] theorem z_gNil {ρ : VEnv} : gNilV [] ρ = some ρ := rfl
@[simp] theorem z_gCons {g : MG} {gs : MGs} {v : Val} {vs : List Val} {ρ : VEnv} : gConsV g gs (v :: vs) ρ = (match g v ρ with
 | some ρ' => gs vs ρ'
 | none => none) := rfl
end VL
namespace VL
open PySem L2
section
variable {ρ ρ' ρ1 ρ2 : VEnv} {m m1 m2 m3 c : ME} {a b v w : Val} {p1 s1 p2 s2 p3 s3 : Bool} {i : Nat}
theorem E_var (h : ρ[i]? = some (some v)) : mVar i ρ = .ok v ρ := by simp [h]
theorem E_stab (h : ρ[i]? = some (some v)) (hf : v.fz = true) : mStab (mVar i) ρ = .ok v ρ := by simp [h, hf]
theorem E_c : mC v ρ = .ok v ρ := rfl
theorem E_fz (h : m ρ = .ok v ρ') (e : v.frz = w) : mFz m ρ = .ok w ρ' := by simp [h, e]
theorem E_f1 {sm : List Val → Option Val} (h1 : m1 ρ = .ok a ρ1) (e : sm [a] = some v) : mFun sm [m1] ρ = .ok v ρ1 := by simp [h1, e]
theorem E_f2 {sm : List Val → Option Val} (h1 : m1 ρ = .ok a ρ1) (h2 : m2 ρ1 = .ok b ρ2) (e : sm [a, b] = some v) : mFun sm [m1, m2] ρ = .ok v ρ2 := by simp [h1, h2, e]
theorem E_call1 {f : MF} {x : Option Val} (h1 : m1 ρ = .ok a ρ1) (e : f [a] = .ok v [x]) : mCall f [.v ⟨p1, s1, m1⟩] ρ = .ok v ρ1 := by simp [h1, e]
theorem E_call2 {f : MF} {x y : Option Val} (h1 : m1 ρ = .ok a ρ1) (h2 : m2 ρ1 = .ok b ρ2) (e : f [a, b] = .ok v [x, y]) : mCall f [.v ⟨p1, s1, m1⟩, .v ⟨p2, s2, m2⟩] ρ = .ok v ρ2 := by simp [h1, h2, e]
theorem E_call3 {f : MF} {x y z : Option Val} {d : Val} {ρ3 : VEnv} (h1 : m1 ρ = .ok a ρ1) (h2 : m2 ρ1 = .ok b ρ2) (h3 : m3 ρ2 = .ok d ρ3) (e : f [a, b, d] = .ok v [x, y, z]) : mCall f [.v ⟨p1, s1, m1⟩, .v ⟨p2, s2, m2⟩, .v ⟨p3, s3, m3⟩] ρ = .ok v ρ3 := by simp [h1, h2, h3, e]
theorem E_orF (h1 : m1 ρ = .ok (.bl false) ρ1) (h2 : m2 ρ1 = .ok v ρ2) : mOr m1 m2 ρ = .ok v ρ2 := by simp [h1, h2]
theorem E_not {k : Bool} (h1 : m1 ρ = .ok (.bl k) ρ1) : mNot m1 ρ = .ok (.bl !k) ρ1 := by simp [h1]
theorem E_ifT {A B : MS} (h : c ρ = .ok (.bl true) ρ1) : mIfS c A B ρ = A ρ1 := by simp [h]
theorem E_ifF {A B : MS} (h : c ρ = .ok (.bl false) ρ1) : mIfS c A B ρ = B ρ1 := by simp [h]
theorem E_set (h : m ρ = .ok v ρ') (hi : i < ρ'.length) (e : ρ'.set i (some v) = ρ2) : mSet i m ρ = .nx ρ2 := by simp [h, hi, e]
theorem E_ret (h : m ρ = .ok v ρ') : mRet m ρ = .rt v ρ' := by simp [h]
theorem E_seq {A B : MS} {r : RS} (h : A ρ = .nx ρ') (h2 : B ρ' = r) : mSeq A B ρ = r := by simp [h, h2]
theorem E_next : mNext ρ = .nx ρ := rfl
theorem E_par {j : Nat} (h1 : m1 ρ = .ok a ρ1) (h2 : m2 ρ1 = .ok b ρ2) (hi : i < ρ2.length) (hj : j < ρ2.length) (e : (ρ2.set i (some a)).set j (some b) = ρ') : mPar i j m1 m2 ρ = .nx ρ' := by simp [mPar, h1, h2, hi, hj, e]
theorem E_lst1 (h1 : m1 ρ = .ok a ρ1) : mLst [m1] ρ = .ok (.lst true [a]) ρ1 := by simp [h1]
theorem E_body {bs : List Bool} {N : Nat} {m : MS} {vs : List Val} {ρ0 : VEnv} (h0 : vs.map some ++ List.replicate (N - bs.length) none = ρ0) (h : m ρ0 = .rt w ρ') : mBody bs N m vs = .ok w (outs bs ρ') := by
 unfold mBody
 rw [h0, h]
theorem E_bodyN {bs : List Bool} {N : Nat} {m : MS} {vs : List Val} {ρ0 : VEnv} (h0 : vs.map some ++ List.replicate (N - bs.length) none = ρ0) (h : m ρ0 = .nx ρ') : mBody bs N m vs = .ok .non (outs bs ρ') := by
 unfold mBody
 rw [h0, h]
theorem E_drop (h : m ρ = .ok v ρ') : mDrop m ρ = .nx ρ' := by simp [h]
end
end VL
namespace VL
open PySem L2
section
variable {ρ ρ' ρ1 ρ2 ρ3 : VEnv} {m m1 m2 m3 c : ME} {a b v w : Val} {p1 s1 p2 s2 p3 s3 : Bool} {i : Nat}
theorem E_forC {g : MG} {body : MS} {us : List Val} {r : RS} (h : g v ρ = some ρ1) (hb : body ρ1 = .nx ρ2) (t : forL g body us ρ2 = r) : forL g body (v :: us) ρ = r := by
 unfold forL
 simp only [h, hb, t]
theorem E_for {mi : MI} {g : MG} {body : MS} {us : List Val} {r : RS} (h : mi ρ = .ok us ρ1) (t : forL g body us ρ1 = r) : mFor mi g body ρ = r := by
 unfold mFor
 simp only [h, t]
theorem E_itL {xs : List Val} (h : m ρ = .ok (.lst false xs) ρ1) : mItemsL m ρ = .ok xs ρ1 := by
 unfold mItemsL
 simp only [h]
theorem E_gV (h : i < ρ.length) (e : ρ.set i (some v) = ρ') : gV i v ρ = some ρ' := by rw [z_gV, if_pos h, e]
theorem E_app {xs : List Val} (h : m ρ = .ok v ρ1) (h0 : ρ[i]? = some (some (.lst true xs))) (hl : xs.length < 1000000) (e : ρ.set i (some (.lst true (xs ++ [v]))) = ρ') : mDrop (mLop i [] fApp m) ρ = .nx ρ' := by
 have h2 : fApp xs v = some (xs ++ [v]) := if_pos (by omega)
 simp only [z_drop, mLop, h0, getP, h, h2, setP, e]
theorem E_rng1 {n : Nat} (h : m ρ = .ok (.int (n : Int)) ρ1) (hn : n ≤ 1000000) : mRng1 m ρ = .ok ((List.range n).map fun i : Nat => Val.int (i : Int)) ρ1 := by
 unfold mRng1
 rw [h]
 show (if -(2 ^ 62) ≤ (n : Int) ∧ (n : Int) < 2 ^ 62 then _ else _) = _
 rw [if_pos ⟨by omega, by omega⟩]
 simp
theorem E_callR2 {f : MF} {a' : Val} {y : Option Val} (h : m ρ = .ok b ρ1) (h0 : ρ1[i]? = some (some a)) (h00 : ∃ z, ρ[i]? = some (some z)) (e : f [a, b] = .ok v [some a', y]) (es : ρ1.set i (some a') = ρ') : mCall f [.r i, .v ⟨p1, s1, m⟩] ρ = .ok v ρ' := by
 obtain ⟨z, hz⟩ := h00
 simp [hz, h, h0, e, es]
end
section
variable {ρ ρ' ρ1 ρ2 : VEnv} {m c : ME} {ms : List ME} {v w : Val} {vs us : List Val} {i : Nat}
theorem EM_nil : evalM [] ρ = .ok [] ρ := rfl
theorem EM_cons (h : m ρ = .ok v ρ1) (t : evalM ms ρ1 = .ok vs ρ2) : evalM (m :: ms) ρ = .ok (v :: vs) ρ2 := by simp [h, t]
def argMs : List Arg → List ME
 | [] => []
 | .v ⟨_, _, m⟩ :: as => m :: argMs as
 | .r _ :: as => argMs as
 | .k _ _ :: as => argMs as
theorem argMs_eq : ∀ as : List Arg, (vals as).map Op.m = argMs as
 | [] => rfl
 | .v ⟨_, _, m⟩ :: as => by simp [argMs, vals, argMs_eq as]
 | .r _ :: as => by simp [argMs, vals, argMs_eq as]
 | .k _ _ :: as => by simp [argMs, vals, argMs_eq as]
theorem E_callG {mf : MF} {as : List Arg} {fs : VEnv} (hr : refsOk ρ as = true) (h : evalM (argMs as) ρ = .ok us ρ1) (hf : fill as ρ1 us = some (vs, ρ2)) (e : mf vs = .ok v fs) (hb : back as fs ρ2 = ρ') : mCall mf as ρ = .ok v ρ' := by
 rw [← argMs_eq] at h
 simp only [z_call, hr, if_true, h, hf, e, hb]
theorem E_lstM (h : evalM ms ρ = .ok us ρ1) : mLst ms ρ = .ok (.lst true us) ρ1 := by simp [h]
theorem E_tupM (h : evalM ms ρ = .ok us ρ1) : mTup ms ρ = .ok (.tup us) ρ1 := by simp [h]
theorem E_frz (h : ρ[i]? = some (some v)) (e : v.frz = w) (e2 : ρ.set i (some w) = ρ') : mFrz i ρ = .ok w ρ' := by simp [h, e, e2]
end
section
variable {ρ ρ' ρ1 ρ2 : VEnv} {m m1 m2 c : ME} {v w : Val} {i : Nat} {k l : Bool}
theorem E_andB (h1 : m1 ρ = .ok (.bl k) ρ1) (h2 : m2 ρ1 = .ok (.bl l) ρ1) : mAnd m1 m2 ρ = .ok (.bl (k && l)) ρ1 := by cases k <;> simp [h1, h2]
theorem E_methR0 {C : Nat} {mn : Str} {f : MF} {o : Bool} {fs : List Str} {xs : List Val} (h0 : ρ[i]? = some (some v)) (hf : f [v] = .ok w [some v]) (ho : objC C mn v = true) : mMethR C mn f i [] ρ = .ok w ρ := by
 have hi := (List.getElem?_eq_some_iff.mp h0).1
 have hs : ρ.set i (some v) = ρ := by
  apply List.ext_getElem?
  intro j
  by_cases hj : i = j
  · subst hj; rw [List.getElem?_set_self hi, h0]
  · rw [List.getElem?_set_ne hj]
 simp [mMethR, h0, ho, hf, hs]
theorem E_asg {g : MG} (h : m ρ = .ok v ρ1) (e : g v ρ1 = some ρ2) : mAsg m g ρ = .nx ρ2 := by simp [h, e]
end
def Runs (m : MS) (ρ : VEnv) (I : VEnv → Prop) : Prop := ∃ ρ', m ρ = .nx ρ' ∧ I ρ'
section
variable {ρ ρ' ρ1 ρ2 : VEnv} {m c : ME} {v : Val} {A B : MS} {I J : VEnv → Prop}
theorem R_seq (h : A ρ = .nx ρ') (t : Runs B ρ' I) : Runs (mSeq A B) ρ I := let ⟨ρ2, e, i⟩ := t; ⟨ρ2, E_seq h e, i⟩
theorem R_end (h : A ρ = .nx ρ') (i : I ρ') : Runs A ρ I := ⟨_, h, i⟩
theorem R_next (i : I ρ) : Runs mNext ρ I := ⟨_, rfl, i⟩
theorem R_ifF (h : c ρ = .ok (.bl false) ρ1) (t : Runs B ρ1 I) : Runs (mIfS c A B) ρ I := let ⟨ρ2, e, i⟩ := t; ⟨ρ2, (E_ifF h).trans e, i⟩
theorem R_mono (h : Runs A ρ J) (f : ∀ ρ', J ρ' → I ρ') : Runs A ρ I := let ⟨_, e, j⟩ := h; ⟨_, e, f _ j⟩
theorem R_set {i : Nat} (h : m ρ = .ok v ρ1) (hi : i < ρ1.length) (e : ρ1.set i (some v) = ρ2) (t : Runs B ρ2 I) : Runs (mSeq (mSet i m) B) ρ I := R_seq (E_set h hi e) t
theorem R_setE {i : Nat} (h : m ρ = .ok v ρ1) (hi : i < ρ1.length) (e : ρ1.set i (some v) = ρ2) (t : I ρ2) : Runs (mSet i m) ρ I := R_end (E_set h hi e) t
theorem R_guardF (h : c ρ = .ok (.bl false) ρ1) (t : Runs B ρ1 I) : Runs (mSeq (mIfS c A mNext) B) ρ I := R_seq ((E_ifF h).trans E_next) t
theorem R_guardFE (h : c ρ = .ok (.bl false) ρ1) (t : I ρ1) : Runs (mIfS c A mNext) ρ I := R_ifF h (R_next t)
theorem E_notF (h : m ρ = .ok (.bl true) ρ1) : mNot m ρ = .ok (.bl false) ρ1 := E_not h
theorem E_notT (h : m ρ = .ok (.bl false) ρ1) : mNot m ρ = .ok (.bl true) ρ1 := E_not h
theorem R_for {mi : MI} {g : MG} {body : MS} {us : List Val} (h : mi ρ = .ok us ρ1) (h0 : J ρ1) (hb : ∀ u ∈ us, ∀ ρ, J ρ → ∃ ρ2, g u ρ = some ρ2 ∧ Runs body ρ2 J) : Runs (mFor mi g body) ρ J := by
 have key : ∀ (us : List Val) (ρ : VEnv), (∀ u ∈ us, ∀ ρ, J ρ → ∃ ρ2, g u ρ = some ρ2 ∧ Runs body ρ2 J) → J ρ → ∃ ρ', forL g body us ρ = .nx ρ' ∧ J ρ' := by
  intro us
  induction us with
  | nil => exact fun ρ _ j => ⟨ρ, rfl, j⟩
  | cons u us ih =>
   intro ρ hb j
   obtain ⟨ρ2, e1, ρ3, e2, j3⟩ := hb u List.mem_cons_self ρ j
   obtain ⟨ρ4, e4, j4⟩ := ih ρ3 (fun v hv => hb v (List.mem_cons_of_mem _ hv)) j3
   exact ⟨ρ4, E_forC e1 e2 e4, j4⟩
 obtain ⟨ρ', e, j⟩ := key us ρ1 hb h0
 exact ⟨ρ', E_for h e, j⟩
theorem R_forN {mi : MI} {g : MG} {body : MS} {n : Nat} {J : Nat → VEnv → Prop} (h : mi ρ = .ok ((List.range n).map fun i : Nat => Val.int (i : Int)) ρ1) (h0 : J 0 ρ1) (hb : ∀ k ρ, k < n → J k ρ → ∃ ρ2, g (.int (k : Int)) ρ = some ρ2 ∧ Runs body ρ2 (J (k + 1))) : Runs (mFor mi g body) ρ (J n) := by
 have key : ∀ (m : Nat) (ρ : VEnv), m ≤ n → J (n - m) ρ → ∃ ρ', forL g body (((List.range n).map fun i : Nat => Val.int (i : Int)).drop (n - m)) ρ = .nx ρ' ∧ J n ρ' := by
  intro m
  induction m with
  | zero =>
   intro ρ _ j
   refine ⟨ρ, ?_, j⟩
   rw [List.drop_eq_nil_of_le (by simp)]
   rfl
  | succ m ih =>
   intro ρ hm j
   obtain ⟨ρ2, e1, ρ3, e2, j3⟩ := hb (n - (m + 1)) ρ (by omega) j
   have e : n - (m + 1) + 1 = n - m := by omega
   rw [e] at j3
   obtain ⟨ρ4, e4, j4⟩ := ih ρ3 (by omega) j3
   refine ⟨ρ4, ?_, j4⟩
   rw [List.drop_eq_getElem_cons (by simp; omega)]
   rw [e]
   refine E_forC (ρ1 := ρ2) (ρ2 := ρ3) ?_ e2 e4
   simpa using e1
 obtain ⟨ρ', e, j⟩ := key n ρ1 (Nat.le_refl _) (by simpa using h0)
 rw [Nat.sub_self, List.drop_zero] at e
 exact ⟨ρ', E_for h e, j⟩
theorem law_runs {ns : List Int} {N : Nat} {body : MS} {c : Int} (hc : 1 ≤ c ∧ c ≤ 63) (hN : 2 ≤ N)
    (hb : ∀ (k : Nat) (xs : VEnv), k < c.toNat → xs.length = N - 2 → Runs body (some (.scr ns) :: some (.int (k : Int)) :: xs) fun ρ => ρ[0]? = some (some (.scr ns)) ∧ ρ.length = N) :
    mBody [false] N (mSeq (mFor (mRng1 (mFun semMax2 [(mC (.int 1)), (mFun semMin2 [(mC (.int c)), (mFun semLen [(mVar 0)])])])) (gV 1) body) (mRet (mC (.bl true)))) [.scr ns] = .ok (.bl true) [none] := by
 obtain ⟨n, hn⟩ : ∃ n : Int, (if 1 < if (ns.length : Int) < c then (ns.length : Int) else c then if (ns.length : Int) < c then (ns.length : Int) else c else 1) = n := ⟨_, rfl⟩
 have hb2 : 0 ≤ n ∧ n ≤ c := by
  subst hn
  split <;> (try split) <;> omega
 let ρ0 : VEnv := some (.scr ns) :: List.replicate (N - 1) none
 have e1 : mRng1 (mFun semMax2 [(mC (.int 1)), (mFun semMin2 [(mC (.int c)), (mFun semLen [(mVar 0)])])]) ρ0 = .ok ((List.range n.toNat).map fun i : Nat => Val.int (i : Int)) ρ0 := by
  have e2 : mFun semMax2 [(mC (.int 1)), (mFun semMin2 [(mC (.int c)), (mFun semLen [(mVar 0)])])] ρ0 = .ok (.int n) ρ0 := by
   refine E_f2 E_c (E_f2 E_c (E_f1 (E_var rfl) rfl) rfl) ?_
   rw [← hn]; rfl
  unfold mRng1
  rw [e2]
  show (if -(2 ^ 62) ≤ n ∧ n < 2 ^ 62 then _ else _) = _
  rw [if_pos ⟨by omega, by omega⟩]
 have r := R_for (ρ := ρ0) (J := fun ρ => ρ[0]? = some (some (.scr ns)) ∧ ρ.length = N) (g := gV 1) (body := body) e1 ⟨rfl, by simp [ρ0]; omega⟩ fun u hu ρ ⟨h0, hl⟩ => by
  obtain ⟨k, hk, rfl⟩ := List.mem_map.mp hu
  have hk := List.mem_range.mp hk
  match ρ, h0, hl with
  | x0 :: x1 :: xs, h0, hl =>
   simp at h0
   subst h0
   exact ⟨_, E_gV (by simp) rfl, hb k xs (by omega) (by simp at hl; omega)⟩
  | [x0], _, hl => simp at hl; omega
  | [], _, hl => simp at hl; omega
 obtain ⟨ρ', e, h0, hl⟩ := r
 match ρ', h0, hl with
 | x0 :: xs, h0, hl =>
  refine E_body (ρ0 := ρ0) (ρ' := x0 :: xs) ?_ (E_seq e (E_ret E_c))
  simp [ρ0]
 | [], h0, _ => simp at h0
end
def scD : Val → Bool
 | .non => true | .bl _ => true | .int _ => true | .str x => PyData.strOk x
 | _ => false
def plD : Nat → Val → Bool
 | 0, v => scD v
 | n + 1, .tup xs => xs.all (plD n)
 | n + 1, .lst _ xs => xs.all (plD n)
 | _ + 1, v => scD v
def nbD : Nat → Val → Bool
 | 0, .bl _ => false
 | 0, _ => true
 | n + 1, .tup xs => xs.all (nbD n)
 | n + 1, .lst _ xs => xs.all (nbD n)
 | _ + 1, .bl _ => false
 | _ + 1, _ => true
theorem toD_sc {v : Val} (h : scD v = true) : ∃ d, toD v = some d ∧ d.canLay0 = true ∧ d.depth = 0 := by
 cases v <;> simp [scD] at h
 · exact ⟨_, rfl, by simp [PyData.canLay0], by simp [PyData.depth]⟩
 · exact ⟨_, rfl, by simp [PyData.canLay0], by simp [PyData.depth]⟩
 · exact ⟨_, rfl, by simp [PyData.canLay0], by simp [PyData.depth]⟩
 · exact ⟨_, rfl, by simpa [PyData.canLay0] using h, by simp [PyData.depth]⟩
theorem toDs_pl {P : Val → Bool} {n : Nat} (h : ∀ v, P v = true → ∃ d, toD v = some d ∧ d.canLay0 = true ∧ d.depth ≤ n) : ∀ {xs : List Val}, xs.all P = true → ∃ ds, toDs xs = some ds ∧ PyData.canLayAll0 ds = true ∧ PyData.depthAll ds ≤ n
 | [], _ => ⟨[], rfl, by simp [PyData.canLayAll0], by simp [PyData.depthAll]⟩
 | x :: xs, hx => by
  simp only [List.all_cons, Bool.and_eq_true] at hx
  obtain ⟨d, e1, e2, e3⟩ := h x hx.1
  obtain ⟨ds, f1, f2, f3⟩ := toDs_pl h hx.2
  exact ⟨d :: ds, by simp [toDs, e1, f1], by simp [PyData.canLayAll0, e2, f2], by simp [PyData.depthAll]; omega⟩
theorem toD_pl : ∀ {n : Nat} {v : Val}, plD n v = true → ∃ d, toD v = some d ∧ d.canLay0 = true ∧ d.depth ≤ n
 | 0, v, h => let ⟨d, a, b, c⟩ := toD_sc (v := v) (by simpa [plD] using h); ⟨d, a, b, by omega⟩
 | n + 1, v, h => by
  cases v with
  | tup xs =>
   obtain ⟨ds, a, b, c⟩ := toDs_pl (P := plD n) (fun v hv => toD_pl hv) (by simpa [plD] using h)
   exact ⟨.tuple ds, by simp [toD, a], by simpa [PyData.canLay0] using b, by simp [PyData.depth]; omega⟩
  | lst o xs =>
   obtain ⟨ds, a, b, c⟩ := toDs_pl (P := plD n) (fun v hv => toD_pl hv) (by simpa [plD] using h)
   exact ⟨.list ds, by simp [toD, a], by simpa [PyData.canLay0] using b, by simp [PyData.depth]; omega⟩
  | _ =>
   obtain ⟨d, a, b, c⟩ := toD_sc (by simpa [plD] using h)
   exact ⟨d, a, b, by omega⟩
mutual
theorem toD_frz : ∀ v : Val, toD v.frz = toD v
 | .tup xs => by simp [Val.frz, toD, toDs_frz xs]
 | .lst o xs => by simp [Val.frz, toD, toDs_frz xs]
 | .non => by simp [Val.frz] | .bl _ => by simp [Val.frz] | .int _ => by simp [Val.frz] | .str _ => by simp [Val.frz] | .ty _ => by simp [Val.frz] | .cn _ => by simp [Val.frz]
 | .dct _ _ _ _ => by simp [Val.frz, toD] | .obj _ _ _ _ => by simp [Val.frz, toD] | .exn _ _ _ => by simp [Val.frz]
 | .scr _ => by simp [Val.frz] | .wdk _ _ => by simp [Val.frz] | .wtp _ => by simp [Val.frz] | .fn _ => by simp [Val.frz]
theorem toDs_frz : ∀ xs : List Val, toDs (frzs xs) = toDs xs
 | [] => by simp [frzs]
 | x :: xs => by simp [frzs, toDs, toD_frz x, toDs_frz xs]
end
theorem shaped_of {d : PyData} {n : Nat} (h : d.canLay0 = true) (h2 : d.depth ≤ n) (hn : n ≤ 64) : SeqAt.shaped d = true := by
 simp [SeqAt.shaped, h]; omega
theorem eqD_same {n : Nat} (hn : n ≤ 64) {a b : Val} (h : plD n a = true) (e : a.frz = b.frz) : eqD a b = some true := by
 obtain ⟨d, e1, e2, e3⟩ := toD_pl h
 have e4 : toD b = some d := by rw [← toD_frz b, ← e, toD_frz a, e1]
 simp [eqD, e1, e4, shaped_of e2 e3 hn, SeqAt.eqv_refl d e2]
mutual
theorem eqv_back : ∀ (n : Nat) (v w : Val) (d e : PyData), toD v = some d → toD w = some e → nbD n v = true → nbD n w = true → plD n v = true → PyData.eqv d e = true → v.frz = w.frz
 | n, v, w, d, e, h1, h2, b1, b2, p1, q => by
  cases v with
  | tup xs =>
   cases n with
   | zero => simp [plD, scD] at p1
   | succ n =>
   simp only [toD] at h1
   split at h1 <;> simp at h1
   rename_i ds hds
   subst h1
   cases w <;> simp [toD] at h2 <;> (try (subst h2; simp [PyData.eqv] at q))
   all_goals (split at h2 <;> simp at h2; subst h2)
   · rename_i ys _ es hes
     simp only [PyData.eqv] at q
     have := eqvs_back n xs ys ds es hds hes (by simpa [nbD] using b1) (by simpa [nbD] using b2) (by simpa [plD] using p1) q
     simp [Val.frz, this]
   · simp [PyData.eqv] at q
  | lst o xs =>
   cases n with
   | zero => simp [plD, scD] at p1
   | succ n =>
   simp only [toD] at h1
   split at h1 <;> simp at h1
   rename_i ds hds
   subst h1
   cases w <;> simp [toD] at h2 <;> (try (subst h2; simp [PyData.eqv] at q))
   all_goals (split at h2 <;> simp at h2; subst h2)
   · simp [PyData.eqv] at q
   · rename_i ys _ es hes
     simp only [PyData.eqv] at q
     have := eqvs_back n xs ys ds es hds hes (by simpa [nbD] using b1) (by simpa [nbD] using b2) (by simpa [plD] using p1) q
     simp [Val.frz, this]
  | bl b => cases n <;> simp [nbD] at b1
  | _ =>
   first
   | (simp [toD] at h1; done)
   | (simp [toD] at h1
      try subst h1
      cases w <;> simp [toD] at h2 <;> (try (split at h2 <;> simp at h2)) <;> (try subst h2) <;> simp [PyData.eqv] at q <;> (try (subst q; rfl)) <;> (try rfl) <;> (cases n <;> simp [nbD] at b2))
theorem eqvs_back : ∀ (n : Nat) (xs ys : List Val) (ds es : List PyData), toDs xs = some ds → toDs ys = some es → xs.all (nbD n) = true → ys.all (nbD n) = true → xs.all (plD n) = true → PyData.eqvAll ds es = true → frzs xs = frzs ys
 | n, [], [], _, _, _, _, _, _, _, _ => rfl
 | n, [], y :: ys, ds, es, h1, h2, _, _, _, q => by
  simp [toDs] at h1; subst h1
  simp only [toDs] at h2
  split at h2 <;> simp at h2
  subst h2; simp [PyData.eqvAll] at q
 | n, x :: xs, [], ds, es, h1, h2, _, _, _, q => by
  simp [toDs] at h2; subst h2
  simp only [toDs] at h1
  split at h1 <;> simp at h1
  subst h1; simp [PyData.eqvAll] at q
 | n, x :: xs, y :: ys, ds, es, h1, h2, b1, b2, p1, q => by
  simp only [toDs] at h1 h2
  split at h1 <;> simp at h1
  split at h2 <;> simp at h2
  subst h1; subst h2
  simp only [PyData.eqvAll, Bool.and_eq_true] at q
  simp only [List.all_cons, Bool.and_eq_true] at b1 b2 p1
  have a1 := eqv_back n x y _ _ (by assumption) (by assumption) b1.1 b2.1 p1.1 q.1
  have a2 := eqvs_back n xs ys _ _ (by assumption) (by assumption) b1.2 b2.2 p1.2 q.2
  simp [frzs, a1, a2]
end
theorem eqD_iff {n : Nat} (hn : n ≤ 64) {a b : Val} (h1 : plD n a = true) (h2 : plD n b = true) (b1 : nbD n a = true) (b2 : nbD n b = true) : ∃ c, eqD a b = some c ∧ (c = true ↔ a.frz = b.frz) := by
 obtain ⟨d, e1, e2, e3⟩ := toD_pl h1
 obtain ⟨e, f1, f2, f3⟩ := toD_pl h2
 refine ⟨PyData.eqv d e, by simp [eqD, e1, f1, shaped_of e2 e3 hn, shaped_of f2 f3 hn], fun q => eqv_back n a b d e e1 f1 b1 b2 h1 q, fun q => ?_⟩
 have e4 : toD b = some d := by rw [← toD_frz b, ← q, toD_frz a, e1]
 rw [e4] at f1
 cases f1
 exact SeqAt.eqv_refl d e2
theorem semEq_same {n : Nat} (hn : n ≤ 64) {a b : Val} (h : plD n a = true) (e : a.frz = b.frz) : semEq [a, b] = some (.bl true) := by simp [semEq, eqD_same hn h e]
theorem semNe_same {n : Nat} (hn : n ≤ 64) {a b : Val} (h : plD n a = true) (e : a.frz = b.frz) : semNe [a, b] = some (.bl false) := by simp [semNe, eqD_same hn h e]
end VL
set_option maxHeartbeats 0
namespace Gb
open PySem L2 VL
def top (i : Nat) : Stmt := PySem.Challenge.pw_gatheredbells_k05_all_rows_of_a_size.main.body.getD i (.Pass ⟨0, 0, 0, 0⟩)
def clsNames : List Str := ["Bound"]
def fnNames : List Str := ["InvalidNumber", "InvalidBound"]
def gam (K : PySem.W.Frag) (w : World) : Gam := ⟨K, clsAt clsNames K, fun n => (fnNames[n]?).map (He.ga K), [], w⟩
def sub (n m : Nat) : Bool := [(0, 0), (1, 1), (2, 1), (2, 2), (3, 1), (3, 3)].contains (n, m)
def d_InvalidNumber_init : VDef := { ad := fun K => He.ma K (He.ga K "InvalidNumber") "__init__", name := "__init__", qual := "InvalidNumber.__init__", params := defArgs (inClass (top 3) 0), body := defBody (inClass (top 3) 0), scope := defScope (inClass (top 3) 0), cell := true }
def d_is_integer : VDef := { ad := fun K => He.ga K "is_integer", name := "is_integer", qual := "is_integer", params := defArgs (top 6), body := defBody (top 6), scope := defScope (top 6), dfl := [], kwd := [] }
theorem sc_is_integer : FnScope ["value"] ["value"] d_is_integer.scope := ⟨rfl, rfl, rfl, by decide +kernel, rfl, by decide +kernel, by decide +kernel⟩
def d_is_between : VDef := { ad := fun K => He.ga K "is_between", name := "is_between", qual := "is_between", params := defArgs (top 7), body := defBody (top 7), scope := defScope (top 7), dfl := [], kwd := [] }
theorem sc_is_between : FnScope ["value", "least", "most"] ["value", "least", "most"] d_is_between.scope := ⟨rfl, rfl, rfl, by decide +kernel, rfl, by decide +kernel, by decide +kernel⟩
def d_is_rule : VDef := { ad := fun K => He.ga K "is_rule", name := "is_rule", qual := "is_rule", params := defArgs (top 14), body := defBody (top 14), scope := defScope (top 14), dfl := [], kwd := [] }
theorem sc_is_rule : FnScope ["value"] ["value"] d_is_rule.scope := ⟨rfl, rfl, rfl, by decide +kernel, rfl, by decide +kernel, by decide +kernel⟩
def d_are_rules : VDef := { ad := fun K => He.ga K "are_rules", name := "are_rules", qual := "are_rules", params := defArgs (top 15), body := defBody (top 15), scope := defScope (top 15), dfl := [], kwd := [] }
theorem sc_are_rules : FnScope ["rules", "rule"] ["rules"] d_are_rules.scope := ⟨rfl, rfl, rfl, by decide +kernel, rfl, by decide +kernel, by decide +kernel⟩
def d_Bound_init : VDef := { ad := fun K => He.ma K (He.ga K "Bound") "__init__", name := "__init__", qual := "Bound.__init__", params := defArgs (inClass (top 17) 0), body := defBody (inClass (top 17) 0), scope := defScope (inClass (top 17) 0), dfl := [], kwd := [("also", .adr (kwAt (fun K => He.ma K (He.ga K "Bound") "__init__") "also"))] }
theorem sc_Bound_init : FnScope ["self", "most", "every", "also"] ["self", "most", "every", "also"] d_Bound_init.scope := ⟨rfl, rfl, rfl, by decide +kernel, rfl, by decide +kernel, by decide +kernel⟩
def d_may_come : VDef := { ad := fun K => He.ga K "_law_may_come", name := "_law_may_come", qual := "_law_may_come", params := defArgs (top 29), body := defBody (top 29), scope := defScope (top 29), dfl := [], kwd := [] }
theorem sc_may_come : FnScope ["_law_rules", "_law_counts", "_law_found", "_law_most", "_law_every", "_law_total", "_law_back"] ["_law_rules", "_law_counts"] d_may_come.scope := ⟨rfl, rfl, rfl, by decide +kernel, rfl, by decide +kernel, by decide +kernel⟩
def d_all : VDef := { ad := fun K => He.ga K "_law_all", name := "_law_all", qual := "_law_all", params := defArgs (top 31), body := defBody (top 31), scope := defScope (top 31), dfl := [], kwd := [] }
theorem sc_all : FnScope ["_law_rules", "_law_size", "_law_found", "_law_turn", "_law_more", "_law_counts", "_law_count"] ["_law_rules", "_law_size"] d_all.scope := ⟨rfl, rfl, rfl, by decide +kernel, rfl, by decide +kernel, by decide +kernel⟩
def d_bound_of : VDef := { ad := fun K => He.ga K "bound_of", name := "bound_of", qual := "bound_of", params := defArgs (top 18), body := defBody (top 18), scope := defScope (top 18), dfl := [], kwd := [] }
theorem sc_bound_of : FnScope ["rules"] ["rules"] d_bound_of.scope := ⟨rfl, rfl, rfl, by decide +kernel, rfl, by decide +kernel, by decide +kernel⟩
def d_Bound_of : VDef := { ad := fun K => smF K (He.ga K "Bound") "of", name := "of", qual := "Bound.of", params := defArgs (inClass (top 17) 6), body := defBody (inClass (top 17) 6), scope := defScope (inClass (top 17) 6), dfl := [], kwd := [] }
theorem sc_Bound_of : FnScope ["rules"] ["rules"] d_Bound_of.scope := ⟨rfl, rfl, rfl, by decide +kernel, rfl, by decide +kernel, by decide +kernel⟩
def d_bound : VDef := { ad := fun K => He.ga K "_law_bound", name := "_law_bound", qual := "_law_bound", params := defArgs (top 28), body := defBody (top 28), scope := defScope (top 28), dfl := [], kwd := [] }
theorem sc_bound : FnScope ["_law_rules"] ["_law_rules"] d_bound.scope := ⟨rfl, rfl, rfl, by decide +kernel, rfl, by decide +kernel, by decide +kernel⟩
def d_draw : VDef := { ad := fun K => He.ga K "_law_draw", name := "_law_draw", qual := "_law_draw", params := defArgs (top 27), body := defBody (top 27), scope := defScope (top 27), dfl := [], kwd := [] }
theorem sc_draw : FnScope ["_law_stream_here", "_law_count", "_law_result"] ["_law_stream_here", "_law_count"] d_draw.scope := ⟨rfl, rfl, rfl, by decide +kernel, rfl, by decide +kernel, by decide +kernel⟩
def d_Bound_rules : VDef := { ad := fun K => He.ma K (He.ga K "Bound") "rules", name := "rules", qual := "Bound.rules", params := defArgs (inClass (top 17) 1), body := defBody (inClass (top 17) 1), scope := defScope (inClass (top 17) 1), dfl := [], kwd := [] }
theorem sc_Bound_rules : FnScope ["self"] ["self"] d_Bound_rules.scope := ⟨rfl, rfl, rfl, by decide +kernel, rfl, by decide +kernel, by decide +kernel⟩
def d_allowed_at : VDef := { ad := fun K => He.ga K "allowed_at", name := "allowed_at", qual := "allowed_at", params := defArgs (top 21), body := defBody (top 21), scope := defScope (top 21), dfl := [], kwd := [] }
theorem sc_allowed_at : FnScope ["rules", "levels", "level", "most", "every"] ["rules", "levels"] d_allowed_at.scope := ⟨rfl, rfl, rfl, by decide +kernel, rfl, by decide +kernel, by decide +kernel⟩
def d_check_between : VDef := { ad := fun K => He.ga K "check_between", name := "check_between", qual := "check_between", params := defArgs (top 9), body := defBody (top 9), scope := defScope (top 9), dfl := [], kwd := [] }
theorem sc_check_between : FnScope ["value", "least", "most"] ["value", "least", "most"] d_check_between.scope := ⟨rfl, rfl, rfl, by decide +kernel, rfl, by decide +kernel, by decide +kernel⟩
def d_check_bound : VDef := { ad := fun K => He.ga K "check_bound", name := "check_bound", qual := "check_bound", params := defArgs (top 20), body := defBody (top 20), scope := defScope (top 20), dfl := [], kwd := [] }
theorem sc_check_bound : FnScope ["bound"] ["bound"] d_check_bound.scope := ⟨rfl, rfl, rfl, by decide +kernel, rfl, by decide +kernel, by decide +kernel⟩
def d_levels_behind : VDef := { ad := fun K => He.ga K "levels_behind", name := "levels_behind", qual := "levels_behind", params := defArgs (top 22), body := defBody (top 22), scope := defScope (top 22), dfl := [], kwd := [] }
theorem sc_levels_behind : FnScope ["rules", "levels", "count", "level", "most", "every"] ["rules", "levels", "count"] d_levels_behind.scope := ⟨rfl, rfl, rfl, by decide +kernel, rfl, by decide +kernel, by decide +kernel⟩
def d_each_row : VDef := { ad := fun K => He.ga K "each_row", name := "each_row", qual := "each_row", params := defArgs (top 24), body := defBody (top 24), scope := defScope (top 24), dfl := [], kwd := [] }
theorem sc_each_row : GScope ["bound", "length", "rules", "rows", "row", "levels", "counts", "count"] ["bound", "length"] d_each_row.scope := ⟨rfl, rfl, rfl, by decide +kernel, rfl, by decide +kernel, by decide +kernel⟩
def d_refused : VDef := { ad := fun K => He.ga K "_law_refused", name := "_law_refused", qual := "_law_refused", params := defArgs (top 32), body := defBody (top 32), scope := defScope (top 32), dfl := [], kwd := [] }
theorem sc_refused : FnScope ["_law_bound_here", "_law_size", "e"] ["_law_bound_here", "_law_size"] d_refused.scope := ⟨rfl, rfl, rfl, by decide +kernel, rfl, by decide +kernel, by decide +kernel⟩
def d_stream : VDef := { ad := fun K => He.ga K "_law_stream", name := "_law_stream", qual := "_law_stream", params := defArgs (top 26), body := defBody (top 26), scope := defScope (top 26), dfl := [], kwd := [] }
theorem sc_stream : FnScope ["_law_script", "_law_k", "_law_cell", "_law_size", "_law_mixed"] ["_law_script", "_law_k"] d_stream.scope := ⟨rfl, rfl, rfl, by decide +kernel, rfl, by decide +kernel, by decide +kernel⟩
def d_three : VDef := { ad := fun K => He.ga K "_law_three", name := "_law_three", qual := "_law_three", params := defArgs (top 30), body := defBody (top 30), scope := defScope (top 30), dfl := [], kwd := [] }
theorem sc_three : FnScope ["_law_stream_here", "_law_most", "_law_every", "_law_found", "_law_turn", "_law_rule"] ["_law_stream_here", "_law_most", "_law_every"] d_three.scope := ⟨rfl, rfl, rfl, by decide +kernel, rfl, by decide +kernel, by decide +kernel⟩
def d_law : VDef := { ad := fun K => He.ga K "law", name := "law", qual := "law", params := defArgs (top 33), body := defBody (top 33), scope := defScope (top 33), dfl := [], kwd := [] }
theorem sc_law : FnScope ["_law_script", "_law_k", "_law_stream_here", "_law_rules", "_law_size", "_law_bound_here", "_law_found", "_law_counts", "_law_odd"] ["_law_script"] d_law.scope := ⟨rfl, rfl, rfl, by decide +kernel, rfl, by decide +kernel, by decide +kernel⟩
theorem boot_len : bootBuiltins "len" = some (.builtin "len") := by decide +kernel
theorem boot_min : bootBuiltins "min" = some (.builtin "min") := by decide +kernel
theorem boot_max : bootBuiltins "max" = some (.builtin "max") := by decide +kernel
theorem boot_int : bootBuiltins "int" = some (.type "int") := by decide +kernel
theorem boot_list : bootBuiltins "list" = some (.type "list") := by decide +kernel
theorem boot_repr : bootBuiltins "repr" = some (.builtin "repr") := by decide +kernel
theorem boot_tuple : bootBuiltins "tuple" = some (.type "tuple") := by decide +kernel
theorem boot_isinstance : bootBuiltins "isinstance" = some (.builtin "isinstance") := by decide +kernel
theorem boot_bool : bootBuiltins "bool" = some (.type "bool") := by decide +kernel
theorem boot_all : bootBuiltins "all" = some (.builtin "all") := by decide +kernel
def fa : List Ftest := [
 (fun K => (He.Fa.free "len").ok K),
 (fun K => (He.Fa.free "min").ok K),
 (fun K => (He.Fa.free "max").ok K),
 (fun K => (He.Fa.free "range").ok K),
 (fun K => (He.Fa.glo "_law_stream").ok K),
 (fun K => (He.Fa.glo "_law_three").ok K),
 (fun K => (He.Fa.free "int").ok K),
 (fun K => (He.Fa.glo "_law_draw").ok K),
 (fun K => (He.Fa.glo "_law_bound").ok K),
 (fun K => (He.Fa.glo "each_row").ok K),
 (fun K => (He.Fa.free "list").ok K),
 (fun K => (He.Fa.glo "_law_all").ok K),
 (tAt (kwAt (fun K => He.ma K (He.ga K "Bound") "__init__") "also") (.wtp [])),
 (fun K => (He.Fa.mkr "Bound").ok K),
 (fun K => (He.Fa.glo "Bound").ok K),
 (fun K => decide (PySem.W.subIn K (.ref (He.ga K "InvalidNumber")) (.type "StopIteration") = some false)),
 (fun K => (He.Fa.glo "_law_refused").ok K),
 (fun K => (He.Fa.glo "InvalidNumber").ok K),
 (tExm fnNames 0 "InvalidNumber"),
 (fun K => (He.Fa.free "repr").ok K),
 (tXfc fnNames [1, 0] "value"),
 (fun K => (He.Fa.glo "check_bound").ok K),
 (fun K => (He.Fa.int "MOST_MOST" (8)).ok K),
 (fun K => (He.Fa.glo "check_between").ok K),
 (fun K => (He.Fa.meth "Bound" "rules").ok K),
 (fun K => (He.Fa.cls "Bound").ok K),
 (fun K => (He.Fa.glo "allowed_at").ok K),
 (fun K => (He.Fa.glo "levels_behind").ok K),
 (fun K => (He.Fa.free "zip").ok K),
 (fun K => (He.Fa.noat "Bound" "ruled").ok K),
 (fun K => (He.Fa.free "tuple").ok K),
 (fun K => (He.Fa.glo "is_between").ok K),
 (fun K => (He.Fa.free "super").ok K),
 (excB (fun K => (He.ga K "InvalidNumber")) (fun K => He.ma K (He.ga K "InvalidNumber") "__init__") "value" "/claim/cut.py"),
 (fun K => (He.Fa.glo "is_integer").ok K),
 (fun K => (He.Fa.free "isinstance").ok K),
 (fun K => (He.Fa.free "bool").ok K),
 (tSMet "Bound" "of"),
 (fun K => (He.Fa.glo "are_rules").ok K),
 (fun K => (He.Fa.glo "bound_of").ok K),
 (fun K => (He.Fa.int "MOST_RULES" (3)).ok K),
 (fun K => (He.Fa.glo "is_rule").ok K),
 (fun K => (He.Fa.free "all").ok K),
 (fun K => (He.Fa.int "MOST_EVERY" (12)).ok K),
 (fun K => (He.Fa.glo "_law_may_come").ok K),
 (fun K => (He.Fa.glo "law").ok K),
 (tIsi clsNames sub)]
def fn : List VDef := [d_is_integer, d_is_between, d_is_rule, d_are_rules, d_Bound_init, d_may_come, d_all, d_bound_of, d_Bound_of, d_bound, d_draw, d_Bound_rules, d_allowed_at, d_check_between, d_check_bound, d_levels_behind, d_each_row, d_refused, d_stream, d_three, d_law, d_InvalidNumber_init]
def ts : List He.Tab := []
def loose0 : List PySem.Str := ["BellError", "InvalidBound", "InvalidNumber", "is_integer", "is_between", "is_count", "check_between", "is_rule", "are_rules", "is_row", "Bound", "bound_of", "joined", "check_bound", "allowed_at", "levels_behind", "is_kept", "each_row", "_law_stream", "_law_draw"]
def loose1 : List PySem.Str := ["_law_bound", "_law_may_come", "_law_three", "_law_all", "_law_refused", "MOST_COUNT", "MOST_MOST", "MOST_EVERY", "MOST_RULES"]
def loose : List PySem.Str := loose0 ++ loose1
abbrev R : PySem.W.OpenRow := PySem.W.OpenLaw.row PySem.Challenge.rw_gatheredbells_k05_all_rows_of_a_size
abbrev hk : PySem.W.Hook := hookW 8 fa fn ts
def ob (s : PySem.W.SharedT) : AlW := obsWG 8 fa fn ts (HandSHeadRun.getT s)
theorem ob_eq (s : PySem.W.SharedT) : ob s = hk.obs s.abs := obsWG_eq (HandSHeadRun.getT_eq s)
theorem run_fl (w : World) : RunL R (PySem.W.view R.prog [33]) 40000 loose (w.withFollow "special-get-raises" false) := fun os => by kernel_rfl
theorem run_fa (w : World) : RunA R 8 fa ts 40000 (w.withFollow "special-get-raises" false) := fun os => by kernel_rfl
theorem run_fn0 (w : World) : RunN R 8 (fn.take 11) 40000 (w.withFollow "special-get-raises" false) := fun os => by kernel_rfl
theorem run_fn1 (w : World) : RunN R 8 (fn.drop 11) 40000 (w.withFollow "special-get-raises" false) := fun os => by kernel_rfl
theorem run_f (w : World) : HandSHeadRun.RunEq R (PySem.W.view R.prog [33]) hk ob 40000 loose (w.withFollow "special-get-raises" false) := run_parts (run_fl w) (run_fa w) (runN_join 11 (run_fn0 w) (run_fn1 w))
theorem run_tl (w : World) : RunL R (PySem.W.view R.prog [33]) 40000 loose (w.withFollow "special-get-raises" true) := fun os => by kernel_rfl
theorem run_ta (w : World) : RunA R 8 fa ts 40000 (w.withFollow "special-get-raises" true) := fun os => by kernel_rfl
theorem run_tn0 (w : World) : RunN R 8 (fn.take 11) 40000 (w.withFollow "special-get-raises" true) := fun os => by kernel_rfl
theorem run_tn1 (w : World) : RunN R 8 (fn.drop 11) 40000 (w.withFollow "special-get-raises" true) := fun os => by kernel_rfl
theorem run_t (w : World) : HandSHeadRun.RunEq R (PySem.W.view R.prog [33]) hk ob 40000 loose (w.withFollow "special-get-raises" true) := run_parts (run_tl w) (run_ta w) (runN_join 11 (run_tn0 w) (run_tn1 w))
theorem run (w : World) : HandSHeadRun.RunEq R (PySem.W.view R.prog [33]) hk ob 40000 loose w := PySem.W.byRow2 "special-get-raises" (P := fun w => HandSHeadRun.RunEq R (PySem.W.view R.prog [33]) hk ob 40000 loose w) run_f run_t w
structure Txt (K : PySem.W.Frag) (mg : Str → Option Value) (w : World) : Prop where
 n_len : mg "len" = none
 n_min : mg "min" = none
 n_max : mg "max" = none
 n_range : mg "range" = none
 g_stream : mg "_law_stream" = some (.ref (He.ga K "_law_stream"))
 g_three : mg "_law_three" = some (.ref (He.ga K "_law_three"))
 n_int : mg "int" = none
 g_draw : mg "_law_draw" = some (.ref (He.ga K "_law_draw"))
 g_bound : mg "_law_bound" = some (.ref (He.ga K "_law_bound"))
 g_each_row : mg "each_row" = some (.ref (He.ga K "each_row"))
 n_list : mg "list" = none
 g_all : mg "_law_all" = some (.ref (He.ga K "_law_all"))
 da_Bound_init_also : ∀ W H, Rep (gam K w) W H (.ref ((kwAt (fun K => He.ma K (He.ga K "Bound") "__init__") "also") K)) (.wtp []) []
 mk_Bound : Mk K (He.ga K "Bound") (He.ma K (He.ga K "Bound") "__init__")
 g_Bound : mg "Bound" = some (.ref (He.ga K "Bound"))
 ns_InvalidNumber : PySem.W.subIn K (.ref (He.ga K "InvalidNumber")) (.type "StopIteration") = some false
 g_refused : mg "_law_refused" = some (.ref (He.ga K "_law_refused"))
 g_InvalidNumber : mg "InvalidNumber" = some (.ref (He.ga K "InvalidNumber"))
 ey_InvalidNumber : ExmC K fnNames 0 "InvalidNumber"
 n_repr : mg "repr" = none
 xf_value : XfF (gam K w) K [1, 0] "value"
 g_check_bound : mg "check_bound" = some (.ref (He.ga K "check_bound"))
 c_MOST_MOST : ∃ t, mg "MOST_MOST" = some (.int 8 t)
 g_check_between : mg "check_between" = some (.ref (He.ga K "check_between"))
 mt_Bound_rules : Meth K (He.ga K "Bound") "rules" (He.ma K (He.ga K "Bound") "rules")
 cl_Bound : Cls K (He.ga K "Bound")
 g_allowed_at : mg "allowed_at" = some (.ref (He.ga K "allowed_at"))
 g_levels_behind : mg "levels_behind" = some (.ref (He.ga K "levels_behind"))
 n_zip : mg "zip" = none
 na_Bound_ruled : NoAttr K (He.ga K "Bound") "ruled"
 n_tuple : mg "tuple" = none
 g_is_between : mg "is_between" = some (.ref (He.ga K "is_between"))
 n_super : mg "super" = none
 ex_InvalidNumber : ExcC K ((He.ga K "InvalidNumber")) (He.ma K (He.ga K "InvalidNumber") "__init__") "value" "/claim/cut.py"
 g_is_integer : mg "is_integer" = some (.ref (He.ga K "is_integer"))
 n_isinstance : mg "isinstance" = none
 n_bool : mg "bool" = none
 sm_Bound_of : SMet K (He.ga K "Bound") "of" (smP K (He.ga K "Bound") "of") (smF K (He.ga K "Bound") "of")
 g_are_rules : mg "are_rules" = some (.ref (He.ga K "are_rules"))
 g_bound_of : mg "bound_of" = some (.ref (He.ga K "bound_of"))
 c_MOST_RULES : ∃ t, mg "MOST_RULES" = some (.int 3 t)
 g_is_rule : mg "is_rule" = some (.ref (He.ga K "is_rule"))
 n_all : mg "all" = none
 c_MOST_EVERY : ∃ t, mg "MOST_EVERY" = some (.int 12 t)
 g_may_come : mg "_law_may_come" = some (.ref (He.ga K "_law_may_come"))
 g_law : mg "law" = some (.ref (He.ga K "law"))
 isi : IsiFacts (gam K w) sub
theorem isi_facts {K : PySem.W.Frag} {mg : Str → Option Value} {w : World} (T : Txt K mg w) : IsiFacts (gam K w) sub := T.isi
theorem fld_ruled {K : PySem.W.Frag} {mg : Str → Option Value} {w : World} (T : Txt K mg w) : FldF (gam K w) K [0] "ruled" := by
 intro n hn C hC
 simp only [List.mem_cons, List.not_mem_nil, or_false] at hn
 subst hn
 · have e : He.ga K "Bound" = C := Option.some.inj hC
   subst e
   exact ⟨T.cl_Bound, T.na_Bound_ruled⟩
theorem dfl_stream_2 {K : PySem.W.Frag} {w : World} : DflL (gam K w) [] := by
 intro q hq; cases hq
theorem bnd_stream_2 {K : PySem.W.Frag} {fd : FuncData} (F : FunV K d_stream fd) : ∃ ds, Vals (([] : List (V × Val)).map (·.1)) ds ∧ Binds K fd ["_law_script", "_law_k"] ds := by
 exact ⟨[], .nil, F.bindsN fun _ _ _ _ _ _ us hl => match us, hl with | [_, _], _ => rfl⟩
theorem dfl_three_3 {K : PySem.W.Frag} {w : World} : DflL (gam K w) [] := by
 intro q hq; cases hq
theorem bnd_three_3 {K : PySem.W.Frag} {fd : FuncData} (F : FunV K d_three fd) : ∃ ds, Vals (([] : List (V × Val)).map (·.1)) ds ∧ Binds K fd ["_law_stream_here", "_law_most", "_law_every"] ds := by
 exact ⟨[], .nil, F.bindsN fun _ _ _ _ _ _ us hl => match us, hl with | [_, _, _], _ => rfl⟩
theorem dfl_draw_2 {K : PySem.W.Frag} {w : World} : DflL (gam K w) [] := by
 intro q hq; cases hq
theorem bnd_draw_2 {K : PySem.W.Frag} {fd : FuncData} (F : FunV K d_draw fd) : ∃ ds, Vals (([] : List (V × Val)).map (·.1)) ds ∧ Binds K fd ["_law_stream_here", "_law_count"] ds := by
 exact ⟨[], .nil, F.bindsN fun _ _ _ _ _ _ us hl => match us, hl with | [_, _], _ => rfl⟩
theorem dfl_bound_1 {K : PySem.W.Frag} {w : World} : DflL (gam K w) [] := by
 intro q hq; cases hq
theorem bnd_bound_1 {K : PySem.W.Frag} {fd : FuncData} (F : FunV K d_bound fd) : ∃ ds, Vals (([] : List (V × Val)).map (·.1)) ds ∧ Binds K fd ["_law_rules"] ds := by
 exact ⟨[], .nil, F.bindsN fun _ _ _ _ _ _ us hl => match us, hl with | [_], _ => rfl⟩
theorem dfl_all_2 {K : PySem.W.Frag} {w : World} : DflL (gam K w) [] := by
 intro q hq; cases hq
theorem bnd_all_2 {K : PySem.W.Frag} {fd : FuncData} (F : FunV K d_all fd) : ∃ ds, Vals (([] : List (V × Val)).map (·.1)) ds ∧ Binds K fd ["_law_rules", "_law_size"] ds := by
 exact ⟨[], .nil, F.bindsN fun _ _ _ _ _ _ us hl => match us, hl with | [_, _], _ => rfl⟩
theorem dfl_Bound_init_3 {K : PySem.W.Frag} {w : World} {mg : Str → Option Value} (T : Txt K mg w) : DflL (gam K w) [(.ref ((kwAt (fun K => He.ma K (He.ga K "Bound") "__init__") "also") K), .wtp [])] := by
 intro q hq W H
 simp only [List.mem_cons, List.not_mem_nil, or_false] at hq
 subst hq
 · exact T.da_Bound_init_also W H
theorem bnd_Bound_init_3 {K : PySem.W.Frag} {fd : FuncData} (F : FunV K d_Bound_init fd) : ∃ ds, Vals (([(.ref ((kwAt (fun K => He.ma K (He.ga K "Bound") "__init__") "also") K), .wtp [])] : List (V × Val)).map (·.1)) ds ∧ Binds K fd ["self", "most", "every", "also"] ds := by
 exact F.binds0 (ps := ["self", "most", "every", "also"]) 3 (List.cons_ne_nil _ _) rfl fun _ _ _ _ _ _ us zs h1 h2 => match us, zs, h1, h2 with | [_, _, _], [_], _, _ => ⟨_, _, _, _, _, _, rfl, rfl, rfl⟩
theorem dfl_refused_2 {K : PySem.W.Frag} {w : World} : DflL (gam K w) [] := by
 intro q hq; cases hq
theorem bnd_refused_2 {K : PySem.W.Frag} {fd : FuncData} (F : FunV K d_refused fd) : ∃ ds, Vals (([] : List (V × Val)).map (·.1)) ds ∧ Binds K fd ["_law_bound_here", "_law_size"] ds := by
 exact ⟨[], .nil, F.bindsN fun _ _ _ _ _ _ us hl => match us, hl with | [_, _], _ => rfl⟩
theorem dfl_check_bound_1 {K : PySem.W.Frag} {w : World} : DflL (gam K w) [] := by
 intro q hq; cases hq
theorem bnd_check_bound_1 {K : PySem.W.Frag} {fd : FuncData} (F : FunV K d_check_bound fd) : ∃ ds, Vals (([] : List (V × Val)).map (·.1)) ds ∧ Binds K fd ["bound"] ds := by
 exact ⟨[], .nil, F.bindsN fun _ _ _ _ _ _ us hl => match us, hl with | [_], _ => rfl⟩
theorem dfl_check_between_3 {K : PySem.W.Frag} {w : World} : DflL (gam K w) [] := by
 intro q hq; cases hq
theorem bnd_check_between_3 {K : PySem.W.Frag} {fd : FuncData} (F : FunV K d_check_between fd) : ∃ ds, Vals (([] : List (V × Val)).map (·.1)) ds ∧ Binds K fd ["value", "least", "most"] ds := by
 exact ⟨[], .nil, F.bindsN fun _ _ _ _ _ _ us hl => match us, hl with | [_, _, _], _ => rfl⟩
theorem dfl_Bound_rules_1 {K : PySem.W.Frag} {w : World} : DflL (gam K w) [] := by
 intro q hq; cases hq
theorem bnd_Bound_rules_1 {K : PySem.W.Frag} {fd : FuncData} (F : FunV K d_Bound_rules fd) : ∃ ds, Vals (([] : List (V × Val)).map (·.1)) ds ∧ Binds K fd ["self"] ds := by
 exact ⟨[], .nil, F.bindsN fun _ _ _ _ _ _ us hl => match us, hl with | [_], _ => rfl⟩
theorem dfl_allowed_at_2 {K : PySem.W.Frag} {w : World} : DflL (gam K w) [] := by
 intro q hq; cases hq
theorem bnd_allowed_at_2 {K : PySem.W.Frag} {fd : FuncData} (F : FunV K d_allowed_at fd) : ∃ ds, Vals (([] : List (V × Val)).map (·.1)) ds ∧ Binds K fd ["rules", "levels"] ds := by
 exact ⟨[], .nil, F.bindsN fun _ _ _ _ _ _ us hl => match us, hl with | [_, _], _ => rfl⟩
theorem dfl_levels_behind_3 {K : PySem.W.Frag} {w : World} : DflL (gam K w) [] := by
 intro q hq; cases hq
theorem bnd_levels_behind_3 {K : PySem.W.Frag} {fd : FuncData} (F : FunV K d_levels_behind fd) : ∃ ds, Vals (([] : List (V × Val)).map (·.1)) ds ∧ Binds K fd ["rules", "levels", "count"] ds := by
 exact ⟨[], .nil, F.bindsN fun _ _ _ _ _ _ us hl => match us, hl with | [_, _, _], _ => rfl⟩
theorem dfl_is_between_3 {K : PySem.W.Frag} {w : World} : DflL (gam K w) [] := by
 intro q hq; cases hq
theorem bnd_is_between_3 {K : PySem.W.Frag} {fd : FuncData} (F : FunV K d_is_between fd) : ∃ ds, Vals (([] : List (V × Val)).map (·.1)) ds ∧ Binds K fd ["value", "least", "most"] ds := by
 exact ⟨[], .nil, F.bindsN fun _ _ _ _ _ _ us hl => match us, hl with | [_, _, _], _ => rfl⟩
theorem dfl_is_integer_1 {K : PySem.W.Frag} {w : World} : DflL (gam K w) [] := by
 intro q hq; cases hq
theorem bnd_is_integer_1 {K : PySem.W.Frag} {fd : FuncData} (F : FunV K d_is_integer fd) : ∃ ds, Vals (([] : List (V × Val)).map (·.1)) ds ∧ Binds K fd ["value"] ds := by
 exact ⟨[], .nil, F.bindsN fun _ _ _ _ _ _ us hl => match us, hl with | [_], _ => rfl⟩
theorem dfl_Bound_of_1 {K : PySem.W.Frag} {w : World} : DflL (gam K w) [] := by
 intro q hq; cases hq
theorem bnd_Bound_of_1 {K : PySem.W.Frag} {fd : FuncData} (F : FunV K d_Bound_of fd) : ∃ ds, Vals (([] : List (V × Val)).map (·.1)) ds ∧ Binds K fd ["rules"] ds := by
 exact ⟨[], .nil, F.bindsN fun _ _ _ _ _ _ us hl => match us, hl with | [_], _ => rfl⟩
theorem dfl_are_rules_1 {K : PySem.W.Frag} {w : World} : DflL (gam K w) [] := by
 intro q hq; cases hq
theorem bnd_are_rules_1 {K : PySem.W.Frag} {fd : FuncData} (F : FunV K d_are_rules fd) : ∃ ds, Vals (([] : List (V × Val)).map (·.1)) ds ∧ Binds K fd ["rules"] ds := by
 exact ⟨[], .nil, F.bindsN fun _ _ _ _ _ _ us hl => match us, hl with | [_], _ => rfl⟩
theorem dfl_bound_of_1 {K : PySem.W.Frag} {w : World} : DflL (gam K w) [] := by
 intro q hq; cases hq
theorem bnd_bound_of_1 {K : PySem.W.Frag} {fd : FuncData} (F : FunV K d_bound_of fd) : ∃ ds, Vals (([] : List (V × Val)).map (·.1)) ds ∧ Binds K fd ["rules"] ds := by
 exact ⟨[], .nil, F.bindsN fun _ _ _ _ _ _ us hl => match us, hl with | [_], _ => rfl⟩
theorem dfl_is_rule_1 {K : PySem.W.Frag} {w : World} : DflL (gam K w) [] := by
 intro q hq; cases hq
theorem bnd_is_rule_1 {K : PySem.W.Frag} {fd : FuncData} (F : FunV K d_is_rule fd) : ∃ ds, Vals (([] : List (V × Val)).map (·.1)) ds ∧ Binds K fd ["value"] ds := by
 exact ⟨[], .nil, F.bindsN fun _ _ _ _ _ _ us hl => match us, hl with | [_], _ => rfl⟩
theorem dfl_may_come_2 {K : PySem.W.Frag} {w : World} : DflL (gam K w) [] := by
 intro q hq; cases hq
theorem bnd_may_come_2 {K : PySem.W.Frag} {fd : FuncData} (F : FunV K d_may_come fd) : ∃ ds, Vals (([] : List (V × Val)).map (·.1)) ds ∧ Binds K fd ["_law_rules", "_law_counts"] ds := by
 exact ⟨[], .nil, F.bindsN fun _ _ _ _ _ _ us hl => match us, hl with | [_, _], _ => rfl⟩
theorem kb_each_row_1_all {K : PySem.W.Frag} {fd : FuncData} (F : FunV K d_each_row fd) : KBn K fd ["bound", "length"] 1 ["length"] (fun us ws => us ++ ws) (fun vs zs => vs ++ zs) :=
 kbindsN F 1 ["length"] fun _ _ _ _ _ _ us ws h1 h2 => match us, ws, h1, h2 with | [_], [_], _, _ => by show _ = _; kernel_rfl
theorem kb_Bound_init_2_all {K : PySem.W.Frag} {fd : FuncData} (F : FunV K d_Bound_init fd) : KBn K fd ["self", "most", "every", "also"] 3 ["also"] (fun us ws => us ++ ws) (fun vs zs => vs ++ zs) := by
 obtain ⟨mv, b⟩ := F.kbinds0 (ps := ["self", "most", "every", "also"]) 3 ["also"] [] (fun us _ ws => us ++ ws) (List.cons_ne_nil _ _) (fun q hq => nomatch hq) (fun r1 _ r3 => r1.append r3) fun _ _ _ _ _ _ us mv ws h1 h2 h3 => match us, mv, ws, h1, h2, h3 with | [_, _, _], [], [_], _, _, _ => by show _ = _; kernel_rfl
 exact b
theorem exc_InvalidNumber {P : Program} {w : World} {K : PySem.W.Frag} {mg : Str → Option Value} {base : Heap} (T : Txt K mg w) (hP : PFile P "/claim/cut.py") (raw : d_InvalidNumber_init.seen K = d_InvalidNumber_init.shape ∧ d_InvalidNumber_init.good K = true) : ∃ fd, FnOk P w K mg base (L2.CX P w) 1 (d_InvalidNumber_init.ad K) fd ["self", "value"] (spE K ((He.ga K "InvalidNumber")) "value") ∧ Binds K fd ["self", "value"] [] :=
 excE_ok (k := 0) raw rfl rfl rfl (seI_of rfl rfl rfl (by decide) (by rfl) (by rfl) (by rfl) (by rfl) (by decide) (by decide)) T.ex_InvalidNumber hP T.n_super rfl rfl (fun _ _ _ _ _ _ _ us h => match us, h with | [_, _], _ => rfl) (by decide) (by decide) (by decide) (by decide) (fun _ => rfl) (fun _ => rfl) (fun _ => rfl)
def m_is_integer : MS :=
    (mRet (mAnd (mFun (semIsi sub) [(mVar 0), (mC (.ty "int"))]) (mNot (mFun (semIsi sub) [(mVar 0), (mC (.ty "bool"))]))))
def f_is_integer : MF := mBody [false] 1 m_is_integer
theorem ok_is_integer {P : Program} {w : World} {K : PySem.W.Frag} {mg : Str → Option Value} {base : Heap} (T : Txt K mg w) (F : ∃ fd, FunV K d_is_integer fd)  : Ok P w K mg base (gam K w) d_is_integer 1 ["value"] f_is_integer := by
 refine ok_of F sc_is_integer rfl fun cdv A outer s H E hr tk hp σ0 => ?_
 exact (vss_one (vs_ret (ve_and (ve_callB call_isi (ok_isi (isi_facts T)) (by rfl) T.n_isinstance boot_isinstance (va_cons (ve_var (pv 0)) (va_cons (ve_c (pe_bltn (by rfl) T.n_int boot_int (by rfl)) (fun _ _ => .ty _)) va_nil))) (ve_one (ve_not (ve_callB call_isi (ok_isi (isi_facts T)) (by rfl) T.n_isinstance boot_isinstance (va_cons (ve_var (pv 0)) (va_cons (ve_c (pe_bltn (by rfl) T.n_bool boot_bool (by rfl)) (fun _ _ => .ty _)) va_nil))))))))
def m_is_between : MS :=
    (mRet (mAnd (mCall f_is_integer [.v ⟨true, true, (mStab (mVar 0))⟩]) (mChain (fun i j => decide (i ≤ j)) (fun i j => decide (i ≤ j)) (mVar 1) (mVar 0) (mVar 2))))
def f_is_between : MF := mBody [false, false, false] 3 m_is_between
theorem ok_is_between {P : Program} {w : World} {K : PySem.W.Frag} {mg : Str → Option Value} {base : Heap} (T : Txt K mg w) (F : ∃ fd, FunV K d_is_between fd) (h_is_integer : Ok P w K mg base (gam K w) d_is_integer 1 ["value"] f_is_integer) : Ok P w K mg base (gam K w) d_is_between 2 ["value", "least", "most"] f_is_between := by
 obtain ⟨fd_is_integer, F_is_integer, G_is_integer⟩ := h_is_integer
 obtain ⟨ds_is_integer_1, v_is_integer_1, b_is_integer_1⟩ := bnd_is_integer_1 F_is_integer
 cases v_is_integer_1
 have v_is_integer_1 : Vals (([] : List (V × Val)).map (·.1)) [] := .nil
 refine ok_of F sc_is_between rfl fun cdv A outer s H E hr tk hp σ0 => ?_
 exact (vss_one (vs_ret (ve_and (ve_call (cal_fn G_is_integer (hr.mono (by first | decide | omega)) b_is_integer_1 v_is_integer_1 tk) (by rfl) T.g_is_integer F_is_integer.kp (vg_v (ve_stab (ve_var (pv 0))) vg_nil) dfl_is_integer_1) (ve_one (ve_chain op_le op_le (ve_var (pv 1)) (ve_var (pv 0)) (ve_var (pv 2)))))))
def m_is_rule : MS :=
    (mSeq (mIfS (mOr (mNot (mFun (semIsi sub) [(mVar 0), (mC (.ty "tuple"))])) (mFun semNe [(mFun semLen [(mVar 0)]), (mC (.int 2))])) (mRet (mC (.bl false))) mNext)
    (mRet (mAnd (mCall f_is_between [.v ⟨true, true, (mFun semIx [(mVar 0), (mC (.int 0))])⟩, .v ⟨true, true, (mC (.int 1))⟩, .v ⟨true, true, (mC (.int 8))⟩]) (mCall f_is_between [.v ⟨true, true, (mFun semIx [(mVar 0), (mC (.int 1))])⟩, .v ⟨true, true, (mC (.int 1))⟩, .v ⟨true, true, (mC (.int 12))⟩]))))
def f_is_rule : MF := mBody [false] 1 m_is_rule
theorem ok_is_rule {P : Program} {w : World} {K : PySem.W.Frag} {mg : Str → Option Value} {base : Heap} (T : Txt K mg w) (F : ∃ fd, FunV K d_is_rule fd) (h_is_between : Ok P w K mg base (gam K w) d_is_between 2 ["value", "least", "most"] f_is_between) : Ok P w K mg base (gam K w) d_is_rule 3 ["value"] f_is_rule := by
 obtain ⟨fd_is_between, F_is_between, G_is_between⟩ := h_is_between
 obtain ⟨ds_is_between_3, v_is_between_3, b_is_between_3⟩ := bnd_is_between_3 F_is_between
 cases v_is_between_3
 have v_is_between_3 : Vals (([] : List (V × Val)).map (·.1)) [] := .nil
 refine ok_of F sc_is_rule rfl fun cdv A outer s H E hr tk hp σ0 => ?_
 exact (vss_cons (vs_if (vt_of (vw_or (vt_not (vt_val (ve_callB call_isi (ok_isi (isi_facts T)) (by rfl) T.n_isinstance boot_isinstance (va_cons (ve_var (pv 0)) (va_cons (ve_c (pe_bltn (by rfl) T.n_tuple boot_tuple (by rfl)) (fun _ _ => .ty _)) va_nil))))) (vw_or1 (vt_cmp (op_neD hr.units) ok_ne (ve_callB (call_lenV (by rfl)) ok_len (by rfl) T.n_len boot_len (va_cons (ve_var (pv 0)) va_nil)) (ve_c pe_int (fun _ _ => .int _)) (nomark _))))) (vss_one (vs_ret (ve_c pe_bl (fun _ _ => .bl _)))) vss_nil)
     (vss_one (vs_ret (ve_and (ve_call (cal_fn G_is_between (hr.mono (by first | decide | omega)) b_is_between_3 v_is_between_3 tk) (by rfl) T.g_is_between F_is_between.kp (vg_v (ve_ix (ix_any (by rfl) (by rfl) (hu_g hr)) ok_ix (ve_var (pv 0)) (ve_c pe_int (fun _ _ => .int _)) (fun _ _ => (by rfl))) (vg_v (ve_c pe_int (fun _ _ => .int _)) (vg_v (ve_c (pe_glob (v := .int 8) (by rfl) T.c_MOST_MOST.choose_spec ⟨_, rfl⟩) (fun _ _ => .int _)) vg_nil))) dfl_is_between_3) (ve_one (ve_call (cal_fn G_is_between (hr.mono (by first | decide | omega)) b_is_between_3 v_is_between_3 tk) (by rfl) T.g_is_between F_is_between.kp (vg_v (ve_ix (ix_any (by rfl) (by rfl) (hu_g hr)) ok_ix (ve_var (pv 0)) (ve_c pe_int (fun _ _ => .int _)) (fun _ _ => (by rfl))) (vg_v (ve_c pe_int (fun _ _ => .int _)) (vg_v (ve_c (pe_glob (v := .int 12) (by rfl) T.c_MOST_EVERY.choose_spec ⟨_, rfl⟩) (fun _ _ => .int _)) vg_nil))) dfl_is_between_3))))))
def m_are_rules : MS :=
    (mSeq (mIfS (mOr (mNot (mChain (fun i j => decide (i ≤ j)) (fun i j => decide (i ≤ j)) (mC (.int 1)) (mFun semLen [(mVar 0)]) (mC (.int 3)))) (mNot (mFun semAll [(mLc (mItemsL (mVar 0)) (gV 1) mYes (mCall f_is_rule [.v ⟨true, true, (mStab (mVar 1))⟩]) [1])]))) (mRet (mC (.bl false))) mNext)
    (mRet (mFun semEq [(mFun semLenT [(mFz (mDcT (mItemsL (mVar 0)) (gV 1) mYes (mVar 1) (mC (.bl true)) [1]))]), (mFun semLen [(mVar 0)])])))
def f_are_rules : MF := mBody [false] 2 m_are_rules
theorem ok_are_rules {P : Program} {w : World} {K : PySem.W.Frag} {mg : Str → Option Value} {base : Heap} (T : Txt K mg w) (F : ∃ fd, FunV K d_are_rules fd) (h_is_rule : Ok P w K mg base (gam K w) d_is_rule 3 ["value"] f_is_rule) : Ok P w K mg base (gam K w) d_are_rules 4 ["rules"] f_are_rules := by
 obtain ⟨fd_is_rule, F_is_rule, G_is_rule⟩ := h_is_rule
 obtain ⟨ds_is_rule_1, v_is_rule_1, b_is_rule_1⟩ := bnd_is_rule_1 F_is_rule
 cases v_is_rule_1
 have v_is_rule_1 : Vals (([] : List (V × Val)).map (·.1)) [] := .nil
 refine ok_of F sc_are_rules rfl fun cdv A outer s H E hr tk hp σ0 => ?_
 exact (vss_cons (vs_if (vt_of (vw_or (vt_not (vt_chain op_le op_le (ve_c pe_int (fun _ _ => .int _)) (ve_callB (call_lenV (by rfl)) ok_len (by rfl) T.n_len boot_len (va_cons (ve_var (pv 0)) va_nil)) (ve_c (pe_glob (v := .int 3) (by rfl) T.c_MOST_RULES.choose_spec ⟨_, rfl⟩) (fun _ _ => .int _)))) (vw_or1 (vt_not (vt_val (ve_callB (cr_all (by rfl)) (VL.ok_all (by rfl)) (by rfl) T.n_all boot_all (va_cons (ve_lc (p := true) (sb := true) (own := [("rule", 1)]) (by rfl) sc_are_rules.nd (vi_list (by rfl) (ve_var (pv 0))) (blkOk_by (own := [("rule", 1)]) (N := ["rules", "rule"]) (sc := d_are_rules.scope) (by decide +kernel)) (fun _ _ _ _ _ _ => (vg_name (i := 1) sc_are_rules.nd (by rfl) (by first | exact Or.inl rfl | exact Or.inr rfl) (by exact fun z => absurd (show some false = some true from z) (by decide)))) (fun _ _ _ _ _ => vts0) (fun _ _ _ _ _ => (ve_call (cal_fn G_is_rule (hr.mono (by first | decide | omega)) b_is_rule_1 v_is_rule_1 takesF) (by rfl) T.g_is_rule F_is_rule.kp (vg_v (ve_stab (ve_var (pv 1))) vg_nil) dfl_is_rule_1))) va_nil))))))) (vss_one (vs_ret (ve_c pe_bl (fun _ _ => .bl _)))) vss_nil)
     (vss_one (vs_ret (ve_cmp (op_eqD hr.units) ok_eq (ve_callB call_len_dT ok_lenT (by rfl) T.n_len boot_len (va_cons (ve_fz (ve_dcT (p := true) (pk := true) (sk := false) (pv := true) (own := [("rule", 1)]) (hu0 hr) (by rfl) sc_are_rules.nd (vi_list (by rfl) (ve_var (pv 0))) (blkOk_by (own := [("rule", 1)]) (N := ["rules", "rule"]) (sc := d_are_rules.scope) (by decide +kernel)) (fun _ _ _ _ _ _ => (vg_name (i := 1) sc_are_rules.nd (by rfl) (by first | exact Or.inl rfl | exact Or.inr rfl) (by exact fun z => absurd (show some false = some true from z) (by decide)))) (fun _ _ _ _ _ => vts0) (fun _ _ _ _ _ => (ve_var (pv 1))) (fun _ _ _ _ _ => (ve_c pe_bl (fun _ _ => .bl _))))) va_nil)) (ve_callB (call_lenV (by rfl)) ok_len (by rfl) T.n_len boot_len (va_cons (ve_var (pv 0)) va_nil)) (nomark _)))))
def m_Bound_init : MS :=
    (mSeq (mIfS (mNot (mCall f_is_between [.v ⟨true, true, (mStab (mVar 1))⟩, .v ⟨true, true, (mC (.int 1))⟩, .v ⟨true, true, (mC (.int 8))⟩])) mNever mNext)
    (mSeq (mIfS (mNot (mCall f_is_between [.v ⟨true, true, (mStab (mVar 2))⟩, .v ⟨true, true, (mC (.int 1))⟩, .v ⟨true, true, (mC (.int 12))⟩])) mNever mNext)
    (mSeq (mIfS (mOr (mNot (mFun semIsiT [(mVar 3), (mTup [(mC (.ty "list")), (mC (.ty "tuple"))])])) (mNot (mCall f_are_rules [.v ⟨true, true, (mFz (mFun semAdd [(mLst [(mTup [(mStab (mVar 1)), (mStab (mVar 2))])]), (mFun semList [(mVar 3)])]))⟩]))) mNever mNext)
    (mSetF [0] 0 "ruled" (mFun semAdd [(mLst [(mTup [(mStab (mVar 1)), (mStab (mVar 2))])]), (mFun semList [(mVar 3)])])))))
def f_Bound_init : MF := mBody [true, false, false, false] 4 m_Bound_init
theorem ok_Bound_init {P : Program} {w : World} {K : PySem.W.Frag} {mg : Str → Option Value} {base : Heap} (T : Txt K mg w) (F : ∃ fd, FunV K d_Bound_init fd) (h_is_between : Ok P w K mg base (gam K w) d_is_between 2 ["value", "least", "most"] f_is_between) (h_are_rules : Ok P w K mg base (gam K w) d_are_rules 4 ["rules"] f_are_rules) : Ok P w K mg base (gam K w) d_Bound_init 5 ["self", "most", "every", "also"] f_Bound_init := by
 obtain ⟨fd_is_between, F_is_between, G_is_between⟩ := h_is_between
 obtain ⟨fd_are_rules, F_are_rules, G_are_rules⟩ := h_are_rules
 obtain ⟨ds_are_rules_1, v_are_rules_1, b_are_rules_1⟩ := bnd_are_rules_1 F_are_rules
 obtain ⟨ds_is_between_3, v_is_between_3, b_is_between_3⟩ := bnd_is_between_3 F_is_between
 cases v_are_rules_1
 have v_are_rules_1 : Vals (([] : List (V × Val)).map (·.1)) [] := .nil
 cases v_is_between_3
 have v_is_between_3 : Vals (([] : List (V × Val)).map (·.1)) [] := .nil
 refine ok_of F sc_Bound_init rfl fun cdv A outer s H E hr tk hp σ0 => ?_
 exact (vss_cons (vs_if (vt_not (vt_val (ve_call (cal_fn G_is_between (hr.mono (by first | decide | omega)) b_is_between_3 v_is_between_3 tk) (by rfl) T.g_is_between F_is_between.kp (vg_v (ve_stab (ve_var (pv 1))) (vg_v (ve_c pe_int (fun _ _ => .int _)) (vg_v (ve_c (pe_glob (v := .int 8) (by rfl) T.c_MOST_MOST.choose_spec ⟨_, rfl⟩) (fun _ _ => .int _)) vg_nil))) dfl_is_between_3))) vss_never vss_nil)
     (vss_cons (vs_if (vt_not (vt_val (ve_call (cal_fn G_is_between (hr.mono (by first | decide | omega)) b_is_between_3 v_is_between_3 tk) (by rfl) T.g_is_between F_is_between.kp (vg_v (ve_stab (ve_var (pv 2))) (vg_v (ve_c pe_int (fun _ _ => .int _)) (vg_v (ve_c (pe_glob (v := .int 12) (by rfl) T.c_MOST_EVERY.choose_spec ⟨_, rfl⟩) (fun _ _ => .int _)) vg_nil))) dfl_is_between_3))) vss_never vss_nil)
     (vss_cons (vs_if (vt_of (vw_or (vt_not (vt_val (ve_callB call_isiT ok_isiT (by rfl) T.n_isinstance boot_isinstance (va_cons (ve_var (pv 3)) (va_cons (ve_tup (va_cons (ve_c (pe_bltn (by rfl) T.n_list boot_list (by rfl)) (fun _ _ => .ty _)) (va_cons (ve_c (pe_bltn (by rfl) T.n_tuple boot_tuple (by rfl)) (fun _ _ => .ty _)) va_nil))) va_nil))))) (vw_or1 (vt_not (vt_val (ve_call (cal_fn G_are_rules (hr.mono (by first | decide | omega)) b_are_rules_1 v_are_rules_1 tk) (by rfl) T.g_are_rules F_are_rules.kp (vg_v (ve_fz (ve_bin (op_addV (by rfl)) ok_add (ve_lst (va_cons (ve_tup (va_cons (ve_stab (ve_var (pv 1))) (va_cons (ve_stab (ve_var (pv 2))) va_nil))) va_nil)) (ve_callTy call_list_of (ok_list (by rfl)) (by rfl) T.n_list boot_list (va_cons (ve_var (pv 3)) va_nil)))) vg_nil) dfl_are_rules_1)))))) vss_never vss_nil)
     (vss_one (vs_setF (cs := [0]) (i := 0) (fld_ruled T) (pv 0) (ve_bin (op_addV (by rfl)) ok_add (ve_lst (va_cons (ve_tup (va_cons (ve_stab (ve_var (pv 1))) (va_cons (ve_stab (ve_var (pv 2))) va_nil))) va_nil)) (ve_callTy call_list_of (ok_list (by rfl)) (by rfl) T.n_list boot_list (va_cons (ve_var (pv 3)) va_nil))))))))
def m_may_come_b1 : MS :=
    (mSeq (mIfS (mFun (semCmp fun i j => decide (j < i)) [(mVar 6), (mC (.int 0))]) (mSet 5 (mFun semAdd [(mVar 5), (mFun semIx [(mVar 1), (mFun semSub [(mFun semLen [(mVar 1)]), (mVar 6)])])])) mNext)
    (mSet 2 (mFun semMin2 [(mFun semInt [(mVar 2)]), (mFun semInt [(mFun semSub [(mFun semAdd [(mVar 3), (mFun semDiv [(mVar 6), (mVar 4)])]), (mVar 5)])])])))
def m_may_come_b2 : MS :=
    (mSeq (mSet 5 (mC (.int 0)))
    (mFor (mRng1 (mFun semAdd [(mFun semLen [(mVar 1)]), (mC (.int 1))])) (gV 6) m_may_come_b1))
def m_may_come : MS :=
    (mSeq (mSet 2 (mC (.int 99)))
    (mSeq (mFor (mItemsL (mVar 0)) (gTupV (gConsV (gV 3) (gConsV (gV 4) gNilV)) 2) m_may_come_b2)
    (mRet (mStab (mVar 2)))))
def f_may_come : MF := mBody [false, false] 7 m_may_come
theorem ok_may_come {P : Program} {w : World} {K : PySem.W.Frag} {mg : Str → Option Value} {base : Heap} (T : Txt K mg w) (F : ∃ fd, FunV K d_may_come fd)  : Ok P w K mg base (gam K w) d_may_come 1 ["_law_rules", "_law_counts"] f_may_come := by
 refine ok_of F sc_may_come rfl fun cdv A outer s H E hr tk hp σ0 => ?_
 exact (vss_cons (vs_set (i := 2) sc_may_come.nd (by rfl) (by first | exact Or.inl rfl | exact Or.inr rfl) (ve_c pe_int (fun _ _ => .int _)))
     (vss_cons (vs_for hp (by rfl) (vi_list (by rfl) (ve_var (pv 0))) (vg_tup (n := 2) (by rfl) (by rfl) (vgs_cons (vg_name (i := 3) sc_may_come.nd (by rfl) (by first | exact Or.inl rfl | exact Or.inr rfl)) (vgs_cons (vg_name (i := 4) sc_may_come.nd (by rfl) (by first | exact Or.inl rfl | exact Or.inr rfl)) vgs_nil))) (vss_cons (vs_set (i := 5) sc_may_come.nd (by rfl) (by first | exact Or.inl rfl | exact Or.inr rfl) (ve_c pe_int (fun _ _ => .int _)))
     (vss_one (vs_for hp (by rfl) (vi_rng1 (by rfl) T.n_range (ve_bin (op_addV (by rfl)) ok_add (ve_callB (call_lenV (by rfl)) ok_len (by rfl) T.n_len boot_len (va_cons (ve_var (pv 1)) va_nil)) (ve_c pe_int (fun _ _ => .int _)))) (vg_name (i := 6) sc_may_come.nd (by rfl) (by first | exact Or.inl rfl | exact Or.inr rfl)) (vss_cons (vs_if (vt_cmp op_gt ok_cmp (ve_var (pv 6)) (ve_c pe_int (fun _ _ => .int _)) (nomark _)) (vss_one (vs_set (i := 5) sc_may_come.nd (by rfl) (by first | exact Or.inl rfl | exact Or.inr rfl) (ve_bin (op_addV (by rfl)) ok_add (ve_var (pv 5)) (ve_ix (ix_any (by rfl) (by rfl) (hu_g hr)) ok_ix (ve_var (pv 1)) (ve_bin op_sub ok_sub (ve_callB (call_lenV (by rfl)) ok_len (by rfl) T.n_len boot_len (va_cons (ve_var (pv 1)) va_nil)) (ve_var (pv 6))) (fun _ _ => (by rfl)))))) vss_nil)
     (vss_one (vs_set (i := 2) sc_may_come.nd (by rfl) (by first | exact Or.inl rfl | exact Or.inr rfl) (ve_callB (call_min2 (by rfl)) ok_min2 (by rfl) T.n_min boot_min (va_cons (ve_callTy call_int1 ok_int (by rfl) T.n_int boot_int (va_cons (ve_var (pv 2)) va_nil)) (va_cons (ve_callTy call_int1 ok_int (by rfl) T.n_int boot_int (va_cons (ve_bin op_sub ok_sub (ve_bin (op_addV (by rfl)) ok_add (ve_var (pv 3)) (ve_bin op_fdivW ok_div (ve_var (pv 6)) (ve_var (pv 4)))) (ve_var (pv 5))) va_nil)) va_nil))))))))))
     (vss_one (vs_ret (ve_stab (ve_var (pv 2)))))))
def m_all_b1 : MS :=
    (mSet 4 (mFz (mFun semAdd [(mStab (mVar 4)), (mLc (mRng1 (mFun semAdd [(mCall f_may_come [.v ⟨true, true, (mStab (mVar 0))⟩, .v ⟨true, true, (mStab (mVar 5))⟩]), (mC (.int 1))])) (gV 6) mYes (mFz (mFun semAdd [(mVar 5), (mLst [(mStab (mVar 6))])])) [6])])))
def m_all_b2 : MS :=
    (mSeq (mSet 4 (mFz (mLst [])))
    (mSeq (mFor (mItemsL (mVar 2)) (gV 5) m_all_b1)
    (mSet 2 (mStab (mVar 4)))))
def m_all : MS :=
    (mSeq (mSet 2 (mFz (mLst [(mFz (mLst []))])))
    (mSeq (mFor (mRng1 (mVar 1)) (gV 3) m_all_b2)
    (mRet (mStab (mVar 2)))))
def f_all : MF := mBody [false, false] 7 m_all
theorem ok_all {P : Program} {w : World} {K : PySem.W.Frag} {mg : Str → Option Value} {base : Heap} (T : Txt K mg w) (F : ∃ fd, FunV K d_all fd) (h_may_come : Ok P w K mg base (gam K w) d_may_come 1 ["_law_rules", "_law_counts"] f_may_come) : Ok P w K mg base (gam K w) d_all 2 ["_law_rules", "_law_size"] f_all := by
 obtain ⟨fd_may_come, F_may_come, G_may_come⟩ := h_may_come
 obtain ⟨ds_may_come_2, v_may_come_2, b_may_come_2⟩ := bnd_may_come_2 F_may_come
 cases v_may_come_2
 have v_may_come_2 : Vals (([] : List (V × Val)).map (·.1)) [] := .nil
 refine ok_of F sc_all rfl fun cdv A outer s H E hr tk hp σ0 => ?_
 exact (vss_cons (vs_set (i := 2) sc_all.nd (by rfl) (by first | exact Or.inl rfl | exact Or.inr rfl) (ve_fz (ve_lst (va_cons (ve_fz (ve_lst va_nil)) va_nil))))
     (vss_cons (vs_for hp (by rfl) (vi_rng1 (by rfl) T.n_range (ve_var (pv 1))) (vg_name (i := 3) sc_all.nd (by rfl) (by first | exact Or.inl rfl | exact Or.inr rfl)) (vss_cons (vs_set (i := 4) sc_all.nd (by rfl) (by first | exact Or.inl rfl | exact Or.inr rfl) (ve_fz (ve_lst va_nil)))
     (vss_cons (vs_for hp (by rfl) (vi_list (by rfl) (ve_var (pv 2))) (vg_name (i := 5) sc_all.nd (by rfl) (by first | exact Or.inl rfl | exact Or.inr rfl)) (vss_one (vs_set (i := 4) sc_all.nd (by rfl) (by first | exact Or.inl rfl | exact Or.inr rfl) (ve_fz (ve_bin (op_addV (by rfl)) ok_add (ve_stab (ve_var (pv 4))) (ve_lc (p := true) (sb := true) (own := [("_law_count", 6)]) (by rfl) sc_all.nd (vi_rng1 (by rfl) T.n_range (ve_bin (op_addV (by rfl)) ok_add (ve_call (cal_fn G_may_come (hr.mono (by first | decide | omega)) b_may_come_2 v_may_come_2 tk) (by rfl) T.g_may_come F_may_come.kp (vg_v (ve_stab (ve_var (pv 0))) (vg_v (ve_stab (ve_var (pv 5))) vg_nil)) dfl_may_come_2) (ve_c pe_int (fun _ _ => .int _)))) (blkOk_by (own := [("_law_count", 6)]) (N := ["_law_rules", "_law_size", "_law_found", "_law_turn", "_law_more", "_law_counts", "_law_count"]) (sc := d_all.scope) (by decide +kernel)) (fun _ _ _ _ _ _ => (vg_name (i := 6) sc_all.nd (by rfl) (by first | exact Or.inl rfl | exact Or.inr rfl) (by exact fun z => absurd (show some false = some true from z) (by decide)))) (fun _ _ _ _ _ => vts0) (fun _ _ _ _ _ => (ve_fz (ve_bin (op_addV (by rfl)) ok_add (ve_var (pv 5)) (ve_lst (va_cons (ve_stab (ve_var (pv 6))) va_nil)))))))))))
     (vss_one (vs_set (i := 2) sc_all.nd (by rfl) (by first | exact Or.inl rfl | exact Or.inr rfl) (ve_stab (ve_var (pv 4))))))))
     (vss_one (vs_ret (ve_stab (ve_var (pv 2)))))))
def m_bound_of : MS :=
    (mRet (mCall (mMake 0 f_Bound_init) [.v ⟨true, true, (mFun semIx [(mFun semIx [(mVar 0), (mC (.int 0))]), (mC (.int 0))])⟩, .v ⟨true, true, (mFun semIx [(mFun semIx [(mVar 0), (mC (.int 0))]), (mC (.int 1))])⟩, .v ⟨true, true, (mFz (mFun semSlL [(mVar 0), (mC (.int 1))]))⟩]))
def f_bound_of : MF := mBody [false] 1 m_bound_of
theorem ok_bound_of {P : Program} {w : World} {K : PySem.W.Frag} {mg : Str → Option Value} {base : Heap} (T : Txt K mg w) (F : ∃ fd, FunV K d_bound_of fd) (h_Bound_init : Ok P w K mg base (gam K w) d_Bound_init 5 ["self", "most", "every", "also"] f_Bound_init) : Ok P w K mg base (gam K w) d_bound_of 7 ["rules"] f_bound_of := by
 obtain ⟨fd_Bound_init, F_Bound_init, G_Bound_init⟩ := h_Bound_init
 have kb_Bound_init_2_all_b := kb_Bound_init_2_all F_Bound_init
 refine ok_of F sc_bound_of rfl fun cdv A outer s H E hr tk hp σ0 => ?_
 exact (vss_one (vs_ret (ve_makeK1 (c := 0) (os1 := [⟨true, true, (mFun semIx [(mFun semIx [(mVar 0), (mC (.int 0))]), (mC (.int 0))])⟩, ⟨true, true, (mFun semIx [(mFun semIx [(mVar 0), (mC (.int 0))]), (mC (.int 1))])⟩]) (as := [.v ⟨true, true, (mFun semIx [(mFun semIx [(mVar 0), (mC (.int 0))]), (mC (.int 0))])⟩, .v ⟨true, true, (mFun semIx [(mFun semIx [(mVar 0), (mC (.int 0))]), (mC (.int 1))])⟩, .v ⟨true, true, (mFz (mFun semSlL [(mVar 0), (mC (.int 1))]))⟩]) (by rfl) T.mk_Bound G_Bound_init (hr.mono (by first | decide | omega)) kb_Bound_init_2_all_b tk (by rfl) T.g_Bound (va_cons (ve_ix (ix_any (by rfl) (by rfl) (hu_g hr)) ok_ix (ve_ix (ix_any (by rfl) (by rfl) (hu_g hr)) ok_ix (ve_var (pv 0)) (ve_c pe_int (fun _ _ => .int _)) (fun _ _ => (by rfl))) (ve_c pe_int (fun _ _ => .int _)) (fun _ _ => (by rfl))) (va_cons (ve_ix (ix_any (by rfl) (by rfl) (hu_g hr)) ok_ix (ve_ix (ix_any (by rfl) (by rfl) (hu_g hr)) ok_ix (ve_var (pv 0)) (ve_c pe_int (fun _ _ => .int _)) (fun _ _ => (by rfl))) (ve_c pe_int (fun _ _ => .int _)) (fun _ _ => (by rfl))) va_nil)) (vk_cons (ve_fz (ve_slL (by rfl) (ve_var (pv 0)) (ve_c pe_int (fun _ _ => .int _)))) vk_nil) trivial (by rfl) (fun y xs zs hx hz => match xs, zs, hx, hz with | [_, _], [_], _, _ => by rfl))))
def m_Bound_of : MS :=
    (mSeq (mIfS (mOr (mNot (mFun (semIsi sub) [(mVar 0), (mC (.ty "list"))])) (mNot (mCall f_are_rules [.v ⟨true, true, (mStab (mVar 0))⟩]))) mNever mNext)
    (mRet (mCall f_bound_of [.v ⟨true, true, (mStab (mVar 0))⟩])))
def f_Bound_of : MF := mBody [false] 1 m_Bound_of
theorem ok_Bound_of {P : Program} {w : World} {K : PySem.W.Frag} {mg : Str → Option Value} {base : Heap} (T : Txt K mg w) (F : ∃ fd, FunV K d_Bound_of fd) (h_are_rules : Ok P w K mg base (gam K w) d_are_rules 4 ["rules"] f_are_rules) (h_bound_of : Ok P w K mg base (gam K w) d_bound_of 7 ["rules"] f_bound_of) : Ok P w K mg base (gam K w) d_Bound_of 8 ["rules"] f_Bound_of := by
 obtain ⟨fd_are_rules, F_are_rules, G_are_rules⟩ := h_are_rules
 obtain ⟨fd_bound_of, F_bound_of, G_bound_of⟩ := h_bound_of
 obtain ⟨ds_are_rules_1, v_are_rules_1, b_are_rules_1⟩ := bnd_are_rules_1 F_are_rules
 obtain ⟨ds_bound_of_1, v_bound_of_1, b_bound_of_1⟩ := bnd_bound_of_1 F_bound_of
 cases v_are_rules_1
 have v_are_rules_1 : Vals (([] : List (V × Val)).map (·.1)) [] := .nil
 cases v_bound_of_1
 have v_bound_of_1 : Vals (([] : List (V × Val)).map (·.1)) [] := .nil
 refine ok_of F sc_Bound_of rfl fun cdv A outer s H E hr tk hp σ0 => ?_
 exact (vss_cons (vs_if (vt_of (vw_or (vt_not (vt_val (ve_callB call_isi (ok_isi (isi_facts T)) (by rfl) T.n_isinstance boot_isinstance (va_cons (ve_var (pv 0)) (va_cons (ve_c (pe_bltn (by rfl) T.n_list boot_list (by rfl)) (fun _ _ => .ty _)) va_nil))))) (vw_or1 (vt_not (vt_val (ve_call (cal_fn G_are_rules (hr.mono (by first | decide | omega)) b_are_rules_1 v_are_rules_1 tk) (by rfl) T.g_are_rules F_are_rules.kp (vg_v (ve_stab (ve_var (pv 0))) vg_nil) dfl_are_rules_1)))))) vss_never vss_nil)
     (vss_one (vs_ret (ve_call (cal_fn G_bound_of (hr.mono (by first | decide | omega)) b_bound_of_1 v_bound_of_1 tk) (by rfl) T.g_bound_of F_bound_of.kp (vg_v (ve_stab (ve_var (pv 0))) vg_nil) dfl_bound_of_1))))
def m_bound : MS :=
    (mRet (mCall f_Bound_of [.v ⟨true, true, (mFz (mFun semList [(mVar 0)]))⟩]))
def f_bound : MF := mBody [false] 1 m_bound
theorem ok_bound {P : Program} {w : World} {K : PySem.W.Frag} {mg : Str → Option Value} {base : Heap} (T : Txt K mg w) (F : ∃ fd, FunV K d_bound fd) (h_Bound_of : Ok P w K mg base (gam K w) d_Bound_of 8 ["rules"] f_Bound_of) : Ok P w K mg base (gam K w) d_bound 9 ["_law_rules"] f_bound := by
 obtain ⟨fd_Bound_of, F_Bound_of, G_Bound_of⟩ := h_Bound_of
 obtain ⟨ds_Bound_of_1, v_Bound_of_1, b_Bound_of_1⟩ := bnd_Bound_of_1 F_Bound_of
 cases v_Bound_of_1
 have v_Bound_of_1 : Vals (([] : List (V × Val)).map (·.1)) [] := .nil
 refine ok_of F sc_bound rfl fun cdv A outer s H E hr tk hp σ0 => ?_
 exact (vss_one (vs_ret (ve_static T.sm_Bound_of (pe_glob (by rfl) T.g_Bound (by rfl)) (cal_fn G_Bound_of (hr.mono (by first | decide | omega)) b_Bound_of_1 v_Bound_of_1 tk) (vg_v (ve_fz (ve_callTy call_list_of (ok_list (by rfl)) (by rfl) T.n_list boot_list (va_cons (ve_var (pv 0)) va_nil))) vg_nil) dfl_Bound_of_1)))
def m_draw : MS :=
    (mSeq (mIfS (mFun (semCmp fun i j => decide (j < i)) [(mFun semIx [(mVar 0), (mC (.int 0))]), (mC (.int 0))]) (mSeq (mSet 2 (mFun semMod [(mFun semInt [(mFun semIx [(mVar 0), (mC (.int 0))])]), (mVar 1)]))
    (mSeq (mPutL 0 (mC (.int 0)) (mFun semDiv [(mFun semIx [(mVar 0), (mC (.int 0))]), (mVar 1)]))
    (mRet (mStab (mVar 2))))) mNext)
    (mSeq (mPutL 0 (mC (.int 1)) (mFun semMod [(mFun semInt [(mFun semAdd [(mFun semMul [(mFun semIx [(mVar 0), (mC (.int 1))]), (mC (.int 39373))]), (mC (.int 7))])]), (mC (.int 2147483647))]))
    (mRet (mFun semMod [(mFun semInt [(mFun semDiv [(mFun semMod [(mFun semInt [(mFun semMul [(mFun semIx [(mVar 0), (mC (.int 1))]), (mFun semIx [(mVar 0), (mC (.int 1))])])]), (mC (.int 2147483629))]), (mC (.int 32))])]), (mVar 1)]))))
def f_draw : MF := mBody [true, false] 3 m_draw
theorem ok_draw {P : Program} {w : World} {K : PySem.W.Frag} {mg : Str → Option Value} {base : Heap} (T : Txt K mg w) (F : ∃ fd, FunV K d_draw fd)  : Ok P w K mg base (gam K w) d_draw 1 ["_law_stream_here", "_law_count"] f_draw := by
 refine ok_of F sc_draw rfl fun cdv A outer s H E hr tk hp σ0 => ?_
 exact (vss_cons (vs_if (vt_cmp op_gt ok_cmp (ve_ix (ix_any (by rfl) (by rfl) (hu_g hr)) ok_ix (ve_var (pv 0)) (ve_c pe_int (fun _ _ => .int _)) (fun _ _ => (by rfl))) (ve_c pe_int (fun _ _ => .int _)) (nomark _)) (vss_cons (vs_set (i := 2) sc_draw.nd (by rfl) (by first | exact Or.inl rfl | exact Or.inr rfl) (ve_bin op_mod ok_mod (ve_callTy call_int1 ok_int (by rfl) T.n_int boot_int (va_cons (ve_ix (ix_any (by rfl) (by rfl) (hu_g hr)) ok_ix (ve_var (pv 0)) (ve_c pe_int (fun _ _ => .int _)) (fun _ _ => (by rfl))) va_nil)) (ve_var (pv 1))))
     (vss_cons (vs_putL (i := 0) (pv 0) (ve_c pe_int (fun _ _ => .int _)) (ve_bin op_fdivW ok_div (ve_ix (ix_any (by rfl) (by rfl) (hu_g hr)) ok_ix (ve_var (pv 0)) (ve_c pe_int (fun _ _ => .int _)) (fun _ _ => (by rfl))) (ve_var (pv 1))))
     (vss_one (vs_ret (ve_stab (ve_var (pv 2))))))) vss_nil)
     (vss_cons (vs_putL (i := 0) (pv 0) (ve_c pe_int (fun _ _ => .int _)) (ve_bin op_mod ok_mod (ve_callTy call_int1 ok_int (by rfl) T.n_int boot_int (va_cons (ve_bin (op_addV (by rfl)) ok_add (ve_bin (op_mulV (by rfl)) ok_mul (ve_ix (ix_any (by rfl) (by rfl) (hu_g hr)) ok_ix (ve_var (pv 0)) (ve_c pe_int (fun _ _ => .int _)) (fun _ _ => (by rfl))) (ve_c pe_int (fun _ _ => .int _))) (ve_c pe_int (fun _ _ => .int _))) va_nil)) (ve_c pe_int (fun _ _ => .int _))))
     (vss_one (vs_ret (ve_bin op_mod ok_mod (ve_callTy call_int1 ok_int (by rfl) T.n_int boot_int (va_cons (ve_bin op_fdivW ok_div (ve_bin op_mod ok_mod (ve_callTy call_int1 ok_int (by rfl) T.n_int boot_int (va_cons (ve_bin (op_mulV (by rfl)) ok_mul (ve_ix (ix_any (by rfl) (by rfl) (hu_g hr)) ok_ix (ve_var (pv 0)) (ve_c pe_int (fun _ _ => .int _)) (fun _ _ => (by rfl))) (ve_ix (ix_any (by rfl) (by rfl) (hu_g hr)) ok_ix (ve_var (pv 0)) (ve_c pe_int (fun _ _ => .int _)) (fun _ _ => (by rfl)))) va_nil)) (ve_c pe_int (fun _ _ => .int _))) (ve_c pe_int (fun _ _ => .int _))) va_nil)) (ve_var (pv 1)))))))
def m_Bound_rules : MS :=
    (mRet (mFun semList [(mFun (semFld [0] "ruled") [(mVar 0)])]))
def f_Bound_rules : MF := mBody [true] 1 m_Bound_rules
theorem ok_Bound_rules {P : Program} {w : World} {K : PySem.W.Frag} {mg : Str → Option Value} {base : Heap} (T : Txt K mg w) (F : ∃ fd, FunV K d_Bound_rules fd)  : Ok P w K mg base (gam K w) d_Bound_rules 1 ["self"] f_Bound_rules := by
 refine ok_of F sc_Bound_rules rfl fun cdv A outer s H E hr tk hp σ0 => ?_
 exact (vss_one (vs_ret (ve_callTy call_list_of (ok_list (by rfl)) (by rfl) T.n_list boot_list (va_cons (ve_fld (cs := [0]) (fld_ruled T) (ve_var (pv 0))) va_nil))))
def m_allowed_at : MS :=
    (mRet (mFun semMinL [(mLc (mZipM (mVar 1) (mVar 0)) (gTupV (gConsV (gV 2) (gConsV (gTupV (gConsV (gV 3) (gConsV (gV 4) gNilV)) 2) gNilV)) 2) mYes (mFun semDiv [(mFun semSub [(mFun semMul [(mVar 3), (mVar 4)]), (mVar 2)]), (mVar 4)]) [2, 3, 4])]))
def f_allowed_at : MF := mBody [false, false] 5 m_allowed_at
theorem ok_allowed_at {P : Program} {w : World} {K : PySem.W.Frag} {mg : Str → Option Value} {base : Heap} (T : Txt K mg w) (F : ∃ fd, FunV K d_allowed_at fd)  : Ok P w K mg base (gam K w) d_allowed_at 1 ["rules", "levels"] f_allowed_at := by
 refine ok_of F sc_allowed_at rfl fun cdv A outer s H E hr tk hp σ0 => ?_
 exact (vss_one (vs_ret (ve_callB (cr_min (by rfl)) (ok_minL (by rfl)) (by rfl) T.n_min boot_min (va_cons (ve_lc (p := true) (sb := true) (own := [("level", 2), ("most", 3), ("every", 4)]) (by rfl) sc_allowed_at.nd (vi_zipM (by rfl) (by rfl) T.n_zip (ve_var (pv 1)) (ve_var (pv 0))) (blkOk_by (own := [("level", 2), ("most", 3), ("every", 4)]) (N := ["rules", "levels", "level", "most", "every"]) (sc := d_allowed_at.scope) (by decide +kernel)) (fun _ _ _ _ _ _ => (vg_tup (n := 2) (by rfl) (by rfl) (vgs_cons (vg_name (i := 2) sc_allowed_at.nd (by rfl) (by first | exact Or.inl rfl | exact Or.inr rfl) (by exact fun z => absurd (show some false = some true from z) (by decide))) (vgs_cons (vg_tup (n := 2) (by rfl) (by rfl) (vgs_cons (vg_name (i := 3) sc_allowed_at.nd (by rfl) (by first | exact Or.inl rfl | exact Or.inr rfl) (by exact fun z => absurd (show some false = some true from z) (by decide))) (vgs_cons (vg_name (i := 4) sc_allowed_at.nd (by rfl) (by first | exact Or.inl rfl | exact Or.inr rfl) (by exact fun z => absurd (show some false = some true from z) (by decide))) vgs_nil))) vgs_nil)))) (fun _ _ _ _ _ => vts0) (fun _ _ _ _ _ => (ve_bin op_fdivW ok_div (ve_bin op_sub ok_sub (ve_bin (op_mulV (by rfl)) ok_mul (ve_var (pv 3)) (ve_var (pv 4))) (ve_var (pv 2))) (ve_var (pv 4))))) va_nil))))
def m_check_between : MS :=
    (mIfS (mNot (mCall f_is_between [.v ⟨true, true, (mStab (mVar 0))⟩, .v ⟨true, true, (mStab (mVar 1))⟩, .v ⟨true, true, (mStab (mVar 2))⟩])) (mRaise 0 "value" (mStab (mVar 0))) mNext)
def f_check_between : MF := mBody [false, false, false] 3 m_check_between
theorem ok_check_between {P : Program} {w : World} {K : PySem.W.Frag} {mg : Str → Option Value} {base : Heap} (T : Txt K mg w) (F : ∃ fd, FunV K d_check_between fd) (h_is_between : Ok P w K mg base (gam K w) d_is_between 2 ["value", "least", "most"] f_is_between) (hx_InvalidNumber : ∃ fd, FnOk P w K mg base (L2.CX P w) 1 (d_InvalidNumber_init.ad K) fd ["self", "value"] (spE K ((He.ga K "InvalidNumber")) "value") ∧ Binds K fd ["self", "value"] []) : Ok P w K mg base (gam K w) d_check_between 3 ["value", "least", "most"] f_check_between := by
 obtain ⟨fx_InvalidNumber, X_InvalidNumber, Y_InvalidNumber⟩ := hx_InvalidNumber
 obtain ⟨fd_is_between, F_is_between, G_is_between⟩ := h_is_between
 obtain ⟨ds_is_between_3, v_is_between_3, b_is_between_3⟩ := bnd_is_between_3 F_is_between
 cases v_is_between_3
 have v_is_between_3 : Vals (([] : List (V × Val)).map (·.1)) [] := .nil
 refine ok_of F sc_check_between rfl fun cdv A outer s H E hr tk hp σ0 => ?_
 exact (vss_one (vs_if (vt_not (vt_val (ve_call (cal_fn G_is_between (hr.mono (by first | decide | omega)) b_is_between_3 v_is_between_3 tk) (by rfl) T.g_is_between F_is_between.kp (vg_v (ve_stab (ve_var (pv 0))) (vg_v (ve_stab (ve_var (pv 1))) (vg_v (ve_stab (ve_var (pv 2))) vg_nil))) dfl_is_between_3))) (vss_one (vs_raise rfl tk T.ex_InvalidNumber.oex T.ex_InvalidNumber.iC T.ex_InvalidNumber.tI X_InvalidNumber (hr.toRoom.mono (by first | decide | omega)) Y_InvalidNumber (by rfl) T.g_InvalidNumber (by rfl) (ve_stab (ve_var (pv 0))))) vss_nil))
def m_check_bound : MS :=
    (mIfS (mNot (mFun (semIsi sub) [(mVar 0), (mC (.cn 0))])) mNever mNext)
def f_check_bound : MF := mBody [false] 1 m_check_bound
theorem ok_check_bound {P : Program} {w : World} {K : PySem.W.Frag} {mg : Str → Option Value} {base : Heap} (T : Txt K mg w) (F : ∃ fd, FunV K d_check_bound fd)  : Ok P w K mg base (gam K w) d_check_bound 1 ["bound"] f_check_bound := by
 refine ok_of F sc_check_bound rfl fun cdv A outer s H E hr tk hp σ0 => ?_
 exact (vss_one (vs_if (vt_not (vt_val (ve_callB call_isi (ok_isi (isi_facts T)) (by rfl) T.n_isinstance boot_isinstance (va_cons (ve_var (pv 0)) (va_cons (ve_c (pe_glob (by rfl) T.g_Bound (by rfl)) (fun _ _ => .cn (by rfl))) va_nil))))) vss_never vss_nil))
def m_levels_behind : MS :=
    (mRet (mFun semTuple [(mLc (mZipM (mVar 1) (mVar 0)) (gTupV (gConsV (gV 3) (gConsV (gTupV (gConsV (gV 4) (gConsV (gV 5) gNilV)) 2) gNilV)) 2) mYes (mFun semMax2 [(mC (.int 0)), (mFun semSub [(mFun semAdd [(mVar 3), (mFun semMul [(mVar 2), (mVar 5)])]), (mC (.int 1))])]) [3, 4, 5])]))
def f_levels_behind : MF := mBody [false, false, false] 6 m_levels_behind
theorem ok_levels_behind {P : Program} {w : World} {K : PySem.W.Frag} {mg : Str → Option Value} {base : Heap} (T : Txt K mg w) (F : ∃ fd, FunV K d_levels_behind fd)  : Ok P w K mg base (gam K w) d_levels_behind 1 ["rules", "levels", "count"] f_levels_behind := by
 refine ok_of F sc_levels_behind rfl fun cdv A outer s H E hr tk hp σ0 => ?_
 exact (vss_one (vs_ret (ve_callTy call_tuple_of (VL.ok_tuple (by rfl)) (by rfl) T.n_tuple boot_tuple (va_cons (ve_lc (p := true) (sb := true) (own := [("level", 3), ("most", 4), ("every", 5)]) (by rfl) sc_levels_behind.nd (vi_zipM (by rfl) (by rfl) T.n_zip (ve_var (pv 1)) (ve_var (pv 0))) (blkOk_by (own := [("level", 3), ("most", 4), ("every", 5)]) (N := ["rules", "levels", "count", "level", "most", "every"]) (sc := d_levels_behind.scope) (by decide +kernel)) (fun _ _ _ _ _ _ => (vg_tup (n := 2) (by rfl) (by rfl) (vgs_cons (vg_name (i := 3) sc_levels_behind.nd (by rfl) (by first | exact Or.inl rfl | exact Or.inr rfl) (by exact fun z => absurd (show some false = some true from z) (by decide))) (vgs_cons (vg_tup (n := 2) (by rfl) (by rfl) (vgs_cons (vg_name (i := 4) sc_levels_behind.nd (by rfl) (by first | exact Or.inl rfl | exact Or.inr rfl) (by exact fun z => absurd (show some false = some true from z) (by decide))) (vgs_cons (vg_name (i := 5) sc_levels_behind.nd (by rfl) (by first | exact Or.inl rfl | exact Or.inr rfl) (by exact fun z => absurd (show some false = some true from z) (by decide))) vgs_nil))) vgs_nil)))) (fun _ _ _ _ _ => vts0) (fun _ _ _ _ _ => (ve_callB (call_max2 (by rfl)) ok_max2 (by rfl) T.n_max boot_max (va_cons (ve_c pe_int (fun _ _ => .int _)) (va_cons (ve_bin op_sub ok_sub (ve_bin (op_addV (by rfl)) ok_add (ve_var (pv 3)) (ve_bin (op_mulV (by rfl)) ok_mul (ve_var (pv 2)) (ve_var (pv 5)))) (ve_c pe_int (fun _ _ => .int _))) va_nil))))) va_nil))))
def m_each_row_b1 : MGn :=
    (gSeqX (gPl (mAsg (mPopO 3) (gTupV (gConsV (gV 4) (gConsV (gV 5) gNilV)) 2)))
    (gSeqX (gIf (mFun semEq [(mFun semLen [(mVar 4)]), (mVar 1)]) (gSeqX (gYd (mMov 4))
    gNone) (gSeqX (gPl (mSet 6 (mFz (mFun semLR [(mFun semAdd [(mCall f_allowed_at [.v ⟨true, true, (mStab (mVar 2))⟩, .v ⟨true, true, (mStab (mVar 5))⟩]), (mC (.int 1))])]))))
    (gSeqX (gPl (mDrop (mLopN 3 fExtO (mLc (mItemsL (mFz (mFun semRev [(mVar 6)]))) (gV 7) mYes (mTup [(mFun semAdd [(mVar 4), (mLst [(mStab (mVar 7))])]), (mCall f_levels_behind [.v ⟨true, true, (mStab (mVar 2))⟩, .v ⟨true, true, (mStab (mVar 5))⟩, .v ⟨true, true, (mStab (mVar 7))⟩])]) [7]))))
    gNone)))
    gNone))
def m_each_row : MGn :=
    (gSeqX (gPl (mDrop (mCall f_check_bound [.v ⟨true, true, (mStab (mVar 0))⟩])))
    (gSeqX (gPl (mDrop (mCall f_check_between [.v ⟨true, true, (mStab (mVar 1))⟩, .v ⟨true, true, (mC (.int 0))⟩, .v ⟨true, true, (mC (.int 8))⟩])))
    (gSeqX (gPl (mSet 2 (mFz (mMethR 0 "rules" f_Bound_rules 0 []))))
    (gSeqX (gPl (mSet 3 (mLst [(mTup [(mLst []), (mFun semMulT [(mTup [(mC (.int 0))]), (mFun semLen [(mVar 2)])])])])))
    (gSeqX (gWhile (fun _ => 200000) (mFun semNe [(mVar 3), (mLst [])]) m_each_row_b1)
    gNone)))))
def f_each_row : MGF := gBody [false, false] 8 m_each_row
theorem ok_each_row {P : Program} {w : World} {K : PySem.W.Frag} {mg : Str → Option Value} {base : Heap} (T : Txt K mg w) (F : ∃ fd, FunV K d_each_row fd) (h_Bound_rules : Ok P w K mg base (gam K w) d_Bound_rules 1 ["self"] f_Bound_rules) (h_allowed_at : Ok P w K mg base (gam K w) d_allowed_at 1 ["rules", "levels"] f_allowed_at) (h_check_between : Ok P w K mg base (gam K w) d_check_between 3 ["value", "least", "most"] f_check_between) (h_check_bound : Ok P w K mg base (gam K w) d_check_bound 1 ["bound"] f_check_bound) (h_levels_behind : Ok P w K mg base (gam K w) d_levels_behind 1 ["rules", "levels", "count"] f_levels_behind) : OkX P w K mg base (gam K w) d_each_row 4 ["bound", "length"] f_each_row := by
 obtain ⟨fd_Bound_rules, F_Bound_rules, G_Bound_rules⟩ := h_Bound_rules
 obtain ⟨fd_allowed_at, F_allowed_at, G_allowed_at⟩ := h_allowed_at
 obtain ⟨fd_check_between, F_check_between, G_check_between⟩ := h_check_between
 obtain ⟨fd_check_bound, F_check_bound, G_check_bound⟩ := h_check_bound
 obtain ⟨fd_levels_behind, F_levels_behind, G_levels_behind⟩ := h_levels_behind
 obtain ⟨ds_Bound_rules_1, v_Bound_rules_1, b_Bound_rules_1⟩ := bnd_Bound_rules_1 F_Bound_rules
 obtain ⟨ds_allowed_at_2, v_allowed_at_2, b_allowed_at_2⟩ := bnd_allowed_at_2 F_allowed_at
 obtain ⟨ds_check_between_3, v_check_between_3, b_check_between_3⟩ := bnd_check_between_3 F_check_between
 obtain ⟨ds_check_bound_1, v_check_bound_1, b_check_bound_1⟩ := bnd_check_bound_1 F_check_bound
 obtain ⟨ds_levels_behind_3, v_levels_behind_3, b_levels_behind_3⟩ := bnd_levels_behind_3 F_levels_behind
 cases v_Bound_rules_1
 have v_Bound_rules_1 : Vals (([] : List (V × Val)).map (·.1)) [] := .nil
 cases v_allowed_at_2
 have v_allowed_at_2 : Vals (([] : List (V × Val)).map (·.1)) [] := .nil
 cases v_check_between_3
 have v_check_between_3 : Vals (([] : List (V × Val)).map (·.1)) [] := .nil
 cases v_check_bound_1
 have v_check_bound_1 : Vals (([] : List (V × Val)).map (·.1)) [] := .nil
 cases v_levels_behind_3
 have v_levels_behind_3 : Vals (([] : List (V × Val)).map (·.1)) [] := .nil
 refine okX_of F sc_each_row rfl fun cdv A outer L pn b0 H0 E0 R0 hr tk hp σ0 => ?_
 exact (vxs_cons (vx_vs (fun g => (vs_expr (ve_call (cal_fn G_check_bound (hr.mono (by first | decide | omega)) b_check_bound_1 v_check_bound_1 (tk g)) (by rfl) T.g_check_bound F_check_bound.kp (vg_v (ve_stab (ve_var (pv 0))) vg_nil) dfl_check_bound_1))))
     (vxs_cons (vx_vs (fun g => (vs_expr (ve_call (cal_fn G_check_between (hr.mono (by first | decide | omega)) b_check_between_3 v_check_between_3 (tk g)) (by rfl) T.g_check_between F_check_between.kp (vg_v (ve_stab (ve_var (pv 1))) (vg_v (ve_c pe_int (fun _ _ => .int _)) (vg_v (ve_c (pe_glob (v := .int 8) (by rfl) T.c_MOST_MOST.choose_spec ⟨_, rfl⟩) (fun _ _ => .int _)) vg_nil))) dfl_check_between_3))))
     (vxs_cons (vx_vs (fun g => (vs_set (i := 2) sc_each_row.nd (by rfl) (by first | exact Or.inl rfl | exact Or.inr rfl) (ve_fz (ve_methR0 (c := 0) (pv 0) (by rfl) T.cl_Bound T.mt_Bound_rules (cal_fn G_Bound_rules (hr.mono (by first | decide | omega)) b_Bound_rules_1 v_Bound_rules_1 (tk g)) dfl_Bound_rules_1)))))
     (vxs_cons (vx_vs (fun g => (vs_set (i := 3) sc_each_row.nd (by rfl) (by first | exact Or.inl rfl | exact Or.inr rfl) (ve_lst (va_cons (ve_tup (va_cons (ve_lst va_nil) (va_cons (ve_bin op_mulT1 ok_mulT (ve_tup (va_cons (ve_c pe_int (fun _ _ => .int _)) va_nil)) (ve_callB (call_lenV (by rfl)) ok_len (by rfl) T.n_len boot_len (va_cons (ve_var (pv 2)) va_nil))) va_nil))) va_nil)))))
     (vxs_cons (vx_while (fun _ => 200000) (fun g => (vt_cmp (op_neD hr.units) ok_ne (ve_var (pv 3)) (ve_lst va_nil) (nomark _))) (vxs_cons (vx_vs (fun g => (vs_asg (ve_popO (i := 3) (tn_root (pv 3))) (vg_tup (n := 2) (by rfl) (by rfl) (vgs_cons (vg_name (i := 4) sc_each_row.nd (by rfl) (by first | exact Or.inl rfl | exact Or.inr rfl)) (vgs_cons (vg_name (i := 5) sc_each_row.nd (by rfl) (by first | exact Or.inl rfl | exact Or.inr rfl)) vgs_nil))))))
     (vxs_cons (vx_if (fun g => (vt_cmp (op_eqD hr.units) ok_eq (ve_callB (call_lenV (by rfl)) ok_len (by rfl) T.n_len boot_len (va_cons (ve_var (pv 4)) va_nil)) (ve_var (pv 1)) (nomark _))) (vxs_cons (vx_yd (fun g => (ve_mov (pv 4))))
     vxs_nil) (vxs_cons (vx_vs (fun g => (vs_set (i := 6) sc_each_row.nd (by rfl) (by first | exact Or.inl rfl | exact Or.inr rfl) (ve_fz (ve_lr (by rfl) (by rfl) T.n_list (by rfl) T.n_range (ve_bin (op_addV (by rfl)) ok_add (ve_call (cal_fn G_allowed_at (hr.mono (by first | decide | omega)) b_allowed_at_2 v_allowed_at_2 (tk g)) (by rfl) T.g_allowed_at F_allowed_at.kp (vg_v (ve_stab (ve_var (pv 2))) (vg_v (ve_stab (ve_var (pv 5))) vg_nil)) dfl_allowed_at_2) (ve_c pe_int (fun _ _ => .int _))))))))
     (vxs_cons (vx_vs (fun g => (vs_expr (ve_extO (i := 3) (tn_root (pv 3)) (ve_lc (p := true) (sb := true) (own := [("count", 7)]) (by rfl) sc_each_row.nd (vi_list (by rfl) (ve_fz (ve_revL (by rfl) (ve_var (pv 6))))) (blkOk_by (own := [("count", 7)]) (N := ["bound", "length", "rules", "rows", "row", "levels", "counts", "count"]) (sc := d_each_row.scope) (by decide +kernel)) (fun _ _ _ _ _ _ => (vg_name (i := 7) sc_each_row.nd (by rfl) (by first | exact Or.inl rfl | exact Or.inr rfl) (by exact fun z => absurd (show some false = some true from z) (by decide)))) (fun _ _ _ _ _ => vts0) (fun _ _ _ _ _ => (ve_tup (va_cons (ve_bin (op_addV (by rfl)) ok_add (ve_var (pv 4)) (ve_lst (va_cons (ve_stab (ve_var (pv 7))) va_nil))) (va_cons (ve_call (cal_fn G_levels_behind (hr.mono (by first | decide | omega)) b_levels_behind_3 v_levels_behind_3 takesF) (by rfl) T.g_levels_behind F_levels_behind.kp (vg_v (ve_stab (ve_var (pv 2))) (vg_v (ve_stab (ve_var (pv 5))) (vg_v (ve_stab (ve_var (pv 7))) vg_nil))) dfl_levels_behind_3) va_nil)))))))))
     vxs_nil)))
     vxs_nil)))
     vxs_nil)))))
def m_refused : MS :=
    (mSeq (mTryAs 0 2 (mDrop (mFz (mCall (mfFly [0] f_each_row) [.v ⟨true, true, (mStab (mVar 0))⟩, .v ⟨true, true, (mStab (mVar 1))⟩]))) (mRet (mFun semEq [(mFun semRepr [(mExf [1, 0] 2 "value")]), (mFun semRepr [(mVar 1)])])))
    (mRet (mC (.bl false))))
def f_refused : MF := mBody [false, false] 3 m_refused
theorem ok_refused {P : Program} {w : World} {K : PySem.W.Frag} {mg : Str → Option Value} {base : Heap} (T : Txt K mg w) (F : ∃ fd, FunV K d_refused fd) (h_each_row : OkX P w K mg base (gam K w) d_each_row 4 ["bound", "length"] f_each_row) : Ok P w K mg base (gam K w) d_refused 8 ["_law_bound_here", "_law_size"] f_refused := by
 obtain ⟨fd_each_row, F_each_row, G_each_row⟩ := h_each_row
 have kb_each_row_1_all_b := kb_each_row_1_all F_each_row
 refine ok_of F sc_refused rfl fun cdv A outer s H E hr tk hp σ0 => ?_
 exact (vss_cons (vs_try_as (i := 2) (c := 0) rfl rfl sc_refused.nd (by rfl) (by rfl) ⟨by rfl, by decide, .inl T.g_InvalidNumber⟩ tk (by decide) (by rfl) T.ey_InvalidNumber.yes T.ey_InvalidNumber.no (fun W pn xe tk _ => (vss_one (vs_expr (ve_fz (ve_flyX (L := [0]) (CallX.mk (os1 := [⟨true, true, (mStab (mVar 0))⟩]) (os2 := [⟨true, true, (mStab (mVar 1))⟩]) (as := [.v ⟨true, true, (mStab (mVar 0))⟩, .v ⟨true, true, (mStab (mVar 1))⟩]) (mf := f_each_row) (n := 2) G_each_row kb_each_row_1_all_b (by rfl) T.g_each_row F_each_row.kp (va_cons (ve_stab (ve_var (pv 0))) va_nil) (vk_cons (ve_stab (ve_var (pv 1))) vk_nil) trivial (by rfl) (fun xs zs hx hz => match xs, zs, hx, hz with | [_], [_], _, _ => by rfl) (by rfl) (by rfl) (by rfl) (by rfl) (by rfl) (by rfl) (by decide) (by rfl) (by rfl)) (hr.mono (by first | decide | omega)) tk (fun m hm C e => by
     simp only [List.mem_cons, List.not_mem_nil, or_false] at hm
     subst hm
     · rw [← Option.some.inj (show some _ = some C from e)]; exact T.ns_InvalidNumber) (by rfl) T.n_list boot_list))))) (fun a oe cls d pn hz hf => (vss_one (vs_ret (ve_cmp (op_eqD (by have h := hr.units; exact h)) ok_eq (ve_callB (call_reprD (by rfl) (by have h := hr.gd; exact h) (by have h := hu70 hr; exact h)) ok_repr (by rfl) T.n_repr boot_repr (va_cons (ve_exf (cs := [1, 0]) (i := 2) rfl T.xf_value hz hf (pv 2)) va_nil)) (ve_callB (call_reprD (by rfl) (by have h := hr.gd; exact h) (by have h := hu70 hr; exact h)) ok_repr (by rfl) T.n_repr boot_repr (va_cons (ve_var (pv 1)) va_nil)) (nomark _))))))
     (vss_one (vs_ret (ve_c pe_bl (fun _ _ => .bl _)))))
def m_stream : MS :=
    (mSeq (mSet 2 (mC (.int 0)))
    (mSeq (mIfS (mFun (semCmp fun i j => decide (i < j)) [(mVar 1), (mFun semLen [(mVar 0)])]) (mSet 2 (mFun semIx [(mVar 0), (mVar 1)])) mNext)
    (mSeq (mSet 3 (mFun semMax2 [(mFun semInt [(mVar 2)]), (mFun semInt [(mFun semSub [(mFun semNeg [(mC (.int 1))]), (mVar 2)])])]))
    (mSeq (mSet 4 (mFun semMod [(mFun semInt [(mFun semMul [(mFun semAdd [(mFun semAdd [(mFun semAdd [(mFun semMod [(mFun semInt [(mVar 3)]), (mC (.int 2147483629))]), (mFun semMul [(mFun semMul [(mC (.int 7919)), (mVar 1)]), (mVar 1)])]), (mFun semMul [(mC (.int 31)), (mVar 1)])]), (mC (.int 17))]), (mC (.int 48271))])]), (mC (.int 2147483647))]))
    (mRet (mLst [(mFun semMul [(mVar 3), (mFun semInt [(mFun (semCmp fun i j => decide (j ≤ i)) [(mVar 3), (mFun semPow [(mC (.int 10)), (mC (.int 18))])])])]), (mStab (mVar 4))]))))))
def f_stream : MF := mBody [false, false] 5 m_stream
theorem ok_stream {P : Program} {w : World} {K : PySem.W.Frag} {mg : Str → Option Value} {base : Heap} (T : Txt K mg w) (F : ∃ fd, FunV K d_stream fd)  : Ok P w K mg base (gam K w) d_stream 1 ["_law_script", "_law_k"] f_stream := by
 refine ok_of F sc_stream rfl fun cdv A outer s H E hr tk hp σ0 => ?_
 exact (vss_cons (vs_set (i := 2) sc_stream.nd (by rfl) (by first | exact Or.inl rfl | exact Or.inr rfl) (ve_c pe_int (fun _ _ => .int _)))
     (vss_cons (vs_if (vt_cmp op_lt ok_cmp (ve_var (pv 1)) (ve_callB (call_lenV (by rfl)) ok_len (by rfl) T.n_len boot_len (va_cons (ve_var (pv 0)) va_nil)) (nomark _)) (vss_one (vs_set (i := 2) sc_stream.nd (by rfl) (by first | exact Or.inl rfl | exact Or.inr rfl) (ve_ix (ix_any (by rfl) (by rfl) (hu_g hr)) ok_ix (ve_var (pv 0)) (ve_var (pv 1)) (fun _ _ => (by rfl))))) vss_nil)
     (vss_cons (vs_set (i := 3) sc_stream.nd (by rfl) (by first | exact Or.inl rfl | exact Or.inr rfl) (ve_callB (call_max2 (by rfl)) ok_max2 (by rfl) T.n_max boot_max (va_cons (ve_callTy call_int1 ok_int (by rfl) T.n_int boot_int (va_cons (ve_var (pv 2)) va_nil)) (va_cons (ve_callTy call_int1 ok_int (by rfl) T.n_int boot_int (va_cons (ve_bin op_sub ok_sub (ve_un un_neg ok_neg (ve_c pe_int (fun _ _ => .int _))) (ve_var (pv 2))) va_nil)) va_nil))))
     (vss_cons (vs_set (i := 4) sc_stream.nd (by rfl) (by first | exact Or.inl rfl | exact Or.inr rfl) (ve_bin op_mod ok_mod (ve_callTy call_int1 ok_int (by rfl) T.n_int boot_int (va_cons (ve_bin (op_mulV (by rfl)) ok_mul (ve_bin (op_addV (by rfl)) ok_add (ve_bin (op_addV (by rfl)) ok_add (ve_bin (op_addV (by rfl)) ok_add (ve_bin op_mod ok_mod (ve_callTy call_int1 ok_int (by rfl) T.n_int boot_int (va_cons (ve_var (pv 3)) va_nil)) (ve_c pe_int (fun _ _ => .int _))) (ve_bin (op_mulV (by rfl)) ok_mul (ve_bin (op_mulV (by rfl)) ok_mul (ve_c pe_int (fun _ _ => .int _)) (ve_var (pv 1))) (ve_var (pv 1)))) (ve_bin (op_mulV (by rfl)) ok_mul (ve_c pe_int (fun _ _ => .int _)) (ve_var (pv 1)))) (ve_c pe_int (fun _ _ => .int _))) (ve_c pe_int (fun _ _ => .int _))) va_nil)) (ve_c pe_int (fun _ _ => .int _))))
     (vss_one (vs_ret (ve_lst (va_cons (ve_bin (op_mulV (by rfl)) ok_mul (ve_var (pv 3)) (ve_callTy call_int1 ok_int (by rfl) T.n_int boot_int (va_cons (ve_cmp op_ge ok_cmp (ve_var (pv 3)) (ve_bin op_pow ok_pow (ve_c pe_int (fun _ _ => .int _)) (ve_c pe_int (fun _ _ => .int _))) (nomark _)) va_nil))) (va_cons (ve_stab (ve_var (pv 4))) va_nil)))))))))
def m_three_b1 : MS :=
    (mSeq (mSet 5 (mTup [(mFun semAdd [(mC (.int 1)), (mCall f_draw [.r 0, .v ⟨true, true, (mStab (mVar 1))⟩])]), (mFun semAdd [(mC (.int 1)), (mCall f_draw [.r 0, .v ⟨true, true, (mStab (mVar 2))⟩])])]))
    (mIfS (mFun (semInP true) [(mVar 5), (mVar 3)]) (mDrop (mLop 3 [] fApp (mStab (mVar 5)))) mNext))
def m_three : MS :=
    (mSeq (mSet 3 (mLst []))
    (mSeq (mFor (mRng1 (mFun semAdd [(mC (.int 1)), (mCall f_draw [.r 0, .v ⟨true, true, (mC (.int 3))⟩])])) (gV 4) m_three_b1)
    (mRet (mFrz 3))))
def f_three : MF := mBody [true, false, false] 6 m_three
theorem ok_three {P : Program} {w : World} {K : PySem.W.Frag} {mg : Str → Option Value} {base : Heap} (T : Txt K mg w) (F : ∃ fd, FunV K d_three fd) (h_draw : Ok P w K mg base (gam K w) d_draw 1 ["_law_stream_here", "_law_count"] f_draw) : Ok P w K mg base (gam K w) d_three 2 ["_law_stream_here", "_law_most", "_law_every"] f_three := by
 obtain ⟨fd_draw, F_draw, G_draw⟩ := h_draw
 obtain ⟨ds_draw_2, v_draw_2, b_draw_2⟩ := bnd_draw_2 F_draw
 cases v_draw_2
 have v_draw_2 : Vals (([] : List (V × Val)).map (·.1)) [] := .nil
 refine ok_of F sc_three rfl fun cdv A outer s H E hr tk hp σ0 => ?_
 exact (vss_cons (vs_set (i := 3) sc_three.nd (by rfl) (by first | exact Or.inl rfl | exact Or.inr rfl) (ve_lst va_nil))
     (vss_cons (vs_for hp (by rfl) (vi_rng1 (by rfl) T.n_range (ve_bin (op_addV (by rfl)) ok_add (ve_c pe_int (fun _ _ => .int _)) (ve_call (cal_fn G_draw (hr.mono (by first | decide | omega)) b_draw_2 v_draw_2 tk) (by rfl) T.g_draw F_draw.kp (vg_r (pv 0) (vg_v (ve_c pe_int (fun _ _ => .int _)) vg_nil)) dfl_draw_2))) (vg_name (i := 4) sc_three.nd (by rfl) (by first | exact Or.inl rfl | exact Or.inr rfl)) (vss_cons (vs_set (i := 5) sc_three.nd (by rfl) (by first | exact Or.inl rfl | exact Or.inr rfl) (ve_tup (va_cons (ve_bin (op_addV (by rfl)) ok_add (ve_c pe_int (fun _ _ => .int _)) (ve_call (cal_fn G_draw (hr.mono (by first | decide | omega)) b_draw_2 v_draw_2 tk) (by rfl) T.g_draw F_draw.kp (vg_r (pv 0) (vg_v (ve_stab (ve_var (pv 1))) vg_nil)) dfl_draw_2)) (va_cons (ve_bin (op_addV (by rfl)) ok_add (ve_c pe_int (fun _ _ => .int _)) (ve_call (cal_fn G_draw (hr.mono (by first | decide | omega)) b_draw_2 v_draw_2 tk) (by rfl) T.g_draw F_draw.kp (vg_r (pv 0) (vg_v (ve_stab (ve_var (pv 2))) vg_nil)) dfl_draw_2)) va_nil))))
     (vss_one (vs_if (vt_cmp (op_notInP (hu65 hr)) (ok_inP (by rfl)) (ve_var (pv 5)) (ve_var (pv 3)) (by rfl)) (vss_one (vs_expr (ve_app (i := 3) (r := []) stpF_nil (tn_root (pv 3)) (ve_stab (ve_var (pv 5)))))) vss_nil))))
     (vss_one (vs_ret (ve_frz (pv 3))))))
def m_law_b1 : MS :=
    (mSeq (mDrop (mLopN 6 fApp (mFun semList [mVar 7]))) (mSeq (mDrop (mLopN 7 fApp (mC (.int 7)))) mNext))
def m_law_b2 : MS :=
    (mIfS (mNot (mCall f_refused [.v ⟨true, true, (mStab (mVar 5))⟩, .v ⟨true, true, (mStab (mVar 8))⟩])) (mRet (mC (.bl false))) mNext)
def m_law_b3 : MS :=
    (mSeq (mSet 2 (mCall f_stream [.v ⟨true, true, (mStab (mVar 0))⟩, .v ⟨true, true, (mStab (mVar 1))⟩]))
    (mSeq (mSet 3 (mFz (mCall f_three [.r 2, .v ⟨true, true, (mC (.int 3))⟩, .v ⟨true, true, (mC (.int 6))⟩])))
    (mSeq (mSet 4 (mCall f_draw [.r 2, .v ⟨true, true, (mFun semSub [(mC (.int 6)), (mFun semInt [(mFun (semCmp fun i j => decide (j < i)) [(mFun semIx [(mFun semIx [(mVar 3), (mC (.int 0))]), (mC (.int 0))]), (mC (.int 2))])])])⟩]))
    (mSeq (mPar 5 6 (mFz (mCall f_bound [.v ⟨true, true, (mStab (mVar 3))⟩])) (mLst []))
    (mSeq (mForX [.v ⟨true, true, (mStab (mVar 5))⟩, .v ⟨true, true, (mStab (mVar 4))⟩] f_each_row (gV 7) m_law_b1)
    (mSeq (mIfS (mFun semNe [(mVar 6), (mCall f_all [.v ⟨true, true, (mStab (mVar 3))⟩, .v ⟨true, true, (mStab (mVar 4))⟩])]) (mRet (mC (.bl false))) mNext)
    (mSeq (mIfS (mFun semNe [(mCall (mfLen [0] f_each_row) [.v ⟨true, true, (mFz (mCall (mMake 0 f_Bound_init) [.v ⟨true, true, (mC (.int 1))⟩, .v ⟨true, true, (mC (.int 12))⟩, .k (.non) (.wtp [])]))⟩, .v ⟨true, true, (mC (.int 8))⟩]), (mC (.int 9))]) (mRet (mC (.bl false))) mNext)
    (mFor (mItemsL (mFz (mLst [(mC .non), (mFun semNeg [(mC (.int 1))]), (mC (.int 9)), (mC (.bl true)), (mC (.str "2")), (mFun semPow [(mC (.int 10)), (mC (.int 30))])]))) (gV 8) m_law_b2))))))))
def m_law : MS :=
    (mSeq (mFor (mRng1 (mFun semMax2 [(mC (.int 1)), (mFun semMin2 [(mC (.int 6)), (mFun semLen [(mVar 0)])])])) (gV 1) m_law_b3)
    (mRet (mC (.bl true))))
def f_law : MF := mBody [false] 9 m_law
theorem ok_law {P : Program} {w : World} {K : PySem.W.Frag} {mg : Str → Option Value} {base : Heap} (T : Txt K mg w) (F : ∃ fd, FunV K d_law fd) (h_Bound_init : Ok P w K mg base (gam K w) d_Bound_init 5 ["self", "most", "every", "also"] f_Bound_init) (h_all : Ok P w K mg base (gam K w) d_all 2 ["_law_rules", "_law_size"] f_all) (h_bound : Ok P w K mg base (gam K w) d_bound 9 ["_law_rules"] f_bound) (h_draw : Ok P w K mg base (gam K w) d_draw 1 ["_law_stream_here", "_law_count"] f_draw) (h_each_row : OkX P w K mg base (gam K w) d_each_row 4 ["bound", "length"] f_each_row) (h_refused : Ok P w K mg base (gam K w) d_refused 8 ["_law_bound_here", "_law_size"] f_refused) (h_stream : Ok P w K mg base (gam K w) d_stream 1 ["_law_script", "_law_k"] f_stream) (h_three : Ok P w K mg base (gam K w) d_three 2 ["_law_stream_here", "_law_most", "_law_every"] f_three) : Ok P w K mg base (gam K w) d_law 10 ["_law_script"] f_law := by
 obtain ⟨fd_Bound_init, F_Bound_init, G_Bound_init⟩ := h_Bound_init
 obtain ⟨fd_all, F_all, G_all⟩ := h_all
 obtain ⟨fd_bound, F_bound, G_bound⟩ := h_bound
 obtain ⟨fd_draw, F_draw, G_draw⟩ := h_draw
 obtain ⟨fd_each_row, F_each_row, G_each_row⟩ := h_each_row
 obtain ⟨fd_refused, F_refused, G_refused⟩ := h_refused
 obtain ⟨fd_stream, F_stream, G_stream⟩ := h_stream
 obtain ⟨fd_three, F_three, G_three⟩ := h_three
 obtain ⟨ds_Bound_init_3, v_Bound_init_3, b_Bound_init_3⟩ := bnd_Bound_init_3 F_Bound_init
 obtain ⟨ds_all_2, v_all_2, b_all_2⟩ := bnd_all_2 F_all
 obtain ⟨ds_bound_1, v_bound_1, b_bound_1⟩ := bnd_bound_1 F_bound
 obtain ⟨ds_draw_2, v_draw_2, b_draw_2⟩ := bnd_draw_2 F_draw
 obtain ⟨ds_refused_2, v_refused_2, b_refused_2⟩ := bnd_refused_2 F_refused
 obtain ⟨ds_stream_2, v_stream_2, b_stream_2⟩ := bnd_stream_2 F_stream
 obtain ⟨ds_three_3, v_three_3, b_three_3⟩ := bnd_three_3 F_three
 cases v_all_2
 have v_all_2 : Vals (([] : List (V × Val)).map (·.1)) [] := .nil
 cases v_bound_1
 have v_bound_1 : Vals (([] : List (V × Val)).map (·.1)) [] := .nil
 cases v_draw_2
 have v_draw_2 : Vals (([] : List (V × Val)).map (·.1)) [] := .nil
 cases v_refused_2
 have v_refused_2 : Vals (([] : List (V × Val)).map (·.1)) [] := .nil
 cases v_stream_2
 have v_stream_2 : Vals (([] : List (V × Val)).map (·.1)) [] := .nil
 cases v_three_3
 have v_three_3 : Vals (([] : List (V × Val)).map (·.1)) [] := .nil
 have kb_each_row_1_all_b := kb_each_row_1_all F_each_row
 refine ok_of F sc_law rfl fun cdv A outer s H E hr tk hp σ0 => ?_
 exact (vss_cons (vs_for hp (by rfl) (vi_rng1 (by rfl) T.n_range (ve_callB (call_max2 (by rfl)) ok_max2 (by rfl) T.n_max boot_max (va_cons (ve_c pe_int (fun _ _ => .int _)) (va_cons (ve_callB (call_min2 (by rfl)) ok_min2 (by rfl) T.n_min boot_min (va_cons (ve_c pe_int (fun _ _ => .int _)) (va_cons (ve_callB (call_lenV (by rfl)) ok_len (by rfl) T.n_len boot_len (va_cons (ve_var (pv 0)) va_nil)) va_nil))) va_nil)))) (vg_name (i := 1) sc_law.nd (by rfl) (by first | exact Or.inl rfl | exact Or.inr rfl)) (vss_cons (vs_set (i := 2) sc_law.nd (by rfl) (by first | exact Or.inl rfl | exact Or.inr rfl) (ve_call (cal_fn G_stream (hr.mono (by first | decide | omega)) b_stream_2 v_stream_2 tk) (by rfl) T.g_stream F_stream.kp (vg_v (ve_stab (ve_var (pv 0))) (vg_v (ve_stab (ve_var (pv 1))) vg_nil)) dfl_stream_2))
     (vss_cons (vs_set (i := 3) sc_law.nd (by rfl) (by first | exact Or.inl rfl | exact Or.inr rfl) (ve_fz (ve_call (cal_fn G_three (hr.mono (by first | decide | omega)) b_three_3 v_three_3 tk) (by rfl) T.g_three F_three.kp (vg_r (pv 2) (vg_v (ve_c pe_int (fun _ _ => .int _)) (vg_v (ve_c pe_int (fun _ _ => .int _)) vg_nil))) dfl_three_3)))
     (vss_cons (vs_set (i := 4) sc_law.nd (by rfl) (by first | exact Or.inl rfl | exact Or.inr rfl) (ve_call (cal_fn G_draw (hr.mono (by first | decide | omega)) b_draw_2 v_draw_2 tk) (by rfl) T.g_draw F_draw.kp (vg_r (pv 2) (vg_v (ve_bin op_sub ok_sub (ve_c pe_int (fun _ _ => .int _)) (ve_callTy call_int1 ok_int (by rfl) T.n_int boot_int (va_cons (ve_cmp op_gt ok_cmp (ve_ix (ix_any (by rfl) (by rfl) (hu_g hr)) ok_ix (ve_ix (ix_any (by rfl) (by rfl) (hu_g hr)) ok_ix (ve_var (pv 3)) (ve_c pe_int (fun _ _ => .int _)) (fun _ _ => (by rfl))) (ve_c pe_int (fun _ _ => .int _)) (fun _ _ => (by rfl))) (ve_c pe_int (fun _ _ => .int _)) (nomark _)) va_nil))) vg_nil)) dfl_draw_2))
     (vss_cons (vs_par (i := 5) (j := 6) (by rfl) sc_law.nd (by rfl) (by rfl) (by decide) (by rfl) (by rfl) (ve_fz (ve_call (cal_fn G_bound (hr.mono (by first | decide | omega)) b_bound_1 v_bound_1 tk) (by rfl) T.g_bound F_bound.kp (vg_v (ve_stab (ve_var (pv 3))) vg_nil) dfl_bound_1)) (ve_lst va_nil) (by rfl))
     (vss_cons (vs_forX (g := gV 7) (CallX.mk (os1 := [⟨true, true, (mStab (mVar 5))⟩]) (os2 := [⟨true, true, (mStab (mVar 4))⟩]) (as := [.v ⟨true, true, (mStab (mVar 5))⟩, .v ⟨true, true, (mStab (mVar 4))⟩]) (mf := f_each_row) (n := 2) G_each_row kb_each_row_1_all_b (by rfl) T.g_each_row F_each_row.kp (va_cons (ve_stab (ve_var (pv 5))) va_nil) (vk_cons (ve_stab (ve_var (pv 4))) vk_nil) trivial (by rfl) (fun xs zs hx hz => match xs, zs, hx, hz with | [_], [_], _, _ => by rfl) (by rfl) (by rfl) (by rfl) (by rfl) (by rfl) (by rfl) (by decide) (by rfl) (by rfl)) (hr.mono (by first | decide | omega)) hp (vgg_name (i := 7) sc_law.nd (by rfl) (by rfl)) (vssg_cons (vsg_expr (veg_app (peg_var (i := 6) (by rfl) (by first | exact Or.inl rfl | exact Or.inr (Or.inl rfl))) (veg_list (by rfl) (by rfl) T.n_list boot_list (veg_var (peg_var (i := 7) (by rfl) (by first | exact Or.inl rfl | exact Or.inr (Or.inl rfl)))))))
     (vssg_cons (vsg_expr (veg_app (peg_var (i := 7) (by rfl) (by first | exact Or.inl rfl | exact Or.inr (Or.inl rfl))) (veg_c peg_int (fun _ _ => .int _))))
     vssg_nil)))
     (vss_cons (vs_if (vt_cmp (op_neD hr.units) ok_ne (ve_var (pv 6)) (ve_call (cal_fn G_all (hr.mono (by first | decide | omega)) b_all_2 v_all_2 tk) (by rfl) T.g_all F_all.kp (vg_v (ve_stab (ve_var (pv 3))) (vg_v (ve_stab (ve_var (pv 4))) vg_nil)) dfl_all_2) (nomark _)) (vss_one (vs_ret (ve_c pe_bl (fun _ _ => .bl _)))) vss_nil)
     (vss_cons (vs_if (vt_cmp (op_neD hr.units) ok_ne (ve_lenX (L := [0]) (CallX.mk (os1 := [⟨true, true, (mFz (mCall (mMake 0 f_Bound_init) [.v ⟨true, true, (mC (.int 1))⟩, .v ⟨true, true, (mC (.int 12))⟩, .k (.non) (.wtp [])]))⟩]) (os2 := [⟨true, true, (mC (.int 8))⟩]) (as := [.v ⟨true, true, (mFz (mCall (mMake 0 f_Bound_init) [.v ⟨true, true, (mC (.int 1))⟩, .v ⟨true, true, (mC (.int 12))⟩, .k (.non) (.wtp [])]))⟩, .v ⟨true, true, (mC (.int 8))⟩]) (mf := f_each_row) (n := 2) G_each_row kb_each_row_1_all_b (by rfl) T.g_each_row F_each_row.kp (va_cons (ve_fz (ve_eqm (ve_call (cal_make (c := 0) (by rfl) T.mk_Bound G_Bound_init (hr.mono (by first | decide | omega)) b_Bound_init_3 v_Bound_init_3 tk) (by rfl) T.g_Bound T.mk_Bound.kp (vg_v (ve_c pe_int (fun _ _ => .int _)) (vg_v (ve_c pe_int (fun _ _ => .int _)) vg_nil)) (dfl_Bound_init_3 T)) (by rfl) (mCall_eq (by rfl)))) va_nil) (vk_cons (ve_c pe_int (fun _ _ => .int _)) vk_nil) trivial (by rfl) (fun xs zs hx hz => match xs, zs, hx, hz with | [_], [_], _, _ => by rfl) (by rfl) (by rfl) (by rfl) (by rfl) (by rfl) (by rfl) (by decide) (by rfl) (by rfl)) (hr.mono (by first | decide | omega)) tk (fun m hm C e => by
     simp only [List.mem_cons, List.not_mem_nil, or_false] at hm
     subst hm
     · rw [← Option.some.inj (show some _ = some C from e)]; exact T.ns_InvalidNumber) (by rfl) T.n_list boot_list (by rfl) T.n_len) (ve_c pe_int (fun _ _ => .int _)) (nomark _)) (vss_one (vs_ret (ve_c pe_bl (fun _ _ => .bl _)))) vss_nil)
     (vss_one (vs_for hp (by rfl) (vi_list (by rfl) (ve_fz (ve_lst (va_cons (ve_c pe_non (fun _ _ => .non)) (va_cons (ve_un un_neg ok_neg (ve_c pe_int (fun _ _ => .int _))) (va_cons (ve_c pe_int (fun _ _ => .int _)) (va_cons (ve_c pe_bl (fun _ _ => .bl _)) (va_cons (ve_c pe_str (fun _ _ => .str _)) (va_cons (ve_bin op_pow ok_pow (ve_c pe_int (fun _ _ => .int _)) (ve_c pe_int (fun _ _ => .int _))) va_nil))))))))) (vg_name (i := 8) sc_law.nd (by rfl) (by first | exact Or.inl rfl | exact Or.inr rfl)) (vss_one (vs_if (vt_not (vt_val (ve_call (cal_fn G_refused (hr.mono (by first | decide | omega)) b_refused_2 v_refused_2 tk) (by rfl) T.g_refused F_refused.kp (vg_v (ve_stab (ve_var (pv 5))) (vg_v (ve_stab (ve_var (pv 8))) vg_nil)) dfl_refused_2))) (vss_one (vs_ret (ve_c pe_bl (fun _ _ => .bl _)))) vss_nil))))))))))))
     (vss_one (vs_ret (ve_c pe_bl (fun _ _ => .bl _)))))
theorem txt_of {K : PySem.W.Frag} {h : Heap} {mg : Str → Option Value} {w : World} (X : K.In h) (G : h.Ns mainGlobals mg) (cw : SaysW fa fn ts w K) : Txt K mg w :=
 have c := cw.v
 {
  n_len := He.free_ok X G (c.fact 0 (f := fun K => (He.Fa.free "len").ok K) rfl),
  n_min := He.free_ok X G (c.fact 1 (f := fun K => (He.Fa.free "min").ok K) rfl),
  n_max := He.free_ok X G (c.fact 2 (f := fun K => (He.Fa.free "max").ok K) rfl),
  n_range := He.free_ok X G (c.fact 3 (f := fun K => (He.Fa.free "range").ok K) rfl),
  g_stream := He.glo_ok X G (c.fact 4 (f := fun K => (He.Fa.glo "_law_stream").ok K) rfl),
  g_three := He.glo_ok X G (c.fact 5 (f := fun K => (He.Fa.glo "_law_three").ok K) rfl),
  n_int := He.free_ok X G (c.fact 6 (f := fun K => (He.Fa.free "int").ok K) rfl),
  g_draw := He.glo_ok X G (c.fact 7 (f := fun K => (He.Fa.glo "_law_draw").ok K) rfl),
  g_bound := He.glo_ok X G (c.fact 8 (f := fun K => (He.Fa.glo "_law_bound").ok K) rfl),
  g_each_row := He.glo_ok X G (c.fact 9 (f := fun K => (He.Fa.glo "each_row").ok K) rfl),
  n_list := He.free_ok X G (c.fact 10 (f := fun K => (He.Fa.free "list").ok K) rfl),
  g_all := He.glo_ok X G (c.fact 11 (f := fun K => (He.Fa.glo "_law_all").ok K) rfl),
  da_Bound_init_also := fun W H => at_ok (c.fact 12 (f := tAt (kwAt (fun K => He.ma K (He.ga K "Bound") "__init__") "also") (.wtp [])) rfl) _ W H rfl,
  mk_Bound := He.mkr_ok (c.fact 13 (f := fun K => (He.Fa.mkr "Bound").ok K) rfl),
  g_Bound := He.glo_ok X G (c.fact 14 (f := fun K => (He.Fa.glo "Bound").ok K) rfl),
  ns_InvalidNumber := of_decide_eq_true (c.fact 15 (f := fun K => decide (PySem.W.subIn K (.ref (He.ga K "InvalidNumber")) (.type "StopIteration") = some false)) rfl),
  g_refused := He.glo_ok X G (c.fact 16 (f := fun K => (He.Fa.glo "_law_refused").ok K) rfl),
  g_InvalidNumber := He.glo_ok X G (c.fact 17 (f := fun K => (He.Fa.glo "InvalidNumber").ok K) rfl),
  ey_InvalidNumber := exm_ok (c.fact 18 (f := tExm fnNames 0 "InvalidNumber") rfl),
  n_repr := He.free_ok X G (c.fact 19 (f := fun K => (He.Fa.free "repr").ok K) rfl),
  xf_value := xf_ok (c.fact 20 (f := tXfc fnNames [1, 0] "value") rfl) (fun _ _ h => h),
  g_check_bound := He.glo_ok X G (c.fact 21 (f := fun K => (He.Fa.glo "check_bound").ok K) rfl),
  c_MOST_MOST := He.int_ok X G (c.fact 22 (f := fun K => (He.Fa.int "MOST_MOST" (8)).ok K) rfl),
  g_check_between := He.glo_ok X G (c.fact 23 (f := fun K => (He.Fa.glo "check_between").ok K) rfl),
  mt_Bound_rules := He.meth_ok (c.fact 24 (f := fun K => (He.Fa.meth "Bound" "rules").ok K) rfl),
  cl_Bound := He.cls_ok (c.fact 25 (f := fun K => (He.Fa.cls "Bound").ok K) rfl),
  g_allowed_at := He.glo_ok X G (c.fact 26 (f := fun K => (He.Fa.glo "allowed_at").ok K) rfl),
  g_levels_behind := He.glo_ok X G (c.fact 27 (f := fun K => (He.Fa.glo "levels_behind").ok K) rfl),
  n_zip := He.free_ok X G (c.fact 28 (f := fun K => (He.Fa.free "zip").ok K) rfl),
  na_Bound_ruled := He.noat_ok (c.fact 29 (f := fun K => (He.Fa.noat "Bound" "ruled").ok K) rfl),
  n_tuple := He.free_ok X G (c.fact 30 (f := fun K => (He.Fa.free "tuple").ok K) rfl),
  g_is_between := He.glo_ok X G (c.fact 31 (f := fun K => (He.Fa.glo "is_between").ok K) rfl),
  n_super := He.free_ok X G (c.fact 32 (f := fun K => (He.Fa.free "super").ok K) rfl),
  ex_InvalidNumber := excB_ok (c.fact 33 (f := excB (fun K => (He.ga K "InvalidNumber")) (fun K => He.ma K (He.ga K "InvalidNumber") "__init__") "value" "/claim/cut.py") rfl),
  g_is_integer := He.glo_ok X G (c.fact 34 (f := fun K => (He.Fa.glo "is_integer").ok K) rfl),
  n_isinstance := He.free_ok X G (c.fact 35 (f := fun K => (He.Fa.free "isinstance").ok K) rfl),
  n_bool := He.free_ok X G (c.fact 36 (f := fun K => (He.Fa.free "bool").ok K) rfl),
  sm_Bound_of := smet_ok (c.fact 37 (f := tSMet "Bound" "of") rfl),
  g_are_rules := He.glo_ok X G (c.fact 38 (f := fun K => (He.Fa.glo "are_rules").ok K) rfl),
  g_bound_of := He.glo_ok X G (c.fact 39 (f := fun K => (He.Fa.glo "bound_of").ok K) rfl),
  c_MOST_RULES := He.int_ok X G (c.fact 40 (f := fun K => (He.Fa.int "MOST_RULES" (3)).ok K) rfl),
  g_is_rule := He.glo_ok X G (c.fact 41 (f := fun K => (He.Fa.glo "is_rule").ok K) rfl),
  n_all := He.free_ok X G (c.fact 42 (f := fun K => (He.Fa.free "all").ok K) rfl),
  c_MOST_EVERY := He.int_ok X G (c.fact 43 (f := fun K => (He.Fa.int "MOST_EVERY" (12)).ok K) rfl),
  g_may_come := He.glo_ok X G (c.fact 44 (f := fun K => (He.Fa.glo "_law_may_come").ok K) rfl),
  g_law := He.glo_ok X G (c.fact 45 (f := fun K => (He.Fa.glo "law").ok K) rfl),
  isi := isi_ok (L := clsNames) (fun _ _ h => h) (c.fact 46 (f := tIsi clsNames sub) rfl) }
theorem all_ok {P : Program} {w : World} {K : PySem.W.Frag} {mg : Str → Option Value} {base : Heap} (T : Txt K mg w) (c : SaysV fa fn K) (hP : PFile P "/claim/cut.py") : Ok P w K mg base (gam K w) d_law 10 ["_law_script"] f_law := by
 have x_InvalidNumber := exc_InvalidNumber (P := P) (w := w) (base := base) T hP (c.raw 21)
 have k_is_integer := ok_is_integer (P := P) (w := w) (base := base) T (c.def_ 0) 
 have k_is_between := ok_is_between (P := P) (w := w) (base := base) T (c.def_ 1) k_is_integer
 have k_is_rule := ok_is_rule (P := P) (w := w) (base := base) T (c.def_ 2) k_is_between
 have k_are_rules := ok_are_rules (P := P) (w := w) (base := base) T (c.def_ 3) k_is_rule
 have k_Bound_init := ok_Bound_init (P := P) (w := w) (base := base) T (c.def_ 4) k_is_between k_are_rules
 have k_may_come := ok_may_come (P := P) (w := w) (base := base) T (c.def_ 5) 
 have k_all := ok_all (P := P) (w := w) (base := base) T (c.def_ 6) k_may_come
 have k_bound_of := ok_bound_of (P := P) (w := w) (base := base) T (c.def_ 7) k_Bound_init
 have k_Bound_of := ok_Bound_of (P := P) (w := w) (base := base) T (c.def_ 8) k_are_rules k_bound_of
 have k_bound := ok_bound (P := P) (w := w) (base := base) T (c.def_ 9) k_Bound_of
 have k_draw := ok_draw (P := P) (w := w) (base := base) T (c.def_ 10) 
 have k_Bound_rules := ok_Bound_rules (P := P) (w := w) (base := base) T (c.def_ 11) 
 have k_allowed_at := ok_allowed_at (P := P) (w := w) (base := base) T (c.def_ 12) 
 have k_check_between := ok_check_between (P := P) (w := w) (base := base) T (c.def_ 13) k_is_between x_InvalidNumber
 have k_check_bound := ok_check_bound (P := P) (w := w) (base := base) T (c.def_ 14) 
 have k_levels_behind := ok_levels_behind (P := P) (w := w) (base := base) T (c.def_ 15) 
 have k_each_row := ok_each_row (P := P) (w := w) (base := base) T (c.def_ 16) k_Bound_rules k_allowed_at k_check_between k_check_bound k_levels_behind
 have k_refused := ok_refused (P := P) (w := w) (base := base) T (c.def_ 17) k_each_row
 have k_stream := ok_stream (P := P) (w := w) (base := base) T (c.def_ 18) 
 have k_three := ok_three (P := P) (w := w) (base := base) T (c.def_ 19) k_draw
 have k_law := ok_law (P := P) (w := w) (base := base) T (c.def_ 20) k_Bound_init k_all k_bound k_draw k_each_row k_refused k_stream k_three
 exact k_law
end Gb
set_option maxHeartbeats 4000000
namespace Gb
open PySem L2 VL
theorem mul_l {i j : Int} (h1 : -(2 ^ 64) < i) (h2 : i < 2 ^ 64) : mulOk i j := .inr (.inl ⟨h1, h2⟩)
theorem mul_r {i j : Int} (h1 : -(2 ^ 64) < j) (h2 : j < 2 ^ 64) : mulOk i j := .inr (.inr ⟨h1, h2⟩)
theorem ite01 (c : Prop) [Decidable c] : (0 : Int) ≤ if c then 1 else 0 := by split <;> decide
theorem a_stream (ns : List Int) (k : Nat) (hk : k ≤ 63) : ∃ a b : Int, 0 ≤ a ∧ 0 ≤ b ∧ b < 2147483647 ∧ f_stream [.scr ns, .int k] = .ok (.lst true [.int a, .int b]) [none, none] := by
 have hm1 : mulOk 7919 (k : Int) := mul_l (by decide) (by decide)
 have hm2 : mulOk (7919 * (k : Int)) (k : Int) := mul_r (by omega) (by omega)
 have hm3 : mulOk 31 (k : Int) := mul_l (by decide) (by decide)
 have hm4 : ∀ x : Int, mulOk x 48271 := fun x => mul_r (by decide) (by decide)
 have hm5 : ∀ (x : Int) (c : Prop) [Decidable c], mulOk x (if c then 1 else 0) := fun x c _ => by split <;> exact mul_r (by decide) (by decide)
 have hm6 : ∀ x : Int, mulOk x 0 := fun x => mul_r (by decide) (by decide)
 have pos : ∀ z : Int, 0 ≤ (if z < -1 - z then -1 - z else z) := fun z => by split <;> omega
 have mod : ∀ z : Int, 0 ≤ z % 2147483647 ∧ z % 2147483647 < 2147483647 := fun z => ⟨Int.emod_nonneg _ (by decide), Int.emod_lt_of_pos _ (by decide)⟩
 have hp : powOk 10 18 := by decide
 by_cases h : (k : Int) < ns.length
 · have hlt : k < ns.length := by omega
   have hat : atI ns (k : Int) = some ns[k] := atI_nat (by simp [hlt])
   have e : f_stream [.scr ns, .int k] = .ok (.lst true [.int ((if ns[k] < -1 - ns[k] then -1 - ns[k] else ns[k]) * (if 10 ^ 18 ≤ (if ns[k] < -1 - ns[k] then -1 - ns[k] else ns[k]) then 1 else 0)), .int (((if ns[k] < -1 - ns[k] then -1 - ns[k] else ns[k]) % 2147483629 + 7919 * (k : Int) * k + 31 * k + 17) * 48271 % 2147483647)]) [none, none] := by
    simp [f_stream, mBody, m_stream, h, hat, hm1, hm2, hm3, hm4, hm5, hp]
   exact ⟨_, _, Int.mul_nonneg (pos _) (ite01 _), (mod _).1, (mod _).2, e⟩
 · have e : f_stream [.scr ns, .int k] = .ok (.lst true [.int 0, .int ((7919 * (k : Int) * k + 31 * k + 17) * 48271 % 2147483647)]) [none, none] := by
     simp [f_stream, mBody, m_stream, h, hm1, hm2, hm3, hm4, hm5, hm6, hp]
   exact ⟨_, _, by decide, (mod _).1, (mod _).2, e⟩
def Stm (v : Val) : Prop := ∃ a b : Int, v = .lst true [.int a, .int b] ∧ 0 ≤ a ∧ 0 ≤ b ∧ b < 2147483647
theorem a_draw {s : Val} (hs : Stm s) {c : Int} (h0 : 0 < c) (hc : c < 2 ^ 64) : ∃ (r : Int) (s' : Val), 0 ≤ r ∧ r < c ∧ Stm s' ∧ f_draw [s, .int c] = .ok (.int r) [some s', none] := by
 obtain ⟨a, b, rfl, ha, hb, hb2⟩ := hs
 have i0 : ixN 2 0 = some 0 := by decide
 have i1 : ixN 2 1 = some 1 := by decide
 have a0 : ∀ x y : Val, atI [x, y] 0 = some x := fun x y => by simp [atI, i0]
 have a1 : ∀ x y : Val, atI [x, y] 1 = some y := fun x y => by simp [atI, i1]
 have hd : divOk c := ⟨h0, by
  have : c.natAbs < 2 ^ 64 := by omega
  have := (Nat.log2_lt (by omega)).mpr this
  omega⟩
 have hd2 : divOk 32 := by decide
 by_cases h : 0 < a
 · refine ⟨_, _, Int.emod_nonneg a (by omega), Int.emod_lt_of_pos a h0, ⟨a / c, b, rfl, Int.ediv_nonneg ha (by omega), hb, hb2⟩, ?_⟩
   simp [f_draw, mBody, m_draw, a0, a1, i0, i1, h, h0, hd]
 · have m1 : mulOk b 39373 := mul_r (by decide) (by decide)
   have m2 : mulOk ((b * 39373 + 7) % 2147483647) ((b * 39373 + 7) % 2147483647) := mul_r (by have := Int.emod_nonneg (b * 39373 + 7) (show (2147483647 : Int) ≠ 0 by decide); omega) (by have := Int.emod_lt_of_pos (b * 39373 + 7) (show (0 : Int) < 2147483647 by decide); omega)
   have e : f_draw [.lst true [.int a, .int b], .int c] = .ok (.int ((b * 39373 + 7) % 2147483647 * ((b * 39373 + 7) % 2147483647) % 2147483629 / 32 % c)) [some (.lst true [.int a, .int ((b * 39373 + 7) % 2147483647)]), none] := by
    simp [f_draw, mBody, m_draw, a0, a1, i0, i1, h, h0, hd, m1, m2, hd2]
   exact ⟨_, _, Int.emod_nonneg _ (by omega), Int.emod_lt_of_pos _ h0, ⟨a, (b * 39373 + 7) % 2147483647, rfl, ha, Int.emod_nonneg _ (by decide), Int.emod_lt_of_pos _ (by decide)⟩, e⟩
def iL (o : Bool) (xs : List Int) : Val := .lst o (xs.map Val.int)
theorem fzs_ints (xs : List Int) : fzs (xs.map Val.int) = true := by induction xs <;> simp_all [fzs, Val.fz]
theorem frzs_ints (xs : List Int) : frzs (xs.map Val.int) = xs.map Val.int := by induction xs <;> simp_all [frzs, Val.frz]
@[simp] theorem iL_fz (xs : List Int) : (iL false xs).fz = true := by simp [iL, Val.fz, fzs_ints]
@[simp] theorem iL_frz (o : Bool) (xs : List Int) : (iL o xs).frz = iL false xs := by simp [iL, Val.frz, frzs_ints]
theorem seq_nx {m1 m2 : MS} {ρ ρ' : VEnv} (h : m1 ρ = .nx ρ') : mSeq m1 m2 ρ = m2 ρ' := by simp only [mSeq, h]
theorem a_is_integer (i : Int) : f_is_integer [.int i] = .ok (.bl true) [none] := by kernel_rfl
theorem a_is_between (v l m : Int) : f_is_between [.int v, .int l, .int m] = .ok (.bl (decide (l ≤ v) && decide (v ≤ m))) [none, none, none] := by
 have e := a_is_integer v
 by_cases h1 : l ≤ v <;> by_cases h2 : v ≤ m <;> simp [f_is_between, mBody, m_is_between, mChain, e, h1, h2]
theorem bools_true : ∀ {xs : List Val}, (∀ x ∈ xs, x = .bl true) → bools xs = some (xs.map fun _ => true)
 | [], _ => rfl
 | x :: xs, h => by
  have e := bools_true (xs := xs) fun y hy => h y (List.mem_cons_of_mem _ hy)
  rw [h x List.mem_cons_self]
  simp [bools, e]
theorem all_true {xs : List Val} (h : ∀ x ∈ xs, x = .bl true) : semAll [.lst true xs] = some (.bl true) := by
 simp [semAll, bools_true h]
theorem len_ints {o : Bool} (xs : List Int) : semLen [iL o xs] = some (.int xs.length) := by simp [semLen, iL]
def rep (k n : Int) : List Int := List.replicate k.toNat n
abbrev Rl := Int × Int
def RlOk (r : Rl) : Prop := 1 ≤ r.1 ∧ r.1 ≤ 8 ∧ 1 ≤ r.2 ∧ r.2 ≤ 12
def alw1 (r : Rl) (l : Int) : Int := (r.1 * r.2 - l) / r.2
def lev1 (r : Rl) (l c : Int) : Int := if l + c * r.2 - 1 > 0 then l + c * r.2 - 1 else 0
def lv (r : Rl) (row : List Int) : Int := row.foldl (lev1 r) 0
def kept1 (r : Rl) : Int → List Int → Prop
 | _, [] => True
 | l, c :: cs => c ≤ alw1 r l ∧ kept1 r (lev1 r l c) cs
theorem alw1_le {r : Rl} (h : RlOk r) (l x : Int) : x ≤ alw1 r l ↔ l + x * r.2 ≤ r.1 * r.2 := by
 unfold alw1
 have := h.2.2.1
 rw [Int.le_ediv_iff_mul_le (by omega)]
 omega
theorem lev1_ge (r : Rl) (l c : Int) : 0 ≤ lev1 r l c := by unfold lev1; split <;> omega
theorem lev1_le (r : Rl) {l c : Int} (hb : l + c * r.2 ≤ r.1 * r.2) (h0 : 0 ≤ r.1 * r.2) : lev1 r l c ≤ r.1 * r.2 := by unfold lev1; split <;> omega
theorem lv_snoc (r : Rl) (a : List Int) (c : Int) : lv r (a ++ [c]) = lev1 r (lv r a) c := by simp [lv]
theorem fold_ge (r : Rl) : ∀ (row : List Int) {l : Int}, 0 ≤ l → 0 ≤ row.foldl (lev1 r) l
 | [], l, h => h
 | c :: cs, l, h => fold_ge r cs (lev1_ge r l c)
theorem lv_ge (r : Rl) (row : List Int) : 0 ≤ lv r row := fold_ge r row (Int.le_refl _)
theorem kept1_app {r : Rl} : ∀ {a b : List Int} {l : Int}, kept1 r l (a ++ b) ↔ kept1 r l a ∧ kept1 r (a.foldl (lev1 r) l) b
 | [], b, l => by simp [kept1]
 | c :: a, b, l => by simp [kept1, kept1_app (a := a), and_assoc]
theorem prod_ge {r : Rl} (h : RlOk r) : 0 ≤ r.1 * r.2 := Int.mul_nonneg (by have := h.1; omega) (by have := h.2.2.1; omega)
theorem kept1_lv {r : Rl} (h : RlOk r) : ∀ {a : List Int} {l : Int}, l ≤ r.1 * r.2 → kept1 r l a → a.foldl (lev1 r) l ≤ r.1 * r.2
 | [], l, hl, _ => hl
 | c :: a, l, hl, k => kept1_lv h (a := a) (l := lev1 r l c) (lev1_le r ((alw1_le h l c).mp k.1) (prod_ge h)) k.2
inductive Lss : List Int → List Int → Prop
 | nil : Lss [] []
 | cons {x y : Int} {xs ys : List Int} : x ≤ y → Lss xs ys → Lss (x :: xs) (y :: ys)
theorem Lss.take {a b : List Int} (h : Lss a b) : ∀ n, Lss (a.take n) (b.take n) := by
 induction h with
 | nil => intro n; simp; exact .nil
 | cons h t ih => intro n; cases n with
  | zero => simp; exact .nil
  | succ n => simpa using Lss.cons h (ih n)
def lvM (e : Int) : List Int → Int
 | [] => 0
 | c :: cs => if lvM e cs + c * e - 1 > 0 then lvM e cs + c * e - 1 else 0
theorem lvM_lv (r : Rl) : ∀ row : List Int, lvM r.2 row = lv r row.reverse
 | [] => rfl
 | c :: cs => by
  rw [List.reverse_cons, lv_snoc, ← lvM_lv r cs]
  rfl
theorem lvM_le (e y : Int) : ∀ rc : List Int, lvM e rc ≤ y ↔ ∀ b : Nat, b ≤ rc.length → e * (rc.take b).sum - b ≤ y
 | [] => by
  constructor
  · intro h b hb
    simp at hb
    subst hb
    simpa [lvM] using h
  · intro h; simpa [lvM] using h 0 (Nat.le_refl _)
 | c :: cs => by
  have ih := lvM_le e (y - c * e + 1) cs
  have e1 : lvM e (c :: cs) ≤ y ↔ 0 ≤ y ∧ lvM e cs ≤ y - c * e + 1 := by
   have e0 : lvM e (c :: cs) = if lvM e cs + c * e - 1 > 0 then lvM e cs + c * e - 1 else 0 := rfl
   rw [e0]
   split <;> omega
  rw [e1, ih]
  have mc : e * c = c * e := Int.mul_comm _ _
  constructor
  · rintro ⟨h0, h⟩ b hb
    cases b with
    | zero => simpa using h0
    | succ b =>
     have := h b (by simpa using hb)
     rw [List.take_succ_cons, List.sum_cons, Int.mul_add, mc]
     omega
  · intro h
    refine ⟨by simpa using h 0 (Nat.zero_le _), fun b hb => ?_⟩
    have := h (b + 1) (by simpa using hb)
    rw [List.take_succ_cons, List.sum_cons, Int.mul_add, mc] at this
    omega
def bk1 (r : Rl) (rc : List Int) (b : Nat) : Int := r.1 + (b : Int) / r.2 - (rc.take b).sum
theorem may_iff {r : Rl} (h : RlOk r) (row : List Int) (x : Int) : x ≤ alw1 r (lv r row) ↔ ∀ b : Nat, b ≤ row.length → x ≤ bk1 r row.reverse b := by
 have he := h.2.2.1
 rw [alw1_le h]
 have l1 : lv r row = lvM r.2 row.reverse := by rw [lvM_lv, List.reverse_reverse]
 have l2 := lvM_le r.2 (r.1 * r.2 - x * r.2) row.reverse
 rw [List.length_reverse, ← l1] at l2
 have e1 : lv r row + x * r.2 ≤ r.1 * r.2 ↔ lv r row ≤ r.1 * r.2 - x * r.2 := by omega
 rw [e1, l2]
 have key : ∀ b : Nat, r.2 * (row.reverse.take b).sum - b ≤ r.1 * r.2 - x * r.2 ↔ x ≤ bk1 r row.reverse b := fun b => by
  unfold bk1
  generalize (row.reverse.take b).sum = S
  have q : x ≤ r.1 + (b : Int) / r.2 - S ↔ x - r.1 + S ≤ (b : Int) / r.2 := by omega
  rw [q, Int.le_ediv_iff_mul_le (by omega), Int.add_mul, Int.sub_mul, Int.mul_comm S r.2]
  omega
 exact ⟨fun z b hb => (key b).mp (z b hb), fun z b hb => (key b).mpr (z b hb)⟩
def mn2 (a b : Int) : Int := if b < a then b else a
theorem le_mn2 (x a b : Int) : x ≤ mn2 a b ↔ x ≤ a ∧ x ≤ b := by unfold mn2; split <;> omega
def fnd (r : Rl) (rc : List Int) (f : Int) : Nat → Int
 | 0 => f
 | k + 1 => mn2 (fnd r rc f k) (bk1 r rc k)
theorem le_fnd (r : Rl) (rc : List Int) (f x : Int) : ∀ k, x ≤ fnd r rc f k ↔ x ≤ f ∧ ∀ b, b < k → x ≤ bk1 r rc b
 | 0 => by simp [fnd]
 | k + 1 => by
  unfold fnd
  rw [le_mn2, le_fnd r rc f x k]
  constructor
  · rintro ⟨⟨h1, h2⟩, h3⟩
    refine ⟨h1, fun b hb => ?_⟩
    by_cases e : b = k
    · subst e; exact h3
    · exact h2 b (by omega)
  · rintro ⟨h1, h2⟩
    exact ⟨⟨h1, fun b hb => h2 b (by omega)⟩, h2 k (by omega)⟩
def mayC (row : List Int) : List Rl → Int → Int
 | [], f => f
 | r :: rs, f => mayC row rs (fnd r row.reverse f (row.length + 1))
theorem le_mayC (row : List Int) (x : Int) : ∀ (rs : List Rl) (f : Int), (∀ r ∈ rs, RlOk r) → (x ≤ mayC row rs f ↔ x ≤ f ∧ ∀ r ∈ rs, x ≤ alw1 r (lv r row))
 | [], f, _ => by simp [mayC]
 | r :: rs, f, h => by
  unfold mayC
  rw [le_mayC row x rs _ fun q hq => h q (List.mem_cons_of_mem _ hq), le_fnd]
  have m := may_iff (h r List.mem_cons_self) row x
  simp only [List.mem_cons, forall_eq_or_imp]
  rw [m]
  constructor
  · rintro ⟨⟨a, b⟩, c⟩; exact ⟨a, fun k hk => b k (by omega), c⟩
  · rintro ⟨a, b, c⟩; exact ⟨⟨a, fun k hk => b k (by omega)⟩, c⟩
def Kept (rs : List Rl) (row : List Int) : Prop := ∀ r ∈ rs, kept1 r 0 row
theorem kept_snoc {rs : List Rl} {row : List Int} {c : Int} (k : Kept rs row) (hc : ∀ r ∈ rs, c ≤ alw1 r (lv r row)) : Kept rs (row ++ [c]) := fun r hr => kept1_app.mpr ⟨k r hr, hc r hr, trivial⟩
theorem kept_zero {rs : List Rl} (ok : ∀ r ∈ rs, RlOk r) {row : List Int} (k : Kept rs row) : ∀ r ∈ rs, 0 ≤ alw1 r (lv r row) := fun r hr => by
 rw [alw1_le (ok r hr)]
 have := kept1_lv (ok r hr) (prod_ge (ok r hr)) (k r hr)
 have e : (row.foldl (lev1 r) 0) = lv r row := rfl
 rw [e] at this
 omega
theorem alw1_most {r : Rl} (h : RlOk r) (row : List Int) : alw1 r (lv r row) ≤ 8 := by
 refine Int.not_lt.mp fun z => ?_
 have := (alw1_le h (lv r row) 9).mp z
 have h0 := lv_ge r row
 have h1 : r.1 * r.2 ≤ 8 * r.2 := Int.mul_le_mul_of_nonneg_right h.2.1 (by have := h.2.2.1; omega)
 have := h.2.2.1
 omega
def rV (r : Rl) : Val := .tup [.int r.1, .int r.2]
def rsV (o : Bool) (rs : List Rl) : Val := .lst o (rs.map rV)
def bdV (o : Bool) (rs : List Rl) : Val := .obj o 0 ["ruled"] [rsV o rs]
def tI (xs : List Int) : Val := .tup (xs.map Val.int)
def lvs (rs : List Rl) (row : List Int) : Val := tI (rs.map fun r => lv r row)
theorem rV_fz (r : Rl) : (rV r).fz = true := rfl
theorem rsV_fzs (rs : List Rl) : fzs (rs.map rV) = true := by rw [fzs_all]; simp [rV_fz]
theorem rsV_fz (rs : List Rl) : (rsV false rs).fz = true := by simp [rsV, Val.fz, rsV_fzs]
theorem bdV_fz (rs : List Rl) : (bdV false rs).fz = true := by simp [bdV, Val.fz, fzs, rsV_fz]
theorem tI_fz (xs : List Int) : (tI xs).fz = true := by simp [tI, Val.fz, fzs_ints]
theorem lvs_fz (rs : List Rl) (row : List Int) : (lvs rs row).fz = true := tI_fz _
theorem mul_ok8 {a b : Int} (h : -(2 ^ 64) < b) (h2 : b < 2 ^ 64) : mulOk a b := .inr (.inr ⟨h, h2⟩)
theorem div_ok12 {b : Int} (h : 1 ≤ b) (h2 : b ≤ 12) : divOk b := by
 have : b = 1 ∨ b = 2 ∨ b = 3 ∨ b = 4 ∨ b = 5 ∨ b = 6 ∨ b = 7 ∨ b = 8 ∨ b = 9 ∨ b = 10 ∨ b = 11 ∨ b = 12 := by omega
 rcases this with h | h | h | h | h | h | h | h | h | h | h | h <;> subst h <;> decide
theorem lcL_mapR {α : Type} {g : MG} {me : ME} {own : List Nat} {F K : α → Val} {ρ : VEnv} : ∀ {rs : List α} {acc : List Val}, (∀ r ∈ rs, ∃ ρ1 ρ2, g (F r) ρ = some ρ1 ∧ me ρ1 = .ok (K r) ρ2 ∧ wipeV ρ2 own = ρ) → acc.length + rs.length ≤ 16777216 → lcL g mYes me own (rs.map F) acc ρ = .ok (.lst true (acc ++ rs.map K)) ρ
 | [], acc, _, _ => by simp [lcL]
 | r :: rs, acc, h, hl => by
  rw [List.length_cons] at hl
  obtain ⟨ρ1, ρ2, e1, e2, e3⟩ := h r List.mem_cons_self
  have ih := lcL_mapR (rs := rs) (acc := acc ++ [K r]) (fun q hq => h q (List.mem_cons_of_mem _ hq)) (by simp; omega)
  rw [List.map_cons]
  unfold lcL
  simp only [e1, mYes, if_true]
  simp only [e2]
  rw [if_pos (by omega), e3, ih]
  simp
theorem E_lcM {α : Type} {mi : MI} {g : MG} {me : ME} {own : List Nat} {F K : α → Val} {ρ : VEnv} {rs : List α} (hi : mi ρ = .ok (rs.map F) ρ) (hw : wipeV ρ own = ρ) (h : ∀ r ∈ rs, ∃ ρ1 ρ2, g (F r) ρ = some ρ1 ∧ me ρ1 = .ok (K r) ρ2 ∧ wipeV ρ2 own = ρ) (hl : rs.length ≤ 16777216) : mLc mi g mYes me own ρ = .ok (.lst true (rs.map K)) ρ := by
 unfold mLc
 rw [hi]
 show lcL g mYes me own (rs.map F) [] (wipeV ρ own) = _
 rw [hw, lcL_mapR h (by simpa using hl)]
 rfl
theorem E_lcM1 {α : Type} {mi : MI} {g : MG} {me : ME} {own : List Nat} {F K : α → Val} {ρ : VEnv} {rs : List α} (hi : mi ρ = .ok (rs.map F) ρ) (hw : wipeV ρ own = ρ) (h : ∀ r ∈ rs, ∃ ρ1, g (F r) ρ = some ρ1 ∧ me ρ1 = .ok (K r) ρ1 ∧ wipeV ρ1 own = ρ) (hl : rs.length ≤ 16777216) : mLc mi g mYes me own ρ = .ok (.lst true (rs.map K)) ρ :=
 E_lcM hi hw (fun r hr => let ⟨ρ1, a, b, c⟩ := h r hr; ⟨ρ1, ρ1, a, b, c⟩) hl
theorem zip_lvs (f : Rl → Int) : ∀ rs : List Rl, zipV ((rs.map f).map Val.int) (rs.map rV) = rs.map fun r => .tup [.int (f r), rV r]
 | [] => rfl
 | r :: rs => by
  show Val.tup [.int (f r), rV r] :: zipV ((rs.map f).map Val.int) (rs.map rV) = _
  rw [zip_lvs f rs]; rfl
theorem E_zipM {m1 m2 : ME} {ρ : VEnv} {f : Rl → Int} {rs : List Rl} (h1 : m1 ρ = .ok (tI (rs.map f)) ρ) (h2 : m2 ρ = .ok (rsV false rs) ρ) : mZipM m1 m2 ρ = .ok (rs.map fun r => .tup [.int (f r), rV r]) ρ := by
 unfold mZipM
 have e : evalM [m1, m2] ρ = .ok [tI (rs.map f), rsV false rs] ρ := by simp [evalM, h1, h2]
 rw [e]
 show (if fzs ((rs.map f).map Val.int) = true ∧ ((rs.map f).map Val.int).length = (rs.map rV).length then _ else _) = _
 rw [if_pos ⟨fzs_ints _, by simp⟩, zip_lvs]
def mn : List Int → Int
 | [] => 0
 | x :: xs => minL x xs
theorem le_mn {x : Int} : ∀ {xs : List Int}, xs ≠ [] → (x ≤ mn xs ↔ ∀ y ∈ xs, x ≤ y)
 | [], h => absurd rfl h
 | a :: as, _ => by
  constructor
  · intro h y hy
    exact Int.le_trans h (minL_le a as y hy)
  · intro h
    exact h _ (minL_mem a as)
def alwP (rs : List Rl) (row : List Int) : Int := mn (rs.map fun r => alw1 r (lv r row))
theorem le_alwP {rs : List Rl} (h0 : rs ≠ []) (row : List Int) (x : Int) : x ≤ alwP rs row ↔ ∀ r ∈ rs, x ≤ alw1 r (lv r row) := by
 unfold alwP
 rw [le_mn (by simpa using h0)]
 constructor
 · exact fun h r hr => h _ (List.mem_map.mpr ⟨r, hr, rfl⟩)
 · intro h y hy
   obtain ⟨r, hr, rfl⟩ := List.mem_map.mp hy
   exact h r hr
structure RsOk (rs : List Rl) : Prop where
 ne : rs ≠ []
 len : rs.length ≤ 3
 ok : ∀ r ∈ rs, RlOk r
theorem a_allowed_at {rs : List Rl} (ok : RsOk rs) (row : List Int) : f_allowed_at [rsV false rs, lvs rs row] = .ok (.int (alwP rs row)) [none, none] := by
 have e1 : mLc (mZipM (mVar 1) (mVar 0)) (gTupV (gConsV (gV 2) (gConsV (gTupV (gConsV (gV 3) (gConsV (gV 4) gNilV)) 2) gNilV)) 2) mYes (mFun semDiv [(mFun semSub [(mFun semMul [(mVar 3), (mVar 4)]), (mVar 2)]), (mVar 4)]) [2, 3, 4] [some (rsV false rs), some (lvs rs row), none, none, none] =
     .ok (.lst true (rs.map fun r => .int (alw1 r (lv r row)))) [some (rsV false rs), some (lvs rs row), none, none, none] := by
  refine E_lcM1 (E_zipM (E_var rfl) (E_var rfl)) rfl (fun r hr => ⟨[some (rsV false rs), some (lvs rs row), some (.int (lv r row)), some (.int r.1), some (.int r.2)], rfl, ?_, rfl⟩) (by have := ok.len; omega)
  have k := ok.ok r hr
  have h1 : semMul [.int r.1, .int r.2] = some (.int (r.1 * r.2)) := if_pos (mul_ok8 (by have := k.2.2.1; omega) (by have := k.2.2.2; omega))
  have h2 : semSub [.int (r.1 * r.2), .int (lv r row)] = some (.int (r.1 * r.2 - lv r row)) := rfl
  have h3 : semDiv [.int (r.1 * r.2 - lv r row), .int r.2] = some (.int (alw1 r (lv r row))) := if_pos (div_ok12 k.2.2.1 k.2.2.2)
  exact E_f2 (E_f2 (E_f2 (E_var rfl) (E_var rfl) h1) (E_var rfl) h2) (E_var rfl) h3
 refine E_body (ρ0 := [some (rsV false rs), some (lvs rs row), none, none, none]) rfl (E_ret (E_f1 e1 ?_))
 have e2 : (rs.map fun r => Val.int (alw1 r (lv r row))) = (rs.map fun r => alw1 r (lv r row)).map Val.int := by simp
 rw [e2]
 show (match intsL ((rs.map fun r => alw1 r (lv r row)).map Val.int) with | some (n :: ns) => some (Val.int (minL n ns)) | _ => none) = _
 rw [intsL_map]
 unfold alwP
 cases rs with
 | nil => exact absurd rfl ok.ne
 | cons r rs => rfl
theorem a_levels_behind {rs : List Rl} (ok : RsOk rs) (row : List Int) (c : Int) : f_levels_behind [rsV false rs, lvs rs row, .int c] = .ok (lvs rs (row ++ [c])) [none, none, none] := by
 have e1 : mLc (mZipM (mVar 1) (mVar 0)) (gTupV (gConsV (gV 3) (gConsV (gTupV (gConsV (gV 4) (gConsV (gV 5) gNilV)) 2) gNilV)) 2) mYes (mFun semMax2 [(mC (.int 0)), (mFun semSub [(mFun semAdd [(mVar 3), (mFun semMul [(mVar 2), (mVar 5)])]), (mC (.int 1))])]) [3, 4, 5] [some (rsV false rs), some (lvs rs row), some (.int c), none, none, none] =
     .ok (.lst true (rs.map fun r => .int (lv r (row ++ [c])))) [some (rsV false rs), some (lvs rs row), some (.int c), none, none, none] := by
  refine E_lcM1 (E_zipM (E_var rfl) (E_var rfl)) rfl (fun r hr => ⟨[some (rsV false rs), some (lvs rs row), some (.int c), some (.int (lv r row)), some (.int r.1), some (.int r.2)], rfl, ?_, rfl⟩) (by have := ok.len; omega)
  have k := ok.ok r hr
  rw [lv_snoc]
  have h1 : semMul [.int c, .int r.2] = some (.int (c * r.2)) := if_pos (mul_ok8 (by have := k.2.2.1; omega) (by have := k.2.2.2; omega))
  have h2 : semAdd [.int (lv r row), .int (c * r.2)] = some (.int (lv r row + c * r.2)) := rfl
  have h3 : semSub [.int (lv r row + c * r.2), .int 1] = some (.int (lv r row + c * r.2 - 1)) := rfl
  have h4 : semMax2 [.int 0, .int (lv r row + c * r.2 - 1)] = some (.int (lev1 r (lv r row) c)) := rfl
  exact E_f2 E_c (E_f2 (E_f2 (E_var rfl) (E_f2 (E_var rfl) (E_var rfl) h1) h2) E_c h3) h4
 refine E_body (ρ0 := [some (rsV false rs), some (lvs rs row), some (.int c), none, none, none]) rfl (E_ret (E_f1 e1 ?_))
 have e2 : (rs.map fun r => Val.int (lv r (row ++ [c]))) = (rs.map fun r => lv r (row ++ [c])).map Val.int := by simp
 rw [e2]
 show (if fzs ((rs.map fun r => lv r (row ++ [c])).map Val.int) = true then _ else _) = _
 rw [if_pos (fzs_ints _)]
 rfl
theorem z_first {rs : List Rl} (ok : RsOk rs) : semMulT [.tup [.int 0], .int (rs.length : Int)] = some (lvs rs []) := by
 have h0 : 0 < rs.length := List.length_pos_iff.mpr ok.ne
 have h3 := ok.len
 show (if [Val.int 0] ≠ [] ∧ 1 ≤ (rs.length : Int) ∧ (rs.length : Int) ≤ 1000 ∧ [Val.int 0].length ≤ 1000 ∧ fzs [Val.int 0] = true then some (Val.tup (List.replicate (rs.length : Int).toNat [Val.int 0]).flatten) else none) = _
 rw [if_pos ⟨by simp, by omega, by omega, by decide, rfl⟩]
 have e : ∀ l : List Rl, (List.replicate l.length [Val.int 0]).flatten = (l.map fun r => lv r []).map Val.int := by
  intro l
  induction l with
  | nil => rfl
  | cons r l ih => simp only [List.length_cons, List.replicate_succ, List.flatten_cons, ih]; rfl
 rw [Int.toNat_natCast, e]
 rfl
theorem fl_ruled (rs : List Rl) : semFld [0] "ruled" [bdV false rs] = some (rsV false rs) := by
 have : semFld [0] "ruled" [bdV false rs] = if (rsV false rs).fz = true then some (rsV false rs) else none := by kernel_rfl
 rw [this, if_pos (rsV_fz rs)]
theorem a_check_bound (rs : List Rl) : f_check_bound [bdV false rs] = .ok .non [none] := by
 have c1 : mNot (mFun (semIsi sub) [(mVar 0), (mC (.cn 0))]) [some (bdV false rs)] = .ok (.bl false) [some (bdV false rs)] := E_notF (E_f2 (E_var rfl) E_c (by kernel_rfl))
 exact E_bodyN (ρ0 := [some (bdV false rs)]) (ρ' := [some (bdV false rs)]) rfl ((E_ifF c1).trans E_next)
theorem take_sum {row : List Int} {k : Nat} (h : k < row.length) : (row.reverse.take (k + 1)).sum = (row.reverse.take k).sum + row[row.length - 1 - k] := by
 have hk : k < row.reverse.length := by simpa using h
 rw [List.take_succ_eq_append_getElem hk, List.sum_append, List.getElem_reverse]
 simp
theorem may_inner {row : List Int} (hl : row.length ≤ 5000) (R : Val) (r : Rl) (ok : RlOk r) (f : Int) (x6 : Option Val) : ∃ y5 y6, mFor (mRng1 (mFun semAdd [(mFun semLen [(mVar 1)]), (mC (.int 1))])) (gV 6) m_may_come_b1 [some R, some (iL false row), some (.int f), some (.int r.1), some (.int r.2), some (.int 0), x6] =
    .nx [some R, some (iL false row), some (.int (fnd r row.reverse f (row.length + 1))), some (.int r.1), some (.int r.2), y5, y6] := by
 have z := R_forN (n := row.length + 1) (g := gV 6) (body := m_may_come_b1) (ρ := [some R, some (iL false row), some (.int f), some (.int r.1), some (.int r.2), some (.int 0), x6]) (ρ1 := [some R, some (iL false row), some (.int f), some (.int r.1), some (.int r.2), some (.int 0), x6])
  (mi := mRng1 (mFun semAdd [(mFun semLen [(mVar 1)]), (mC (.int 1))])) (J := fun k ρ => ∃ x, ρ = [some R, some (iL false row), some (.int (fnd r row.reverse f k)), some (.int r.1), some (.int r.2), some (.int ((row.reverse.take (k - 1)).sum)), x])
  (E_rng1 (n := row.length + 1) (E_f2 (E_f1 (E_var rfl) (len_ints row)) E_c rfl) (by omega)) ⟨x6, by simp [fnd]⟩ fun k ρ hk ⟨x, hρ⟩ => by
   subst hρ
   refine ⟨[some R, some (iL false row), some (.int (fnd r row.reverse f k)), some (.int r.1), some (.int r.2), some (.int ((row.reverse.take (k - 1)).sum)), some (.int (k : Int))], rfl, ?_⟩
   have t1 : mIfS (mFun (semCmp fun i j => decide (j < i)) [(mVar 6), (mC (.int 0))]) (mSet 5 (mFun semAdd [(mVar 5), (mFun semIx [(mVar 1), (mFun semSub [(mFun semLen [(mVar 1)]), (mVar 6)])])])) mNext [some R, some (iL false row), some (.int (fnd r row.reverse f k)), some (.int r.1), some (.int r.2), some (.int ((row.reverse.take (k - 1)).sum)), some (.int (k : Int))] =
       .nx [some R, some (iL false row), some (.int (fnd r row.reverse f k)), some (.int r.1), some (.int r.2), some (.int ((row.reverse.take k).sum)), some (.int (k : Int))] := by
    have ec : mFun (semCmp fun i j => decide (j < i)) [(mVar 6), (mC (.int 0))] [some R, some (iL false row), some (.int (fnd r row.reverse f k)), some (.int r.1), some (.int r.2), some (.int ((row.reverse.take (k - 1)).sum)), some (.int (k : Int))] = .ok (.bl (decide ((0 : Int) < (k : Int)))) [some R, some (iL false row), some (.int (fnd r row.reverse f k)), some (.int r.1), some (.int r.2), some (.int ((row.reverse.take (k - 1)).sum)), some (.int (k : Int))] := E_f2 (E_var rfl) E_c rfl
    cases k with
    | zero => exact (E_ifF ec).trans rfl
    | succ k =>
     rw [show decide ((0 : Int) < ((k + 1 : Nat) : Int)) = true by simp <;> omega] at ec
     have hk' : k < row.length := by omega
     have hi : row.length - 1 - k < row.length := by omega
     have ix : semIx [iL false row, .int ((row.length : Int) - ((k + 1 : Nat) : Int))] = some (.int (row[row.length - 1 - k])) := by
      have e1 : atI (row.map Val.int) ((row.length : Int) - ((k + 1 : Nat) : Int)) = some (.int (row[row.length - 1 - k])) := by
       have e2 : ((row.length : Int) - ((k + 1 : Nat) : Int)) = ((row.length - 1 - k : Nat) : Int) := by omega
       rw [e2]
       exact atI_nat (by rw [List.getElem?_map, List.getElem?_eq_getElem hi]; rfl)
      show (match atI (row.map Val.int) ((row.length : Int) - ((k + 1 : Nat) : Int)) with | some v => if v.fz = true then some v else none | none => none) = _
      rw [e1]; rfl
     refine (E_ifT ec).trans (E_set (E_f2 (E_var rfl) (E_f2 (E_var rfl) (E_f2 (E_f1 (E_var rfl) (len_ints row)) (E_var rfl) rfl) ix) rfl) (by simp) ?_)
     rw [take_sum hk', Nat.add_sub_cancel]
     rfl
   have hd : semDiv [.int (k : Int), .int r.2] = some (.int ((k : Int) / r.2)) := if_pos (div_ok12 ok.2.2.1 ok.2.2.2)
   have ha : semAdd [.int r.1, .int ((k : Int) / r.2)] = some (.int (r.1 + (k : Int) / r.2)) := rfl
   have hs : semSub [.int (r.1 + (k : Int) / r.2), .int ((row.reverse.take k).sum)] = some (.int (bk1 r row.reverse k)) := rfl
   have hm : semMin2 [.int (fnd r row.reverse f k), .int (bk1 r row.reverse k)] = some (.int (fnd r row.reverse f (k + 1))) := rfl
   have e3 : mFun semMin2 [(mFun semInt [(mVar 2)]), (mFun semInt [(mFun semSub [(mFun semAdd [(mVar 3), (mFun semDiv [(mVar 6), (mVar 4)])]), (mVar 5)])])] [some R, some (iL false row), some (.int (fnd r row.reverse f k)), some (.int r.1), some (.int r.2), some (.int ((row.reverse.take k).sum)), some (.int (k : Int))] = .ok (.int (fnd r row.reverse f (k + 1))) [some R, some (iL false row), some (.int (fnd r row.reverse f k)), some (.int r.1), some (.int r.2), some (.int ((row.reverse.take k).sum)), some (.int (k : Int))] :=
    E_f2 (E_f1 (E_var rfl) rfl) (E_f1 (E_f2 (E_f2 (E_var rfl) (E_f2 (E_var rfl) (E_var rfl) hd) ha) (E_var rfl) hs) rfl) hm
   exact R_seq t1 (R_setE e3 (by simp) rfl ⟨some (.int (k : Int)), by rw [Nat.add_sub_cancel]; rfl⟩)
 obtain ⟨_, e, x, rfl⟩ := z
 exact ⟨_, _, e⟩
theorem may_outer {row : List Int} (hl : row.length ≤ 5000) (R : Val) : ∀ (rs : List Rl) (f : Int) (x3 x4 x5 x6 : Option Val), (∀ r ∈ rs, RlOk r) → ∃ y3 y4 y5 y6, forL (gTupV (gConsV (gV 3) (gConsV (gV 4) gNilV)) 2) m_may_come_b2 (rs.map rV) [some R, some (iL false row), some (.int f), x3, x4, x5, x6] = .nx [some R, some (iL false row), some (.int (mayC row rs f)), y3, y4, y5, y6]
 | [], f, x3, x4, x5, x6, _ => ⟨x3, x4, x5, x6, rfl⟩
 | r :: rs, f, x3, x4, x5, x6, h => by
  obtain ⟨y5, y6, e⟩ := may_inner hl R r (h r List.mem_cons_self) f x6
  obtain ⟨z3, z4, z5, z6, e2⟩ := may_outer hl R rs (fnd r row.reverse f (row.length + 1)) (some (.int r.1)) (some (.int r.2)) y5 y6 fun q hq => h q (List.mem_cons_of_mem _ hq)
  refine ⟨z3, z4, z5, z6, E_forC (ρ1 := [some R, some (iL false row), some (.int f), some (.int r.1), some (.int r.2), x5, x6]) rfl ?_ e2⟩
  exact E_seq (E_set (ρ2 := [some R, some (iL false row), some (.int f), some (.int r.1), some (.int r.2), some (.int 0), x6]) E_c (by simp) rfl) e
theorem a_may_come {rs : List Rl} (ok : RsOk rs) {row : List Int} (hl : row.length ≤ 5000) : f_may_come [rsV false rs, iL false row] = .ok (.int (mayC row rs 99)) [none, none] := by
 obtain ⟨y3, y4, y5, y6, e⟩ := may_outer hl (rsV false rs) rs 99 none none none none ok.ok
 refine E_body (ρ0 := [some (rsV false rs), some (iL false row), none, none, none, none, none]) (ρ' := [some (rsV false rs), some (iL false row), some (.int (mayC row rs 99)), y3, y4, y5, y6]) rfl ?_
 unfold m_may_come
 rw [seq_nx (E_set (ρ2 := [some (rsV false rs), some (iL false row), some (.int 99), none, none, none, none]) E_c (by simp) rfl), seq_nx (E_for (E_itL (E_var rfl)) e)]
 exact E_ret (E_stab rfl rfl)
theorem E_appN {i : Nat} {ρ ρ1 ρ' : VEnv} {m : ME} {v : Val} {xs ys : List Val} (h00 : ρ[i]? = some (some (.lst true ys))) (h : m ρ = .ok v ρ1) (h0 : ρ1[i]? = some (some (.lst true xs))) (hl : xs.length < 1000000) (e : ρ1.set i (some (.lst true (xs ++ [v]))) = ρ') : mDrop (mLopN i fApp m) ρ = .nx ρ' := by
 have h2 : fApp xs v = some (xs ++ [v]) := if_pos (by omega)
 simp only [mDrop, mLopN, h00, h, h0, h2, e]
theorem rV_inj {p q : Rl} (h : rV p = rV q) : p = q := by
 obtain ⟨a, b⟩ := p
 obtain ⟨c, d⟩ := q
 simp [rV] at h
 rw [h.1, h.2]
def rD (r : Rl) : PyData := .tuple [.int r.1, .int r.2]
theorem toD_rV (r : Rl) : toD (rV r) = some (rD r) := by simp [rV, toD, toDs, rD]
theorem toDs_rV : ∀ L : List Rl, toDs (L.map rV) = some (L.map rD)
 | [] => rfl
 | r :: L => by simp [toDs, toD_rV, toDs_rV L]
theorem eqv_rD (p q : Rl) : PyData.eqv (rD p) (rD q) = decide (p = q) := by
 obtain ⟨a, b⟩ := p
 obtain ⟨c, d⟩ := q
 rw [Bool.eq_iff_iff]
 simp [rD, PyData.eqv, PyData.eqvAll, Prod.ext_iff]
theorem shaped_rD (r : Rl) : SeqAt.shaped (rD r) = true := by
 obtain ⟨a, b⟩ := r
 rfl
theorem shaped_rDs {L : List Rl} (h : L.length ≤ 3) : SeqAt.shaped (.list (L.map rD)) = true := by
 match L, h with
 | [], _ => rfl
 | [a], _ => rfl
 | [a, b], _ => rfl
 | [a, b, c], _ => rfl
 | _ :: _ :: _ :: _ :: _, h => simp at h
theorem sem_inP {o : Bool} {L : List Rl} (h : L.length ≤ 3) (r : Rl) : semInP true [rV r, .lst o (L.map rV)] = some (.bl (!(decide (r ∈ L)))) := by
 show (match toD (rV r), toDs (L.map rV) with | some d, some ds => (if SeqAt.shaped d = true ∧ SeqAt.shaped (.list ds) = true then some (Val.bl (xor true (ds.any fun z => PyData.eqv z d))) else none) | _, _ => none) = _
 rw [toD_rV, toDs_rV]
 show (if SeqAt.shaped (rD r) = true ∧ SeqAt.shaped (.list (L.map rD)) = true then some (Val.bl (xor true ((L.map rD).any fun z => PyData.eqv z (rD r)))) else none) = _
 rw [if_pos ⟨shaped_rD r, shaped_rDs h⟩]
 have e : ((L.map rD).any fun z => PyData.eqv z (rD r)) = decide (r ∈ L) := by
  induction L with
  | nil => rfl
  | cons q L ih =>
   have ih := ih (by simp at h; omega)
   rw [List.map_cons, List.any_cons, ih, eqv_rD]
   by_cases e : q = r
   · subst e; simp
   · have e' : ¬ r = q := fun z => e z.symm
     simp [e, e']
 rw [e]
 simp
structure Rules (rs : List Rl) : Prop extends RsOk rs where
 nd : rs.Nodup
theorem a_three {s : Val} (hs : Stm s) {M E : Int} (hM : 1 ≤ M ∧ M ≤ 8) (hE : 1 ≤ E ∧ E ≤ 12) : ∃ (rs : List Rl) (s' : Val), Rules rs ∧ (∀ r ∈ rs, r.1 ≤ M ∧ r.2 ≤ E) ∧ Stm s' ∧ f_three [s, .int M, .int E] = .ok (rsV false rs) [some s', none, none] := by
 obtain ⟨d, s1, d0, d1, hs1, ed⟩ := a_draw hs (c := 3) (by omega) (by omega)
 obtain ⟨n, rfl⟩ := Int.eq_ofNat_of_zero_le d0
 have z := R_forN (n := n + 1) (g := gV 4) (body := m_three_b1) (mi := mRng1 (mFun semAdd [(mC (.int 1)), (mCall f_draw [.r 0, .v ⟨true, true, (mC (.int 3))⟩])])) (ρ := [some s, some (.int M), some (.int E), some (.lst true []), none, none]) (ρ1 := [some s1, some (.int M), some (.int E), some (.lst true []), none, none])
  (J := fun k ρ => ∃ (s : Val) (L : List Rl) (x4 x5 : Option Val), Stm s ∧ L.Nodup ∧ (∀ r ∈ L, 1 ≤ r.1 ∧ r.1 ≤ M ∧ 1 ≤ r.2 ∧ r.2 ≤ E) ∧ L.length ≤ k ∧ (1 ≤ k → L ≠ []) ∧ ρ = [some s, some (.int M), some (.int E), some (.lst true (L.map rV)), x4, x5])
  (E_rng1 (n := n + 1) (by
   have e := E_f2 (sm := semAdd) (m1 := mC (.int 1)) (ρ := [some s, some (.int M), some (.int E), some (.lst true []), none, none]) E_c (E_callR2 (p1 := true) (s1 := true) (m := mC (.int 3)) (f := f_draw) (i := 0) (a := s) (b := .int 3) (ρ1 := [some s, some (.int M), some (.int E), some (.lst true []), none, none]) E_c rfl ⟨_, rfl⟩ ed rfl) (v := .int (1 + (n : Int))) rfl
   rw [show ((n + 1 : Nat) : Int) = 1 + (n : Int) by omega]
   exact e) (by omega)) ⟨s1, [], none, none, hs1, List.nodup_nil, fun r h => (nomatch h), Nat.le_refl _, fun h => absurd h (by decide), rfl⟩ fun k ρ hk ⟨s, L, x4, x5, hs, nd, hr, hl, hne, hρ⟩ => by
   subst hρ
   refine ⟨[some s, some (.int M), some (.int E), some (.lst true (L.map rV)), some (.int (k : Int)), x5], rfl, ?_⟩
   obtain ⟨a, t1, a0, a1, ht1, ea⟩ := a_draw hs (c := M) (by omega) (by omega)
   obtain ⟨b, t2, b0, b1, ht2, eb⟩ := a_draw ht1 (c := E) (by omega) (by omega)
   have u1 : mFun semAdd [(mC (.int 1)), (mCall f_draw [.r 0, .v ⟨true, true, (mStab (mVar 1))⟩])] [some s, some (.int M), some (.int E), some (.lst true (L.map rV)), some (.int (k : Int)), x5] = .ok (.int (1 + a)) [some t1, some (.int M), some (.int E), some (.lst true (L.map rV)), some (.int (k : Int)), x5] :=
    E_f2 E_c (E_callR2 (E_stab rfl rfl) rfl ⟨_, rfl⟩ ea rfl) rfl
   have u2 : mFun semAdd [(mC (.int 1)), (mCall f_draw [.r 0, .v ⟨true, true, (mStab (mVar 2))⟩])] [some t1, some (.int M), some (.int E), some (.lst true (L.map rV)), some (.int (k : Int)), x5] = .ok (.int (1 + b)) [some t2, some (.int M), some (.int E), some (.lst true (L.map rV)), some (.int (k : Int)), x5] :=
    E_f2 E_c (E_callR2 (E_stab rfl rfl) rfl ⟨_, rfl⟩ eb rfl) rfl
   have u3 : mTup [(mFun semAdd [(mC (.int 1)), (mCall f_draw [.r 0, .v ⟨true, true, (mStab (mVar 1))⟩])]), (mFun semAdd [(mC (.int 1)), (mCall f_draw [.r 0, .v ⟨true, true, (mStab (mVar 2))⟩])])] [some s, some (.int M), some (.int E), some (.lst true (L.map rV)), some (.int (k : Int)), x5] = .ok (rV (1 + a, 1 + b)) [some t2, some (.int M), some (.int E), some (.lst true (L.map rV)), some (.int (k : Int)), x5] :=
    E_tupM (EM_cons u1 (EM_cons u2 EM_nil))
   refine R_seq (E_set (ρ2 := [some t2, some (.int M), some (.int E), some (.lst true (L.map rV)), some (.int (k : Int)), some (rV (1 + a, 1 + b))]) u3 (by simp) rfl) ?_
   have e1 := sem_inP (o := true) (L := L) (by omega) (1 + a, 1 + b)
   have c1 : mFun (semInP true) [(mVar 5), (mVar 3)] [some t2, some (.int M), some (.int E), some (.lst true (L.map rV)), some (.int (k : Int)), some (rV (1 + a, 1 + b))] = .ok (.bl (!(decide ((1 + a, 1 + b) ∈ L)))) [some t2, some (.int M), some (.int E), some (.lst true (L.map rV)), some (.int (k : Int)), some (rV (1 + a, 1 + b))] := E_f2 (E_var rfl) (E_var rfl) e1
   by_cases hm : (1 + a, 1 + b) ∈ L
   · rw [show (!(decide ((1 + a, 1 + b) ∈ L))) = false by simp [hm]] at c1
     exact R_end ((E_ifF c1).trans E_next) ⟨t2, L, _, _, ht2, nd, hr, by omega, fun _ z => (by rw [z] at hm; cases hm), rfl⟩
   · rw [show (!(decide ((1 + a, 1 + b) ∈ L))) = true by simp [hm]] at c1
     refine R_end ((E_ifT c1).trans (E_app (xs := L.map rV) (E_stab rfl rfl) rfl (by simp; omega) rfl)) ⟨t2, L ++ [(1 + a, 1 + b)], _, _, ht2, ?_, fun r hr' => ?_, by simp; omega, fun _ => by simp, by simp; exact ⟨rfl, rfl⟩⟩
     · rw [List.nodup_append]
       exact ⟨nd, by simp, fun x hx y hy => by rw [List.mem_singleton.mp hy]; exact fun z => hm (z ▸ hx)⟩
     · rcases List.mem_append.mp hr' with h | h
       · exact hr r h
       · rw [List.mem_singleton.mp h]; exact ⟨by show 1 ≤ 1 + a; omega, by show 1 + a ≤ M; omega, by show 1 ≤ 1 + b; omega, by show 1 + b ≤ E; omega⟩
 obtain ⟨_, e, s', L, x4, x5, hs', nd, hr, hl, hne, rfl⟩ := z
 refine ⟨L, s', ⟨⟨hne (by omega), by omega, fun r h => let ⟨p1, p2, p3, p4⟩ := hr r h; ⟨p1, by omega, p3, by omega⟩⟩, nd⟩, fun r h => ⟨(hr r h).2.1, (hr r h).2.2.2⟩, hs', E_body (ρ0 := [some s, some (.int M), some (.int E), none, none, none]) (ρ' := [some s', some (.int M), some (.int E), some (rsV false L), x4, x5]) rfl ?_⟩
 unfold m_three
 rw [seq_nx (E_set (ρ2 := [some s, some (.int M), some (.int E), some (.lst true []), none, none]) (m := mLst []) (ρ' := [some s, some (.int M), some (.int E), none, none, none]) (v := .lst true []) rfl (by simp) rfl), seq_nx e]
 refine E_ret (E_frz rfl (?_ : (Val.lst true (L.map rV)).frz = rsV false L) rfl)
 simp only [Val.frz, rsV]
 congr 1
 rw [frzs_map, List.map_map]
 apply List.map_congr_left
 intro r _
 rfl
theorem a_is_rule {r : Rl} (ok : RlOk r) : f_is_rule [rV r] = .ok (.bl true) [none] := by
 obtain ⟨m, e⟩ := r
 obtain ⟨h1, h2, h3, h4⟩ := ok
 have c1 : mOr (mNot (mFun (semIsi sub) [(mVar 0), (mC (.ty "tuple"))])) (mFun semNe [(mFun semLen [(mVar 0)]), (mC (.int 2))]) [some (rV (m, e))] = .ok (.bl false) [some (rV (m, e))] :=
  E_orF (E_notF (E_f2 (E_var rfl) E_c (by kernel_rfl))) (E_f2 (E_f1 (E_var rfl) rfl) E_c (ne_int _ _))
 have b1 := a_is_between m 1 8
 have b2 := a_is_between e 1 12
 rw [show (decide (1 ≤ m) && decide (m ≤ 8)) = true by simp; exact ⟨h1, h2⟩] at b1
 rw [show (decide (1 ≤ e) && decide (e ≤ 12)) = true by simp; exact ⟨h3, h4⟩] at b2
 refine E_body (ρ0 := [some (rV (m, e))]) (ρ' := [some (rV (m, e))]) rfl ?_
 unfold m_is_rule
 rw [seq_nx ((E_ifF c1).trans E_next)]
 exact E_ret (E_andB (E_call3 (E_f2 (E_var rfl) E_c rfl) E_c E_c b1) (E_call3 (E_f2 (E_var rfl) E_c rfl) E_c E_c b2))
theorem dcT_rules {ρ : VEnv} {g : MG} {km vm : ME} {own : List Nat} (h : ∀ r : Rl, ∃ ρ1, g (rV r) ρ = some ρ1 ∧ km ρ1 = .ok (rV r) ρ1 ∧ vm ρ1 = .ok (.bl true) ρ1 ∧ wipeV ρ1 own = ρ) : ∀ (rs done : List Rl), (done ++ rs).Nodup → (done ++ rs).length ≤ 1000 → dcT g mYes km vm own (rs.map rV) (done.map fun r => (rV r, Val.bl true)) ρ = .ok (dctT ((done ++ rs).map fun r => (rV r, Val.bl true))) ρ
 | [], done, _, _ => by simp [dcT]
 | r :: rs, done, nd, hl => by
  obtain ⟨ρ1, e1, e2, e3, e4⟩ := h r
  have hr : r ∉ done := fun z => by
   rw [List.nodup_append] at nd
   exact nd.2.2 r z r List.mem_cons_self rfl
  have eq : done ++ r :: rs = (done ++ [r]) ++ rs := by simp
  rw [eq] at nd hl ⊢
  have ih := dcT_rules h rs (done ++ [r]) nd hl
  have ep : putD (done.map fun r => (rV r, Val.bl true)) (rV r) (.bl true) = (done ++ [r]).map fun r => (rV r, Val.bl true) := by
   have no : ((done.map fun r => (rV r, Val.bl true)).any fun q => decide (q.1 = rV r)) = false := by
    rw [List.any_eq_false]
    intro q hq
    obtain ⟨p, hp, rfl⟩ := List.mem_map.mp hq
    simp only [decide_eq_true_eq]
    exact fun z => hr (rV_inj z ▸ hp)
   unfold putD
   rw [no, if_neg (by decide)]
   simp
  rw [List.map_cons]
  unfold dcT
  simp only [e1, mYes, if_true]
  simp only [e2, e3]
  rw [if_pos ⟨rfl, rfl, by simp at hl ⊢; omega⟩, e4, ep, ih]
theorem a_are_rules {rs : List Rl} (ok : Rules rs) : f_are_rules [rsV false rs] = .ok (.bl true) [none] := by
 have hl : semLen [rsV false rs] = some (.int (rs.length : Int)) := by rw [rsV, z_lenL, List.length_map]
 have h0 : 0 < rs.length := List.length_pos_iff.mpr ok.ne
 have h3 := ok.len
 have c0 : mChain (fun i j => decide (i ≤ j)) (fun i j => decide (i ≤ j)) (mC (.int 1)) (mFun semLen [(mVar 0)]) (mC (.int 3)) [some (rsV false rs), none] = .ok (.bl true) [some (rsV false rs), none] := by
  have ev : evalM [mC (.int 1), mFun semLen [(mVar 0)]] [some (rsV false rs), none] = .ok [.int 1, .int (rs.length : Int)] [some (rsV false rs), none] := EM_cons E_c (EM_cons (E_f1 (E_var rfl) hl) EM_nil)
  have d1 : decide ((1 : Int) ≤ (rs.length : Int)) = true := by simp; omega
  have d2 : decide ((rs.length : Int) ≤ 3) = true := by simp; omega
  unfold mChain
  rw [ev]
  simp only [d1, if_true, mC, d2]
 have c1 : mLc (mItemsL (mVar 0)) (gV 1) mYes (mCall f_is_rule [.v ⟨true, true, (mStab (mVar 1))⟩]) [1] [some (rsV false rs), none] = .ok (.lst true (rs.map fun _ => .bl true)) [some (rsV false rs), none] :=
  E_lcM1 (E_itL (E_var rfl)) rfl (fun r hr => ⟨[some (rsV false rs), some (rV r)], rfl, E_call1 (E_stab rfl rfl) (a_is_rule (ok.ok r hr)), rfl⟩) (by omega)
 have c2 : semAll [.lst true (rs.map fun _ => Val.bl true)] = some (.bl true) := all_true fun x hx => by
  obtain ⟨_, _, rfl⟩ := List.mem_map.mp hx; rfl
 have c3 : mFz (mDcT (mItemsL (mVar 0)) (gV 1) mYes (mVar 1) (mC (.bl true)) [1]) [some (rsV false rs), none] = .ok (.dct false .t (rs.map rV) (rs.map fun _ => .bl true)) [some (rsV false rs), none] := by
  have e := dcT_rules (ρ := [some (rsV false rs), none]) (g := gV 1) (km := mVar 1) (vm := mC (.bl true)) (own := [1]) (fun r => ⟨[some (rsV false rs), some (rV r)], rfl, E_var rfl, E_c, rfl⟩) rs [] (by simpa using ok.nd) (by simp; omega)
  have e2 : mDcT (mItemsL (mVar 0)) (gV 1) mYes (mVar 1) (mC (.bl true)) [1] [some (rsV false rs), none] = .ok (dctT (rs.map fun r => (rV r, Val.bl true))) [some (rsV false rs), none] := by
   unfold mDcT
   have ei : mItemsL (mVar 0) [some (rsV false rs), none] = .ok (rs.map rV) [some (rsV false rs), none] := E_itL (E_var rfl)
   rw [ei]
   exact e
  refine E_fz e2 ?_
  simp only [dctT, Val.frz, List.map_map]
  congr 1
  rw [frzs_map, List.map_map]
  exact List.map_congr_left fun r _ => rfl
 have c4 : semLenT [.dct false .t (rs.map rV) (rs.map fun _ => .bl true)] = some (.int (rs.length : Int)) := by
  show some (Val.int ((rs.map rV).length : Int)) = _
  rw [List.length_map]
 have c5 : semEq [.int (rs.length : Int), .int (rs.length : Int)] = some (.bl true) := by simp
 refine E_body (ρ0 := [some (rsV false rs), none]) (ρ' := [some (rsV false rs), none]) rfl ?_
 unfold m_are_rules
 rw [seq_nx ((E_ifF (E_orF (E_notF c0) (E_notF (E_f1 c1 c2)))).trans E_next)]
 exact E_ret (E_f2 (E_f1 c3 c4) (E_f1 (E_var rfl) hl) c5)
theorem init_with {m e : Int} {rest : List Rl} {also : Val} (ok : Rules ((m, e) :: rest)) (ha : semIsiT [also, .tup [.ty "list", .ty "tuple"]] = some (.bl true)) (hl : semList [also] = some (rsV true rest)) : f_Bound_init [.obj true 0 [] [], .int m, .int e, also] = .ok .non [some (bdV true ((m, e) :: rest)), none, none, none] := by
 obtain ⟨h1, h2, h3, h4⟩ := ok.ok _ List.mem_cons_self
 have b1 := a_is_between m 1 8
 have b2 := a_is_between e 1 12
 rw [show (decide (1 ≤ m) && decide (m ≤ 8)) = true by simp; exact ⟨h1, h2⟩] at b1
 rw [show (decide (1 ≤ e) && decide (e ≤ 12)) = true by simp; exact ⟨h3, h4⟩] at b2
 have hr : (rest.length : Int) ≤ 2 := by have := ok.len; simp at this; omega
 have sa : semAdd [.lst true [rV (m, e)], rsV true rest] = some (rsV true ((m, e) :: rest)) := by
  rw [rsV, z_addL, if_pos ⟨by simp; omega, rfl, rsV_fzs rest⟩]
  rfl
 have lst : mFun semAdd [(mLst [(mTup [(mStab (mVar 1)), (mStab (mVar 2))])]), (mFun semList [(mVar 3)])] [some (.obj true 0 [] []), some (.int m), some (.int e), some also] = .ok (rsV true ((m, e) :: rest)) [some (.obj true 0 [] []), some (.int m), some (.int e), some also] :=
  E_f2 (E_lstM (EM_cons (E_tupM (EM_cons (E_stab rfl rfl) (EM_cons (E_stab rfl rfl) EM_nil))) EM_nil)) (E_f1 (E_var rfl) hl) sa
 have fz : (rsV true ((m, e) :: rest)).frz = rsV false ((m, e) :: rest) := by
  simp only [Val.frz, rsV]
  congr 1
  rw [frzs_map, List.map_map]
  exact List.map_congr_left fun r _ => rfl
 refine E_bodyN (ρ0 := [some (.obj true 0 [] []), some (.int m), some (.int e), some also]) (ρ' := [some (bdV true ((m, e) :: rest)), some (.int m), some (.int e), some also]) rfl ?_
 unfold m_Bound_init
 rw [seq_nx ((E_ifF (E_notF (E_call3 (E_stab rfl rfl) E_c E_c b1))).trans E_next), seq_nx ((E_ifF (E_notF (E_call3 (E_stab rfl rfl) E_c E_c b2))).trans E_next)]
 rw [seq_nx ((E_ifF (E_orF (E_notF (E_f2 (E_var rfl) (E_tupM (EM_cons E_c (EM_cons E_c EM_nil))) ha)) (E_notF (E_call1 (E_fz lst fz) (a_are_rules ok))))).trans E_next)]
 unfold mSetF
 rw [lst]
 rfl
theorem make_with {m e : Int} {rest : List Rl} {also : Val} (ok : Rules ((m, e) :: rest)) (ha : semIsiT [also, .tup [.ty "list", .ty "tuple"]] = some (.bl true)) (hl : semList [also] = some (rsV true rest)) : mMake 0 f_Bound_init [.int m, .int e, also] = .ok (bdV true ((m, e) :: rest)) [none, none, none] := by
 unfold mMake
 rw [init_with ok ha hl]
theorem a_bound_of {rs : List Rl} (ok : Rules rs) : f_bound_of [rsV false rs] = .ok (bdV true rs) [none] := by
 obtain ⟨⟨m, e⟩, rest, rfl⟩ := List.exists_cons_of_ne_nil ok.ne
 have i0 : semIx [rsV false ((m, e) :: rest), .int 0] = some (rV (m, e)) := by
  have e1 : atI (((m, e) :: rest).map rV) 0 = some (rV (m, e)) := atI_nat (j := 0) rfl
  show (match atI (((m, e) :: rest).map rV) 0 with | some v => if v.fz = true then some v else none | none => none) = _
  rw [e1]; rfl
 have sl : semSlL [rsV false ((m, e) :: rest), .int 1] = some (rsV true rest) := by
  have h1 : cutL (((m, e) :: rest).map rV) (some 1) none = rest.map rV := by
   have h2 : ((1 : Int)) = ((1 : Nat) : Int) := rfl
   unfold cutL
   rw [h2, HT.sIx_none, HT.sIx_nat, Nat.min_eq_left (by simp), List.take_of_length_le (by simp)]
   rfl
  show (if fzs (((m, e) :: rest).map rV) = true then some (Val.lst true (cutL (((m, e) :: rest).map rV) (some 1) none)) else none) = _
  rw [if_pos (rsV_fzs _), h1]
  rfl
 have hl : semList [rsV false rest] = some (rsV true rest) := if_pos (rsV_fzs rest)
 have fz : (rsV true rest).frz = rsV false rest := by
  simp only [Val.frz, rsV]
  congr 1
  rw [frzs_map, List.map_map]
  exact List.map_congr_left fun r _ => rfl
 exact E_body (ρ0 := [some (rsV false ((m, e) :: rest))]) (ρ' := [some (rsV false ((m, e) :: rest))]) rfl (E_ret (E_call3 (E_f2 (E_f2 (E_var rfl) E_c i0) E_c rfl) (E_f2 (E_f2 (E_var rfl) E_c i0) E_c rfl) (E_fz (E_f2 (E_var rfl) E_c sl) fz) (make_with ok (by kernel_rfl) hl)))
theorem a_Bound_of {rs : List Rl} (ok : Rules rs) : f_Bound_of [rsV false rs] = .ok (bdV true rs) [none] := by
 refine E_body (ρ0 := [some (rsV false rs)]) (ρ' := [some (rsV false rs)]) rfl ?_
 unfold m_Bound_of
 rw [seq_nx ((E_ifF (E_orF (E_notF (E_f2 (E_var rfl) E_c (by kernel_rfl))) (E_notF (E_call1 (E_stab rfl (rsV_fz rs)) (a_are_rules ok))))).trans E_next)]
 exact E_ret (E_call1 (E_stab rfl (rsV_fz rs)) (a_bound_of ok))
theorem bdV_frz (rs : List Rl) : (bdV true rs).frz = bdV false rs := by
 simp only [Val.frz, bdV, frzs, rsV]
 congr 3
 rw [frzs_map, List.map_map]
 exact List.map_congr_left fun r _ => rfl
theorem rsV_frz (rs : List Rl) (o : Bool) : (rsV o rs).frz = rsV false rs := by
 simp only [Val.frz, rsV]
 congr 1
 rw [frzs_map, List.map_map]
 exact List.map_congr_left fun r _ => rfl
theorem a_bound {rs : List Rl} (ok : Rules rs) : f_bound [rsV false rs] = .ok (bdV true rs) [none] :=
 E_body (ρ0 := [some (rsV false rs)]) (ρ' := [some (rsV false rs)]) rfl (E_ret (E_call1 (E_fz (E_f1 (E_var rfl) (if_pos (rsV_fzs rs) : semList [rsV false rs] = some (rsV true rs))) (rsV_frz rs true)) (a_Bound_of ok)))
theorem a_lone {r : Rl} (ok : Rules [r]) : mMake 0 f_Bound_init [.int r.1, .int r.2, .wtp []] = .ok (bdV true [r]) [none, none, none] := make_with (m := r.1) (e := r.2) (rest := []) ok (by kernel_rfl) rfl
end Gb
namespace Gb
open PySem L2 VL
def kidsI (rs : List Rl) (row : List Int) : List Int := (List.range (alwP rs row + 1).toNat).map fun i : Nat => (i : Int)
def kidsR (rs : List Rl) (row : List Int) : List (List Int) := (kidsI rs row).map fun c => row ++ [c]
def rowsF (rs : List Rl) : Nat → List Int → List (List Int)
 | 0, row => [row]
 | k + 1, row => (kidsR rs row).flatMap (rowsF rs k)
theorem rowsF_snoc (rs : List Rl) : ∀ (k : Nat) (row : List Int), rowsF rs (k + 1) row = (rowsF rs k row).flatMap (kidsR rs)
 | 0, row => by simp [rowsF]
 | k + 1, row => by
  rw [rowsF, show rowsF rs (k + 1) row = (kidsR rs row).flatMap (rowsF rs k) from rfl, List.flatMap_assoc]
  exact congrArg (fun f => List.flatMap f (kidsR rs row)) (funext fun r => rowsF_snoc rs k r)
theorem kid_mem {rs : List Rl} {row : List Int} {c : Int} (h : c ∈ kidsI rs row) : 0 ≤ c ∧ c ≤ alwP rs row := by
 obtain ⟨i, hi, rfl⟩ := List.mem_map.mp h
 have := List.mem_range.mp hi
 omega
theorem kidR_mem {rs : List Rl} (ok : RsOk rs) {row r : List Int} (k : Kept rs row) (h : r ∈ kidsR rs row) : Kept rs r ∧ r.length = row.length + 1 := by
 obtain ⟨c, hc, rfl⟩ := List.mem_map.mp h
 exact ⟨kept_snoc k ((le_alwP ok.ne row c).mp (kid_mem hc).2), by simp⟩
theorem rowsF_mem {rs : List Rl} (ok : RsOk rs) : ∀ (k : Nat) (row : List Int), Kept rs row → ∀ r ∈ rowsF rs k row, Kept rs r ∧ r.length = row.length + k
 | 0, row, kp, r, h => by rw [List.mem_singleton.mp h]; exact ⟨kp, rfl⟩
 | k + 1, row, kp, r, h => by
  obtain ⟨q, hq, hr⟩ := List.mem_flatMap.mp h
  obtain ⟨k1, l1⟩ := kidR_mem ok kp hq
  obtain ⟨k2, l2⟩ := rowsF_mem ok k q k1 r hr
  exact ⟨k2, by omega⟩
def ndF (rs : List Rl) : Nat → List Int → Nat
 | 0, _ => 1
 | k + 1, row => 1 + ((kidsR rs row).map (ndF rs k)).sum
def bnd (b : Nat) : Nat → Nat
 | 0 => 1
 | k + 1 => 1 + b * bnd b k
theorem sum_le {α : Type} {f : α → Nat} {c b : Nat} : ∀ {l : List α}, l.length ≤ b → (∀ x ∈ l, f x ≤ c) → (l.map f).sum ≤ b * c
 | [], _, _ => Nat.zero_le _
 | x :: l, hl, h => by
  cases b with
  | zero => simp at hl
  | succ b =>
   have ih := sum_le (b := b) (l := l) (by simpa using hl) fun y hy => h y (List.mem_cons_of_mem _ hy)
   have := h x List.mem_cons_self
   rw [List.map_cons, List.sum_cons, Nat.succ_mul]
   omega
theorem ndF_le {rs : List Rl} {b : Nat} (h : ∀ row, (kidsR rs row).length ≤ b) : ∀ (k : Nat) (row : List Int), ndF rs k row ≤ bnd b k
 | 0, _ => Nat.le_refl _
 | k + 1, row => Nat.add_le_add_left (sum_le (h row) fun r _ => ndF_le h k r) 1
theorem alw_most {r : Rl} (h : RlOk r) (row : List Int) : alw1 r (lv r row) ≤ r.1 := by
 refine Int.not_lt.mp fun z => ?_
 have := (alw1_le h (lv r row) (r.1 + 1)).mp (by omega)
 have h0 := lv_ge r row
 have := h.2.2.1
 rw [Int.add_mul] at *
 omega
theorem kids_len {rs : List Rl} (ok : RsOk rs) {r : Rl} (hr : r ∈ rs) (row : List Int) : (kidsR rs row).length ≤ (r.1 + 1).toNat := by
 have h1 := ((le_alwP ok.ne row (alwP rs row)).mp (Int.le_refl _)) r hr
 have h2 := alw_most (ok.ok r hr) row
 simp only [kidsR, kidsI, List.length_map, List.length_range]
 omega
theorem nd_pos (rs : List Rl) : ∀ k row, 1 ≤ ndF rs k row
 | 0, _ => Nat.le_refl _
 | k + 1, row => by unfold ndF; omega
theorem len_sum {α : Type} {f : α → Nat} : ∀ {l : List α}, (∀ x ∈ l, 1 ≤ f x) → l.length ≤ (l.map f).sum
 | [], _ => Nat.le_refl _
 | x :: l, h => by
  have ih := len_sum (l := l) fun y hy => h y (List.mem_cons_of_mem _ hy)
  have := h x List.mem_cons_self
  rw [List.map_cons, List.sum_cons, List.length_cons]
  omega
def eV (rs : List Rl) (row : List Int) : Val := .tup [iL true row, lvs rs row]
def F5 (rs : List Rl) (n : Nat) (st : List (List Int)) (x4 x5 x6 : Option Val) : VEnv := [some (bdV false rs), some (.int (n : Int)), some (rsV false rs), some (.lst true (st.map (eV rs))), x4, x5, x6, none]
def szM (rs : List Rl) (n : Nat) (st : List (List Int)) : Nat := (st.map fun row => ndF rs (n - row.length) row).sum
def outM (rs : List Rl) (n : Nat) (st : List (List Int)) : List (List Int) := st.reverse.flatMap fun row => rowsF rs (n - row.length) row
theorem pl_row (o : Bool) (row : List Int) : plD 1 (iL o row) = true := by simp [iL, plD, scD]
theorem pl_eV (rs : List Rl) (row : List Int) : plD 2 (eV rs row) = true := by simp [eV, iL, lvs, tI, plD, scD]
theorem nb_eV (rs : List Rl) (row : List Int) : nbD 2 (eV rs row) = true := by simp [eV, iL, lvs, tI, nbD]
theorem pl_st (rs : List Rl) (st : List (List Int)) : plD 3 (.lst true (st.map (eV rs))) = true := by
 show (st.map (eV rs)).all (plD 2) = true
 rw [List.all_eq_true]
 intro x hx
 obtain ⟨r, _, rfl⟩ := List.mem_map.mp hx
 exact pl_eV rs r
theorem nb_st (rs : List Rl) (st : List (List Int)) : nbD 3 (.lst true (st.map (eV rs))) = true := by
 show (st.map (eV rs)).all (nbD 2) = true
 rw [List.all_eq_true]
 intro x hx
 obtain ⟨r, _, rfl⟩ := List.mem_map.mp hx
 exact nb_eV rs r
theorem ne_st (rs : List Rl) (st : List (List Int)) : semNe [.lst true (st.map (eV rs)), .lst true []] = some (.bl (!st.isEmpty)) := by
 obtain ⟨c, e, h⟩ := eqD_iff (n := 3) (by decide) (a := .lst true (st.map (eV rs))) (b := .lst true []) (pl_st rs st) rfl (nb_st rs st) rfl
 have : c = st.isEmpty := by
  cases st with
  | nil => exact h.mpr rfl
  | cons r st =>
   cases c with
   | false => rfl
   | true => exact absurd (h.mp rfl) (by simp [Val.frz, frzs])
 simp [semNe, e, this]
theorem eq_int (a b : Int) : semEq [.int a, .int b] = some (.bl (decide (a = b))) := by
 obtain ⟨c, e, h⟩ := eqD_iff (n := 0) (by decide) (a := .int a) (b := .int b) rfl rfl rfl rfl
 have : c = decide (a = b) := by
  rw [Bool.eq_iff_iff, h]
  simp [Val.frz]
 simp [semEq, e, this]
theorem pl_nx {m : MS} {ρ ρ' : VEnv} {i : Nat} (h : m ρ = .nx ρ') : gPl m i ρ = .nx [] ρ' := by unfold gPl; rw [h]
theorem sx_nil {g1 g2 : MGn} {ρ ρ' : VEnv} {i : Nat} {r : GR} (h1 : g1 i ρ = .nx [] ρ') (h2 : g2 i ρ' = r) : gSeqX g1 g2 i ρ = r := by
 unfold gSeqX
 rw [h1]
 show gcatX [] (g2 (i + 0) ρ') = r
 rw [Nat.add_zero, h2]
 cases r <;> rfl
theorem sx_one {g1 : MGn} {ρ ρ' : VEnv} {i : Nat} {zs : List Val} (h1 : g1 i ρ = .nx zs ρ') : gSeqX g1 gNone i ρ = .nx zs ρ' := by
 unfold gSeqX
 rw [h1]
 show gcatX zs (.nx [] ρ') = _
 simp [gcatX]
theorem popo {rs : List Rl} {n : Nat} {st : List (List Int)} {row : List Int} {x4 x5 x6 : Option Val} : mAsg (mPopO 3) (gTupV (gConsV (gV 4) (gConsV (gV 5) gNilV)) 2) (F5 rs n (st ++ [row]) x4 x5 x6) = .nx (F5 rs n st (some (iL true row)) (some (lvs rs row)) x6) := by
 refine E_asg (v := eV rs row) (ρ1 := F5 rs n st x4 x5 x6) ?_ rfl
 unfold mPopO F5
 simp [List.map_append]
theorem sem_lr {a : Int} (h0 : 0 ≤ a) (h : a ≤ 100) : semLR [.int a] = some (.lst true ((List.range a.toNat).map fun i : Nat => Val.int (i : Int))) := if_pos (by omega)
theorem kidsV (rs : List Rl) (row : List Int) : ((List.range (alwP rs row + 1).toNat).map fun i : Nat => Val.int (i : Int)) = (kidsI rs row).map Val.int := by simp [kidsI]
theorem alwP_lo {rs : List Rl} (ok : RsOk rs) {row : List Int} (k : Kept rs row) : 0 ≤ alwP rs row := (le_alwP ok.ne row 0).mpr (kept_zero ok.ok k)
theorem alwP_hi {rs : List Rl} (ok : RsOk rs) (row : List Int) : alwP rs row ≤ 8 := by
 obtain ⟨r, hr⟩ := List.exists_mem_of_ne_nil _ ok.ne
 exact Int.le_trans ((le_alwP ok.ne row _).mp (Int.le_refl _) r hr) (alw1_most (ok.ok r hr) row)
theorem grow {rs : List Rl} (ok : RsOk rs) {n : Nat} {st : List (List Int)} {row : List Int} {x6 : Option Val} (hl : row.length ≤ 1000) (hs : st.length ≤ 16000000) (k : Kept rs row) (i : Nat) : ∃ y6,
    gSeqX (gPl (mSet 6 (mFz (mFun semLR [(mFun semAdd [(mCall f_allowed_at [.v ⟨true, true, (mStab (mVar 2))⟩, .v ⟨true, true, (mStab (mVar 5))⟩]), (mC (.int 1))])]))))
    (gSeqX (gPl (mDrop (mLopN 3 fExtO (mLc (mItemsL (mFz (mFun semRev [(mVar 6)]))) (gV 7) mYes (mTup [(mFun semAdd [(mVar 4), (mLst [(mStab (mVar 7))])]), (mCall f_levels_behind [.v ⟨true, true, (mStab (mVar 2))⟩, .v ⟨true, true, (mStab (mVar 5))⟩, .v ⟨true, true, (mStab (mVar 7))⟩])]) [7]))))
    gNone) i (F5 rs n st (some (iL true row)) (some (lvs rs row)) x6) = .nx [] (F5 rs n (st ++ (kidsR rs row).reverse) (some (iL true row)) (some (lvs rs row)) y6) := by
 have a0 := alwP_lo ok k
 have a1 := alwP_hi ok row
 have kl : (kidsI rs row).length ≤ 9 := by simp only [kidsI, List.length_map, List.length_range]; omega
 let ρ := F5 rs n st (some (iL true row)) (some (lvs rs row)) x6
 let ρ6 := F5 rs n st (some (iL true row)) (some (lvs rs row)) (some (iL false (kidsI rs row)))
 have t1 : mSet 6 (mFz (mFun semLR [(mFun semAdd [(mCall f_allowed_at [.v ⟨true, true, (mStab (mVar 2))⟩, .v ⟨true, true, (mStab (mVar 5))⟩]), (mC (.int 1))])])) ρ = .nx ρ6 := by
  refine E_set (E_fz (E_f1 (E_f2 (E_call2 (E_stab rfl (rsV_fz rs)) (E_stab rfl (lvs_fz rs row)) (a_allowed_at ok row)) E_c rfl) (sem_lr (a := alwP rs row + 1) (by omega) (by omega))) (w := iL false (kidsI rs row)) ?_) (by simp [ρ, F5]) rfl
  rw [kidsV]
  exact iL_frz true _
 have t2 : mLc (mItemsL (mFz (mFun semRev [(mVar 6)]))) (gV 7) mYes (mTup [(mFun semAdd [(mVar 4), (mLst [(mStab (mVar 7))])]), (mCall f_levels_behind [.v ⟨true, true, (mStab (mVar 2))⟩, .v ⟨true, true, (mStab (mVar 5))⟩, .v ⟨true, true, (mStab (mVar 7))⟩])]) [7] ρ6 =
     .ok (.lst true ((kidsI rs row).reverse.map fun c => eV rs (row ++ [c]))) ρ6 := by
  refine E_lcM1 (F := Val.int) (E_itL (E_fz (v := .lst true ((kidsI rs row).reverse.map Val.int)) (E_f1 (E_var rfl) ?_) (iL_frz true (kidsI rs row).reverse))) rfl (fun c hc => ⟨[some (bdV false rs), some (.int (n : Int)), some (rsV false rs), some (.lst true (st.map (eV rs))), some (iL true row), some (lvs rs row), some (iL false (kidsI rs row)), some (.int c)], rfl, ?_, rfl⟩) (by rw [List.length_reverse]; omega)
  · show (if fzs ((kidsI rs row).map Val.int) = true then some (Val.lst true ((kidsI rs row).map Val.int).reverse) else none) = _
    rw [if_pos (fzs_ints _), List.map_reverse]
  · have e1 : semAdd [iL true row, .lst true [.int c]] = some (iL true (row ++ [c])) := by
      show (if (row.map Val.int).length + [Val.int c].length ≤ 16777216 ∧ fzs (row.map Val.int) = true ∧ fzs [Val.int c] = true then some (Val.lst true (row.map Val.int ++ [Val.int c])) else none) = _
      rw [if_pos ⟨by simp; omega, fzs_ints row, rfl⟩]
      simp [iL]
    exact E_tupM (EM_cons (E_f2 (E_var rfl) (E_lst1 (E_stab rfl rfl)) e1) (EM_cons (E_call3 (E_stab rfl (rsV_fz rs)) (E_stab rfl (lvs_fz rs row)) (E_stab rfl rfl) (a_levels_behind ok row c)) EM_nil))
 refine ⟨some (iL false (kidsI rs row)), sx_nil (pl_nx t1) (sx_one (pl_nx (E_drop (v := .non) ?_)))⟩
 have e3 : ((kidsI rs row).reverse.map fun c => eV rs (row ++ [c])) = ((kidsR rs row).reverse.map (eV rs)) := by
  rw [kidsR, ← List.map_reverse, List.map_map]
  rfl
 rw [e3] at t2
 unfold mLopN
 show (match mLc _ _ _ _ _ ρ6 with | .ok u ρ1 => _ | .exc e ρ1 => _ | .bad => _) = _
 rw [t2]
 have hx : fExtO (st.map (eV rs)) (.lst true ((kidsR rs row).reverse.map (eV rs))) = some ((st ++ (kidsR rs row).reverse).map (eV rs)) := by
  show (if (st.map (eV rs)).length + ((kidsR rs row).reverse.map (eV rs)).length ≤ 16777216 then some (st.map (eV rs) ++ (kidsR rs row).reverse.map (eV rs)) else none) = _
  rw [if_pos (by simp only [List.length_map, List.length_reverse, kidsR]; omega), List.map_append]
 show (match fExtO (st.map (eV rs)) (.lst true ((kidsR rs row).reverse.map (eV rs))) with | some zs => RE.ok Val.non (ρ6.set 3 (some (.lst true zs))) | none => RE.bad) = _
 rw [hx]
 rfl
theorem szM_snoc (rs : List Rl) (n : Nat) (st : List (List Int)) (row : List Int) : szM rs n (st ++ [row]) = szM rs n st + ndF rs (n - row.length) row := by simp [szM]
theorem szM_rev (rs : List Rl) (n : Nat) (st l : List (List Int)) : szM rs n (st ++ l.reverse) = szM rs n st + (l.map fun row => ndF rs (n - row.length) row).sum := by
 simp [szM, List.sum_reverse]
theorem dfs {rs : List Rl} (ok : RsOk rs) {n : Nat} (hn : n ≤ 1000) : ∀ (F : Nat) (st : List (List Int)) (i : Nat) (x4 x5 x6 : Option Val), (∀ row ∈ st, row.length ≤ n ∧ Kept rs row) → szM rs n st < F → i + szM rs n st ≤ 16000000 →
    ∃ y4 y5 y6, whileG (mFun semNe [(mVar 3), (mLst [])]) m_each_row_b1 F i (F5 rs n st x4 x5 x6) = .nx ((outM rs n st).map (iL true)) (F5 rs n [] y4 y5 y6)
 | 0, st, i, x4, x5, x6, _, h, _ => absurd h (Nat.not_lt_zero _)
 | F + 1, st, i, x4, x5, x6, hk, hF, hi => by
  have tst : mFun semNe [(mVar 3), (mLst [])] (F5 rs n st x4 x5 x6) = .ok (.bl (!st.isEmpty)) (F5 rs n st x4 x5 x6) := E_f2 (E_var rfl) (E_lstM EM_nil) (ne_st rs st)
  rcases List.eq_nil_or_concat st with rfl | ⟨st', row, rfl⟩
  · refine ⟨x4, x5, x6, ?_⟩
    unfold whileG
    rw [tst]
    rfl
  rw [List.concat_eq_append] at *
  have ht : (!(st' ++ [row]).isEmpty) = true := by simp
  rw [ht] at tst
  obtain ⟨hr, kr⟩ := hk row (by simp)
  have hk' : ∀ r ∈ st', r.length ≤ n ∧ Kept rs r := fun r h => hk r (by simp [h])
  rw [szM_snoc] at hF hi
  have hst : st'.length ≤ szM rs n st' := by
   unfold szM
   exact len_sum fun x _ => nd_pos _ _ _
  let ρ1 := F5 rs n st' (some (iL true row)) (some (lvs rs row)) x6
  have tif : mFun semEq [(mFun semLen [(mVar 4)]), (mVar 1)] ρ1 = .ok (.bl (decide ((row.length : Int) = (n : Int)))) ρ1 := E_f2 (E_f1 (E_var rfl) (len_ints row)) (E_var rfl) (eq_int _ _)
  by_cases hc : row.length = n
  · rw [show decide ((row.length : Int) = (n : Int)) = true by simp [hc]] at tif
    have hb : m_each_row_b1 i (F5 rs n (st' ++ [row]) x4 x5 x6) = .nx [iL true row] (F5 rs n st' none (some (lvs rs row)) x6) := by
     refine sx_nil (pl_nx popo) (sx_one ?_)
     unfold gIf
     rw [tif]
     refine sx_one ?_
     show (if i < 16000000 then GR.nx [iL true row] _ else .bad) = _
     have := nd_pos rs (n - row.length) row
     rw [if_pos (by omega)]
     rfl
    obtain ⟨y4, y5, y6, ih⟩ := dfs ok hn F st' (i + 1) none (some (lvs rs row)) x6 hk' (by have := nd_pos rs (n - row.length) row; omega) (by have := nd_pos rs (n - row.length) row; omega)
    refine ⟨y4, y5, y6, ?_⟩
    unfold whileG
    rw [tst]
    simp only [if_true]
    rw [hb]
    show gcatX [iL true row] (whileG _ _ F (i + 1) _) = _
    rw [ih]
    show GR.nx ([iL true row] ++ (outM rs n st').map (iL true)) _ = _
    congr 1
    simp [outM, hc, rowsF]
  · rw [show decide ((row.length : Int) = (n : Int)) = false by simp; omega] at tif
    obtain ⟨z6, eg⟩ := grow (n := n) (st := st') (x6 := x6) ok (by omega) (by have := nd_pos rs (n - row.length) row; omega) kr i
    have hb : m_each_row_b1 i (F5 rs n (st' ++ [row]) x4 x5 x6) = .nx [] (F5 rs n (st' ++ (kidsR rs row).reverse) (some (iL true row)) (some (lvs rs row)) z6) := by
     refine sx_nil (pl_nx popo) (sx_one ?_)
     unfold gIf
     rw [tif]
     exact eg
    obtain ⟨k, hk2⟩ : ∃ k, n - row.length = k + 1 := ⟨n - row.length - 1, by omega⟩
    have kid : ∀ r ∈ kidsR rs row, n - r.length = k := fun r h => by have := (kidR_mem ok kr h).2; omega
    have e1 : ndF rs (n - row.length) row = 1 + ((kidsR rs row).map fun r => ndF rs (n - r.length) r).sum := by
     rw [hk2, ndF]
     congr 2
     exact List.map_congr_left fun r h => by rw [kid r h]
    have e2 : szM rs n (st' ++ (kidsR rs row).reverse) + 1 = szM rs n st' + ndF rs (n - row.length) row := by rw [szM_rev, e1]; omega
    obtain ⟨y4, y5, y6, ih⟩ := dfs ok hn F (st' ++ (kidsR rs row).reverse) i (some (iL true row)) (some (lvs rs row)) z6 (fun r h => by
     rcases List.mem_append.mp h with h | h
     · exact hk' r h
     · have := kidR_mem ok kr (List.mem_reverse.mp h)
       exact ⟨by omega, this.1⟩) (by omega) (by omega)
    refine ⟨y4, y5, y6, ?_⟩
    unfold whileG
    rw [tst]
    simp only [if_true]
    rw [hb]
    show gcatX [] (whileG _ _ F (i + 0) _) = _
    rw [Nat.add_zero, ih]
    show GR.nx ([] ++ (outM rs n (st' ++ (kidsR rs row).reverse)).map (iL true)) _ = _
    congr 1
    rw [List.nil_append]
    congr 1
    unfold outM
    rw [List.reverse_append, List.reverse_append, List.reverse_reverse, List.flatMap_append, List.flatMap_append]
    congr 1
    simp only [List.reverse_cons, List.reverse_nil, List.nil_append, List.flatMap_cons, List.flatMap_nil, List.append_nil, hk2]
    show (kidsR rs row).flatMap (fun r => rowsF rs (n - r.length) r) = (kidsR rs row).flatMap (rowsF rs k)
    rw [List.flatMap_def, List.flatMap_def]
    congr 1
    exact List.map_congr_left fun r h => by rw [kid r h]
theorem rowsF_len {rs : List Rl} {b : Nat} (h : ∀ row, (kidsR rs row).length ≤ b) : ∀ (k : Nat) (row : List Int), (rowsF rs k row).length ≤ b ^ k
 | 0, row => by simp [rowsF]
 | k + 1, row => by
  rw [rowsF, List.length_flatMap, Nat.pow_succ, Nat.mul_comm]
  exact sum_le (h row) fun r _ => rowsF_len h k r
theorem a_rules (rs : List Rl) : f_Bound_rules [bdV false rs] = .ok (rsV true rs) [some (bdV false rs)] :=
 E_body (ρ0 := [some (bdV false rs)]) (ρ' := [some (bdV false rs)]) rfl (E_ret (E_f1 (E_f1 (E_var rfl) (fl_ruled rs)) (if_pos (rsV_fzs rs))))
theorem o_rules (rs : List Rl) : objC 0 "rules" (bdV false rs) = true := by kernel_rfl
theorem a_chk {c l m : Int} (h : l ≤ c ∧ c ≤ m) : f_check_between [.int c, .int l, .int m] = .ok .non [none, none, none] := by
 have e1 := a_is_between c l m
 rw [show (decide (l ≤ c) && decide (c ≤ m)) = true by simp [h]] at e1
 exact E_bodyN (ρ0 := [some (.int c), some (.int l), some (.int m)]) (ρ' := [some (.int c), some (.int l), some (.int m)]) rfl ((E_ifF (E_notF (E_call3 (E_stab rfl rfl) (E_stab rfl rfl) (E_stab rfl rfl) e1))).trans E_next)
theorem kept_nil (rs : List Rl) : Kept rs [] := fun r hr => trivial
theorem a_each_row {rs : List Rl} (ok : RsOk rs) {n : Nat} (hn : n ≤ 8) (hM : ndF rs n [] < 200000) : ∃ ρ, f_each_row [bdV false rs, .int (n : Int)] = .nx ((rowsF rs n []).map (iL true)) ρ := by
 let B := some (bdV false rs)
 let N := some (Val.int (n : Int))
 obtain ⟨y4, y5, y6, ed⟩ := dfs ok (n := n) (by omega) 200000 [[]] 0 none none none (fun r h => by rw [List.mem_singleton.mp h]; exact ⟨Nat.zero_le _, kept_nil rs⟩) (by simpa [szM] using hM) (by simp [szM]; omega)
 have eo : outM rs n [[]] = rowsF rs n [] := by simp [outM]
 rw [eo] at ed
 have t4 : mLst [(mTup [(mLst []), (mFun semMulT [(mTup [(mC (.int 0))]), (mFun semLen [(mVar 2)])])])] [B, N, some (rsV false rs), none, none, none, none, none] = .ok (.lst true ([[]].map (eV rs))) [B, N, some (rsV false rs), none, none, none, none, none] :=
  E_lst1 (E_tupM (EM_cons (E_lstM EM_nil) (EM_cons (E_f2 (a := .tup [.int 0]) rfl (E_f1 (E_var rfl) (show semLen [rsV false rs] = some (.int (rs.length : Int)) by rw [rsV, z_lenL, List.length_map])) (z_first ok)) EM_nil)))
 have e0 : m_each_row 0 [B, N, none, none, none, none, none, none] = .nx ((rowsF rs n []).map (iL true)) (F5 rs n [] y4 y5 y6) := by
  refine sx_nil (pl_nx (E_drop (E_call1 (E_stab rfl (bdV_fz rs)) (a_check_bound rs)))) ?_
  refine sx_nil (pl_nx (E_drop (E_call3 (E_stab rfl rfl) E_c E_c (a_chk (c := (n : Int)) (l := 0) (m := 8) ⟨by omega, by omega⟩)))) ?_
  refine sx_nil (pl_nx (E_set (E_fz (E_methR0 (o := false) (fs := []) (xs := []) rfl (a_rules rs) (o_rules rs)) (rsV_frz rs true)) (by simp) (ρ2 := [B, N, some (rsV false rs), none, none, none, none, none]) rfl)) ?_
  refine sx_nil (pl_nx (E_set t4 (by simp) (ρ2 := F5 rs n [[]] none none none) rfl)) ?_
  exact sx_one ed
 refine ⟨outs [false, false] (F5 rs n [] y4 y5 y6), ?_⟩
 show (match m_each_row 0 [B, N, none, none, none, none, none, none] with | .nx zs ρ => GR.nx zs (outs [false, false] ρ) | .exc e ρ => .exc e (outs [false, false] ρ) | .bad => .bad) = _
 rw [e0]
theorem mayC_alw {rs : List Rl} (ok : RsOk rs) (row : List Int) : mayC row rs 99 = alwP rs row := by
 have h1 := (le_mayC row (mayC row rs 99) rs 99 ok.ok).mp (Int.le_refl _)
 have h2 := (le_alwP ok.ne row (alwP rs row)).mp (Int.le_refl _)
 have h8 := alwP_hi ok row
 exact Int.le_antisymm ((le_alwP ok.ne row _).mpr h1.2) ((le_mayC row _ rs 99 ok.ok).mpr ⟨by omega, h2⟩)
def rwV (o o2 : Bool) (rows : List (List Int)) : Val := .lst o (rows.map (iL o2))
theorem rows_fzs (rows : List (List Int)) : fzs (rows.map (iL false)) = true := by rw [fzs_all]; simp
theorem rwV_fz (rows : List (List Int)) : (rwV false false rows).fz = true := by simp [rwV, Val.fz, rows_fzs]
theorem rwV_frz (o o2 : Bool) (rows : List (List Int)) : (rwV o o2 rows).frz = rwV false false rows := by
 simp only [rwV, Val.frz]
 congr 1
 rw [frzs_map, List.map_map]
 exact List.map_congr_left fun r _ => iL_frz o2 r
theorem all_step {rs : List Rl} (ok : RsOk rs) {row : List Int} {acc : List (List Int)} (hl : row.length ≤ 1000) (ha : acc.length ≤ 1000000) (kp : Kept rs row) (N P T : Option Val) :
    m_all_b1 [some (rsV false rs), N, P, T, some (rwV false false acc), some (iL false row), none] = .nx [some (rsV false rs), N, P, T, some (rwV false false (acc ++ kidsR rs row)), some (iL false row), none] := by
 have a0 := alwP_lo ok kp
 have a1 := alwP_hi ok row
 let ρ : VEnv := [some (rsV false rs), N, P, T, some (rwV false false acc), some (iL false row), none]
 have kl : (kidsI rs row).length ≤ 9 := by simp only [kidsI, List.length_map, List.length_range]; omega
 have e1 := a_may_come ok (row := row) (by omega)
 rw [mayC_alw ok row] at e1
 have e2 : mRng1 (mFun semAdd [(mCall f_may_come [.v ⟨true, true, (mStab (mVar 0))⟩, .v ⟨true, true, (mStab (mVar 5))⟩]), (mC (.int 1))]) ρ = .ok ((kidsI rs row).map Val.int) ρ := by
  rw [← kidsV]
  refine E_rng1 (n := (alwP rs row + 1).toNat) (E_f2 (E_call2 (E_stab rfl (rsV_fz rs)) (E_stab rfl (iL_fz row)) e1) E_c ?_) (by omega)
  show some (Val.int (alwP rs row + 1)) = _
  rw [Int.toNat_of_nonneg (by omega)]
 have e3 : mLc (mRng1 (mFun semAdd [(mCall f_may_come [.v ⟨true, true, (mStab (mVar 0))⟩, .v ⟨true, true, (mStab (mVar 5))⟩]), (mC (.int 1))])) (gV 6) mYes (mFz (mFun semAdd [(mVar 5), (mLst [(mStab (mVar 6))])])) [6] ρ = .ok (.lst true ((kidsI rs row).map fun c => iL false (row ++ [c]))) ρ := by
  refine E_lcM1 (F := Val.int) e2 rfl (fun c hc => ⟨[some (rsV false rs), N, P, T, some (rwV false false acc), some (iL false row), some (.int c)], rfl, E_fz (E_f2 (E_var rfl) (E_lst1 (E_stab rfl rfl)) (v := iL true (row ++ [c])) ?_) (iL_frz true _), rfl⟩) (by omega)
  show (if (row.map Val.int).length + [Val.int c].length ≤ 16777216 ∧ fzs (row.map Val.int) = true ∧ fzs [Val.int c] = true then some (Val.lst true (row.map Val.int ++ [Val.int c])) else none) = _
  rw [if_pos ⟨by simp; omega, fzs_ints row, rfl⟩]
  simp [iL]
 have e4 : ((kidsI rs row).map fun c => iL false (row ++ [c])) = (kidsR rs row).map (iL false) := by rw [kidsR, List.map_map]; rfl
 rw [e4] at e3
 refine E_set (E_fz (E_f2 (E_stab rfl (rwV_fz acc)) e3 (v := rwV true false (acc ++ kidsR rs row)) ?_) (rwV_frz true false _)) (by show 4 < 7; decide) rfl
 show (if (acc.map (iL false)).length + ((kidsR rs row).map (iL false)).length ≤ 16777216 ∧ fzs (acc.map (iL false)) = true ∧ fzs ((kidsR rs row).map (iL false)) = true then some (Val.lst true (acc.map (iL false) ++ (kidsR rs row).map (iL false))) else none) = _
 rw [if_pos ⟨by simp only [List.length_map, kidsR]; omega, rows_fzs _, rows_fzs _⟩, rwV, List.map_append]
theorem all_loop {rs : List Rl} (ok : RsOk rs) (N P T : Option Val) : ∀ (rows acc : List (List Int)) (x5 : Option Val), (∀ r ∈ rows, r.length ≤ 1000 ∧ Kept rs r) → acc.length + (rows.flatMap (kidsR rs)).length ≤ 1000000 →
    ∃ y5, forL (gV 5) m_all_b1 (rows.map (iL false)) [some (rsV false rs), N, P, T, some (rwV false false acc), x5, none] = .nx [some (rsV false rs), N, P, T, some (rwV false false (acc ++ rows.flatMap (kidsR rs))), y5, none]
 | [], acc, x5, _, _ => ⟨x5, by simp [forL]⟩
 | r :: rows, acc, x5, h, hl => by
  rw [List.flatMap_cons, List.length_append] at hl
  obtain ⟨h1, h2⟩ := h r List.mem_cons_self
  obtain ⟨y5, ih⟩ := all_loop ok N P T rows (acc ++ kidsR rs r) (some (iL false r)) (fun q hq => h q (List.mem_cons_of_mem _ hq)) (by rw [List.length_append]; omega)
  refine ⟨y5, E_forC (ρ1 := [some (rsV false rs), N, P, T, some (rwV false false acc), some (iL false r), none]) rfl (all_step ok h1 (by omega) h2 N P T) ?_⟩
  rw [ih, List.flatMap_cons, List.append_assoc]
theorem a_all {rs : List Rl} (ok : RsOk rs) {n : Nat} (hn : n ≤ 100) (hb : ∀ k, k ≤ n → (rowsF rs k []).length ≤ 1000000) : f_all [rsV false rs, .int (n : Int)] = .ok (rwV false false (rowsF rs n [])) [none, none] := by
 let R := some (rsV false rs)
 let N := some (Val.int (n : Int))
 have z := R_forN (n := n) (g := gV 3) (body := m_all_b2) (mi := mRng1 (mVar 1)) (ρ := [R, N, some (rwV false false [[]]), none, none, none, none]) (ρ1 := [R, N, some (rwV false false [[]]), none, none, none, none])
  (J := fun k ρ => ∃ x3 x4 x5, ρ = [R, N, some (rwV false false (rowsF rs k [])), x3, x4, x5, none]) (E_rng1 (n := n) (E_var rfl) (by omega)) ⟨none, none, none, rfl⟩ fun k ρ hk ⟨x3, x4, x5, hρ⟩ => by
   subst hρ
   refine ⟨[R, N, some (rwV false false (rowsF rs k [])), some (.int (k : Int)), x4, x5, none], rfl, ?_⟩
   have es := rowsF_snoc rs k []
   obtain ⟨y5, el⟩ := all_loop ok N (some (rwV false false (rowsF rs k []))) (some (.int (k : Int))) (rowsF rs k []) [] x5 (fun r hr => by
    have := rowsF_mem ok k [] (kept_nil rs) r hr
    exact ⟨by have := this.2; simp at this; omega, this.1⟩) (by rw [← es]; have := hb (k + 1) (by omega); simp; omega)
   rw [List.nil_append, ← es] at el
   refine R_seq (E_set (E_fz (E_lstM EM_nil) (rwV_frz true true [])) (by simp) (ρ2 := [R, N, some (rwV false false (rowsF rs k [])), some (.int (k : Int)), some (rwV false false []), x5, none]) rfl) ?_
   refine R_seq (E_for (E_itL (E_var rfl)) el) ?_
   exact R_setE (E_stab rfl (rwV_fz _)) (by simp) rfl ⟨_, _, _, rfl⟩
 obtain ⟨_, e, x3, x4, x5, rfl⟩ := z
 refine E_body (ρ0 := [R, N, none, none, none, none, none]) (ρ' := [R, N, some (rwV false false (rowsF rs n [])), x3, x4, x5, none]) rfl ?_
 have t1 : mSet 2 (mFz (mLst [(mFz (mLst []))])) [R, N, none, none, none, none, none] = .nx [R, N, some (rwV false false [[]]), none, none, none, none] :=
  E_set (E_fz (E_lst1 (E_fz (E_lstM EM_nil) (iL_frz true []))) (rwV_frz true false [[]])) (by simp) rfl
 unfold m_all
 rw [seq_nx t1, seq_nx e]
 exact E_ret (E_stab rfl (rwV_fz _))
theorem found_loop {c0 c1 c2 c3 c4 c5 x8 : Option Val} : ∀ (rows acc : List (List Int)) (x7 : Option Val), (∀ r ∈ rows, r.length ≤ 1000) → acc.length + rows.length ≤ 900000 →
    ∃ y7, forX (gV 7) m_law_b1 (rows.map (iL true)) [c0, c1, c2, c3, c4, c5, some (rwV true true acc), x7, x8] = .nx [c0, c1, c2, c3, c4, c5, some (rwV true true (acc ++ rows)), y7, x8]
 | [], acc, x7, _, _ => ⟨x7, by simp [forX]⟩
 | r :: rows, acc, x7, h, hl => by
  rw [List.length_cons] at hl
  obtain ⟨y7, ih⟩ := found_loop (c0 := c0) (c1 := c1) (c2 := c2) (c3 := c3) (c4 := c4) (c5 := c5) (x8 := x8) rows (acc ++ [r]) (some (iL true (r ++ [7]))) (fun q hq => h q (List.mem_cons_of_mem _ hq)) (by simp; omega)
  have hr := h r List.mem_cons_self
  refine ⟨y7, ?_⟩
  have b1 : m_law_b1 [c0, c1, c2, c3, c4, c5, some (rwV true true acc), some (iL true r), x8] = .nx [c0, c1, c2, c3, c4, c5, some (rwV true true (acc ++ [r])), some (iL true (r ++ [7])), x8] := by
   have e1 : semList [iL true r] = some (iL true r) := if_pos (fzs_ints r)
   refine E_seq (E_appN (xs := acc.map (iL true)) (ys := acc.map (iL true)) rfl (E_f1 (E_var rfl) e1) rfl (by simp; omega) (ρ' := [c0, c1, c2, c3, c4, c5, some (rwV true true (acc ++ [r])), some (iL true r), x8]) ?_) (E_seq (E_appN (xs := r.map Val.int) (ys := r.map Val.int) rfl E_c rfl (by simp; omega) ?_) E_next)
   · simp [rwV]
   · simp [iL]
  rw [List.map_cons]
  unfold forX
  show (match m_law_b1 [c0, c1, c2, c3, c4, c5, some (rwV true true acc), some (iL true r), x8] with | .nx ρ2 => forX (gV 7) m_law_b1 (rows.map (iL true)) ρ2 | .ct ρ2 => forX (gV 7) m_law_b1 (rows.map (iL true)) ρ2 | _ => .bad) = _
  rw [b1]
  show forX (gV 7) m_law_b1 (rows.map (iL true)) _ = _
  rw [ih, List.append_assoc]
  rfl
theorem rows_same (rows : List (List Int)) : semNe [rwV true true rows, rwV false false rows] = some (.bl false) := by
 refine semNe_same (n := 2) (by decide) ?_ ((rwV_frz true true rows).trans (rwV_frz false false rows).symm)
 show (rows.map (iL true)).all (plD 1) = true
 rw [List.all_eq_true]
 intro x hx
 obtain ⟨r, _, rfl⟩ := List.mem_map.mp hx
 exact pl_row true r
section
variable {A B : MS} {m m1 m2 m3 : ME} {f : MF} {e : VL.Exc} {ρ ρ' ρ1 ρ2 ρ3 : VEnv} {v w a b c d : Val} {p1 s1 p2 s2 p3 s3 : Bool} {i j : Nat}
theorem X_body {bs : List Bool} {N : Nat} {m : MS} {vs : List Val} {ρ0 : VEnv} (h0 : vs.map some ++ List.replicate (N - bs.length) none = ρ0) (h : m ρ0 = .exc e ρ') : mBody bs N m vs = .exc e (outs bs ρ') := by
 subst h0
 simp [mBody, h]
theorem X_drop (h : m ρ = .exc e ρ1) : mDrop m ρ = .exc e ρ1 := by simp [mDrop, h]
theorem X_call2 {x y : Option Val} (h1 : m1 ρ = .ok a ρ1) (h2 : m2 ρ1 = .ok b ρ2) (h : f [a, b] = .exc e [x, y]) : mCall f [.v ⟨p1, s1, m1⟩, .v ⟨p2, s2, m2⟩] ρ = .exc e ρ2 := by simp [mCall, h1, h2, h]
theorem X_call3 {x y z : Option Val} (h1 : m1 ρ = .ok a ρ1) (h2 : m2 ρ1 = .ok b ρ2) (h3 : m3 ρ2 = .ok d ρ3) (h : f [a, b, d] = .exc e [x, y, z]) : mCall f [.v ⟨p1, s1, m1⟩, .v ⟨p2, s2, m2⟩, .v ⟨p3, s3, m3⟩] ρ = .exc e ρ3 := by
 simp [mCall, h1, h2, h3, h]
theorem X_raise {n : Nat} {F : Str} (h : m ρ = .ok v ρ1) (hf : v.fz = true) : mRaise n F m ρ = .exc ⟨.fn n, [F], [v]⟩ ρ1 := by simp [mRaise, h, hf]
end
theorem sx_exc {g1 g2 : MGn} {ρ ρ' : VEnv} {i : Nat} {e : VL.Exc} (h1 : g1 i ρ = .exc e ρ') : gSeqX g1 g2 i ρ = .exc e ρ' := by
 unfold gSeqX
 rw [h1]
theorem pl_exc {m : MS} {ρ ρ' : VEnv} {i : Nat} {e : VL.Exc} (h : m ρ = .exc e ρ') : gPl m i ρ = .exc e ρ' := by unfold gPl; rw [h]
def iN (v : Val) : VL.Exc := ⟨.fn 0, ["value"], [v]⟩
theorem each_flies {rs : List Rl} {v : Val} (hf : v.fz = true) (hb : f_is_between [v, .int 0, .int 8] = .ok (.bl false) [none, none, none]) : f_each_row [bdV false rs, v] = .exc (iN v) [none, none] := by
 have c1 : f_check_between [v, .int 0, .int 8] = .exc (iN v) [none, none, none] := X_body (ρ0 := [some v, some (.int 0), some (.int 8)]) (ρ' := [some v, some (.int 0), some (.int 8)]) rfl ((E_ifT (E_notT (E_call3 (E_stab rfl hf) (E_stab rfl rfl) (E_stab rfl rfl) hb))).trans (X_raise (E_stab rfl hf) hf))
 have c2 : mCall f_check_between [.v ⟨true, true, (mStab (mVar 1))⟩, .v ⟨true, true, (mC (.int 0))⟩, .v ⟨true, true, (mC (.int 8))⟩] [some (bdV false rs), some v, none, none, none, none, none, none] = .exc (iN v) [some (bdV false rs), some v, none, none, none, none, none, none] := X_call3 (E_stab rfl hf) E_c E_c c1
 have e0 : m_each_row 0 [some (bdV false rs), some v, none, none, none, none, none, none] = .exc (iN v) [some (bdV false rs), some v, none, none, none, none, none, none] := by
  refine sx_nil (pl_nx (E_drop (E_call1 (E_stab rfl (bdV_fz rs)) (a_check_bound rs)))) (sx_exc (pl_exc ?_))
  exact X_drop c2
 show (match m_each_row 0 [some (bdV false rs), some v, none, none, none, none, none, none] with | .nx zs ρ => GR.nx zs (outs [false, false] ρ) | .exc e ρ => .exc e (outs [false, false] ρ) | .bad => .bad) = _
 rw [e0]
 rfl
theorem nox_rs : ∀ rs : List Rl, noxs (rs.map rV) = true
 | [] => rfl
 | r :: rs => by
  show ((rV r).nox && noxs (rs.map rV)) = true
  rw [nox_rs rs]
  rfl
theorem nox_bd (rs : List Rl) : (bdV false rs).nox = true := by
 show ((rsV false rs).nox && noxs []) = true
 rw [show (rsV false rs).nox = true from nox_rs rs]
 rfl
theorem a_refused {rs : List Rl} {v : Val} {S : Str} (hf : v.fz = true) (hx : v.nox = true) (hb : f_is_between [v, .int 0, .int 8] = .ok (.bl false) [none, none, none]) (hS : semRepr [v] = some (.str S)) (ho : PyData.strOk S = true) :
    f_refused [bdV false rs, v] = .ok (.bl true) [none, none] := by
 let ρ : VEnv := [some (bdV false rs), some v, none]
 have ef : mfFly [0] f_each_row [bdV false rs, v] = .exc (iN v) [none, none] := by
  show (match f_each_row [bdV false rs, v] with | .nx _ _ => RE.bad | .exc e ρ => (match e.cls with | .fn n => if [0].contains n = true then .exc e ρ else .bad | _ => .bad) | .bad => .bad) = _
  rw [each_flies hf hb]
  rfl
 have e1 : mStab (mVar 0) ρ = .ok (bdV false rs) ρ := E_stab rfl (bdV_fz rs)
 have e2 : mStab (mVar 1) ρ = .ok v ρ := E_stab rfl hf
 have c1 : mCall (mfFly [0] f_each_row) [.v ⟨true, true, (mStab (mVar 0))⟩, .v ⟨true, true, (mStab (mVar 1))⟩] ρ = .exc (iN v) ρ := X_call2 e1 e2 ef
 have c2 : mDrop (mFz (mCall (mfFly [0] f_each_row) [.v ⟨true, true, (mStab (mVar 0))⟩, .v ⟨true, true, (mStab (mVar 1))⟩])) ρ = .exc (iN v) ρ := by
  simp only [mDrop, mFz, c1]
 let ρ2 : VEnv := [some (bdV false rs), some v, some (.exn 0 ["value"] [v])]
 have q1 : mExf [1, 0] 2 "value" ρ2 = .ok v ρ2 := rfl
 have q2 : semEq [.str S, .str S] = some (.bl true) := semEq_same (n := 0) (by decide) (by simpa [plD, scD] using ho) rfl
 have c3 : mRet (mFun semEq [(mFun semRepr [(mExf [1, 0] 2 "value")]), (mFun semRepr [(mVar 1)])]) ρ2 = .rt (.bl true) ρ2 := E_ret (E_f2 (E_f1 q1 hS) (E_f1 (E_var rfl) hS) q2)
 have c4 : mTryAs 0 2 (mDrop (mFz (mCall (mfFly [0] f_each_row) [.v ⟨true, true, (mStab (mVar 0))⟩, .v ⟨true, true, (mStab (mVar 1))⟩]))) (mRet (mFun semEq [(mFun semRepr [(mExf [1, 0] 2 "value")]), (mFun semRepr [(mVar 1)])])) ρ = .rt (.bl true) ρ := by
  unfold mTryAs
  rw [c2]
  show mGone 2 (mRet (mFun semEq [(mFun semRepr [(mExf [1, 0] 2 "value")]), (mFun semRepr [(mVar 1)])]) ρ2) = _
  rw [c3]
  have nx : noxE ρ = true := by simp [noxE, ρ, nox_bd, hx]
  show (if Val.nox (.bl true) = true ∧ noxE ρ = true then RS.rt (.bl true) ρ else .bad) = _
  rw [if_pos ⟨rfl, nx⟩]
 refine E_body (ρ0 := ρ) (ρ' := ρ) rfl ?_
 unfold m_refused
 simp only [mSeq, c4]
theorem odd_not (v : Val) (h : v = .non ∨ v = .int (-1) ∨ v = .int 9 ∨ v = .bl true ∨ v = .str "2" ∨ v = .int (10 ^ 30)) {rs : List Rl} : f_refused [bdV false rs, v] = .ok (.bl true) [none, none] := by
 rcases h with rfl | rfl | rfl | rfl | rfl | rfl
 · exact a_refused (S := "None") rfl rfl (by kernel_rfl) (by kernel_rfl) (by decide +kernel)
 · exact a_refused (S := "-1") rfl rfl (by kernel_rfl) (by kernel_rfl) (by decide +kernel)
 · exact a_refused (S := "9") rfl rfl (by kernel_rfl) (by kernel_rfl) (by decide +kernel)
 · exact a_refused (S := "True") rfl rfl (by kernel_rfl) (by kernel_rfl) (by decide +kernel)
 · exact a_refused (S := "'2'") rfl rfl (by kernel_rfl) (by kernel_rfl) (by decide +kernel)
 · exact a_refused (S := "1000000000000000000000000000000") rfl rfl (by kernel_rfl) (by kernel_rfl) (by decide +kernel)
theorem ok12 : RsOk [(1, 12)] := ⟨by simp, by simp, fun r hr => by rw [List.mem_singleton.mp hr]; exact ⟨by decide, by decide, by decide, by decide⟩⟩
theorem nine : (rowsF [(1, 12)] 8 []).length = 9 := by decide +kernel
theorem each_nine : ∃ ρ, f_each_row [bdV false [(1, 12)], .int 8] = .nx ((rowsF [(1, 12)] 8 []).map (iL true)) ρ :=
 a_each_row (n := 8) ok12 (by decide) (Nat.lt_of_le_of_lt (ndF_le (b := 2) (fun row => kids_len ok12 (r := (1, 12)) (by simp) row) 8 []) (by decide))
theorem len_nine : mfLen [0] f_each_row [bdV false [(1, 12)], .int 8] = .ok (.int 9) [none, none] := by
 obtain ⟨ρ, e⟩ := each_nine
 unfold mfLen
 rw [e]
 dsimp only
 rw [List.length_map, nine]
 rfl
theorem kids_rules {rs : List Rl} (ok : RsOk rs) (h3 : ∀ r ∈ rs, r.1 ≤ 3) (row : List Int) : (kidsR rs row).length ≤ 4 := by
 obtain ⟨r, hr⟩ := List.exists_mem_of_ne_nil _ ok.ne
 have := kids_len ok hr row
 have := h3 r hr
 omega
theorem bnd5 : ∀ k, k ≤ 5 → bnd 4 k < 200000 := by decide
theorem pow5 : ∀ k, k ≤ 5 → 4 ^ k ≤ 1024 := by decide
theorem r_b3 (ns : List Int) (k : Nat) (x2 x3 x4 x5 x6 x7 x8 : Option Val) (hk : k < 6) : Runs m_law_b3 [some (.scr ns), some (.int (k : Int)), x2, x3, x4, x5, x6, x7, x8] fun ρ => ρ[0]? = some (some (.scr ns)) ∧ ρ.length = 9 := by
 obtain ⟨sa, sb, ha, hb, hb2, e1⟩ := a_stream ns k (by omega)
 have hs0 : Stm (.lst true [.int sa, .int sb]) := ⟨sa, sb, rfl, ha, hb, hb2⟩
 generalize hS0 : Val.lst true [.int sa, .int sb] = s0 at e1 hs0
 refine R_set (E_call2 (E_stab rfl rfl) (E_stab rfl rfl) e1) (by simp) (ρ2 := [some (.scr ns), some (.int (k : Int)), some s0, x3, x4, x5, x6, x7, x8]) rfl ?_
 obtain ⟨rs, s1, rules, lim, hs1, e2⟩ := a_three hs0 (M := 3) (E := 6) (by decide) (by decide)
 have ok := rules.toRsOk
 have h3 : ∀ r ∈ rs, r.1 ≤ 3 := fun r hr => (lim r hr).1
 have c2 : mCall f_three [.r 2, .v ⟨true, true, (mC (.int 3))⟩, .v ⟨true, true, (mC (.int 6))⟩] [some (.scr ns), some (.int (k : Int)), some s0, x3, x4, x5, x6, x7, x8] = .ok (rsV false rs) [some (.scr ns), some (.int (k : Int)), some s1, x3, x4, x5, x6, x7, x8] :=
  E_callG rfl (EM_cons E_c (EM_cons E_c EM_nil)) rfl e2 rfl
 refine R_set (E_fz c2 (rsV_frz rs false)) (by simp) (ρ2 := [some (.scr ns), some (.int (k : Int)), some s1, some (rsV false rs), x4, x5, x6, x7, x8]) rfl ?_
 obtain ⟨r0, rt, hrs⟩ := List.exists_cons_of_ne_nil ok.ne
 let ρ3 : VEnv := [some (.scr ns), some (.int (k : Int)), some s1, some (rsV false rs), x4, x5, x6, x7, x8]
 obtain ⟨d, d0, d1, ed⟩ : ∃ d : Int, 5 ≤ d ∧ d ≤ 6 ∧ mFun semSub [(mC (.int 6)), (mFun semInt [(mFun (semCmp fun i j => decide (j < i)) [(mFun semIx [(mFun semIx [(mVar 3), (mC (.int 0))]), (mC (.int 0))]), (mC (.int 2))])])] ρ3 = .ok (.int d) ρ3 := by
  have i1 : semIx [rsV false rs, .int 0] = some (rV r0) := by
   have e1 : atI (rs.map rV) ((0 : Nat) : Int) = some (rV r0) := atI_nat (by rw [hrs]; rfl)
   have e1 : atI (rs.map rV) 0 = some (rV r0) := e1
   show (match atI (rs.map rV) 0 with | some v => if v.fz = true then some v else none | none => none) = _
   rw [e1]
   rfl
  have i2 : semIx [rV r0, .int 0] = some (.int r0.1) := rfl
  have i3 : semCmp (fun i j => decide (j < i)) [.int r0.1, .int 2] = some (.bl (decide ((2 : Int) < r0.1))) := rfl
  have i4 : semInt [.bl (decide ((2 : Int) < r0.1))] = some (.int (if (2 : Int) < r0.1 then 1 else 0)) := by
   by_cases h : (2 : Int) < r0.1 <;> simp [semInt, h]
  refine ⟨6 - (if (2 : Int) < r0.1 then 1 else 0), by split <;> omega, by split <;> omega, E_f2 E_c (E_f1 (E_f2 (E_f2 (E_f2 (E_var rfl) E_c i1) E_c i2) E_c i3) i4) rfl⟩
 obtain ⟨z, s2, z0, z1, hs2, edr⟩ := a_draw hs1 (c := d) (by omega) (by omega)
 obtain ⟨n, rfl⟩ := Int.eq_ofNat_of_zero_le z0
 have hn : n ≤ 5 := by omega
 have cd : mCall f_draw [.r 2, .v ⟨true, true, (mFun semSub [(mC (.int 6)), (mFun semInt [(mFun (semCmp fun i j => decide (j < i)) [(mFun semIx [(mFun semIx [(mVar 3), (mC (.int 0))]), (mC (.int 0))]), (mC (.int 2))])])])⟩] ρ3 = .ok (.int (n : Int)) [some (.scr ns), some (.int (k : Int)), some s2, some (rsV false rs), x4, x5, x6, x7, x8] :=
  E_callR2 ed rfl ⟨_, rfl⟩ edr rfl
 refine R_set cd (by simp) (ρ2 := [some (.scr ns), some (.int (k : Int)), some s2, some (rsV false rs), some (.int (n : Int)), x5, x6, x7, x8]) rfl ?_
 refine R_seq (E_par (E_fz (E_call1 (E_stab rfl (rsV_fz rs)) (a_bound rules)) (bdV_frz rs)) (E_lstM EM_nil) (by simp) (by simp) (ρ' := [some (.scr ns), some (.int (k : Int)), some s2, some (rsV false rs), some (.int (n : Int)), some (bdV false rs), some (rwV true true []), x7, x8]) rfl) ?_
 have kids := kids_rules ok h3
 have nd : ndF rs n [] < 200000 := Nat.lt_of_le_of_lt (ndF_le kids n []) (bnd5 n hn)
 have ln : ∀ j, j ≤ 5 → (rowsF rs j []).length ≤ 1024 := fun j hj => Nat.le_trans (rowsF_len kids j []) (pow5 j hj)
 obtain ⟨ρx, eE⟩ := a_each_row ok (n := n) (by omega) nd
 let ρ5 : VEnv := [some (.scr ns), some (.int (k : Int)), some s2, some (rsV false rs), some (.int (n : Int)), some (bdV false rs), some (rwV true true []), x7, x8]
 obtain ⟨y7, eF⟩ := found_loop (c0 := some (.scr ns)) (c1 := some (.int (k : Int))) (c2 := some s2) (c3 := some (rsV false rs)) (c4 := some (.int (n : Int))) (c5 := some (bdV false rs)) (x8 := x8) (rowsF rs n []) [] x7 (fun r hr => by
  have := (rowsF_mem ok n [] (kept_nil rs) r hr).2
  simp at this
  omega) (by have := ln n hn; simp; omega)
 rw [List.nil_append] at eF
 have tF : mForX [.v ⟨true, true, (mStab (mVar 5))⟩, .v ⟨true, true, (mStab (mVar 4))⟩] f_each_row (gV 7) m_law_b1 ρ5 = .nx [some (.scr ns), some (.int (k : Int)), some s2, some (rsV false rs), some (.int (n : Int)), some (bdV false rs), some (rwV true true (rowsF rs n [])), y7, x8] := by
  have ev : evalM ((vals [.v ⟨true, true, (mStab (mVar 5))⟩, .v ⟨true, true, (mStab (mVar 4))⟩]).map Op.m) ρ5 = .ok [bdV false rs, .int (n : Int)] ρ5 := by
   show evalM [mStab (mVar 5), mStab (mVar 4)] ρ5 = _
   exact EM_cons (E_stab rfl (bdV_fz rs)) (EM_cons (E_stab rfl rfl) EM_nil)
  unfold mForX
  rw [if_pos (show refsOk ρ5 [.v ⟨true, true, (mStab (mVar 5))⟩, .v ⟨true, true, (mStab (mVar 4))⟩] = true from rfl), ev]
  show (match f_each_row [bdV false rs, .int (n : Int)] with | .nx zs _ => forX (gV 7) m_law_b1 zs ρ5 | _ => .bad) = _
  rw [eE]
  exact eF
 refine R_seq tF ?_
 refine R_guardF (E_f2 (E_var rfl) (E_call2 (E_stab rfl (rsV_fz rs)) (E_stab rfl rfl) (a_all ok (n := n) (by omega) fun j hj => Nat.le_trans (ln j (by omega)) (by decide))) (rows_same _)) ?_
 let ρ6 : VEnv := [some (.scr ns), some (.int (k : Int)), some s2, some (rsV false rs), some (.int (n : Int)), some (bdV false rs), some (rwV true true (rowsF rs n [])), y7, x8]
 have cm : mFz (mCall (mMake 0 f_Bound_init) [.v ⟨true, true, (mC (.int 1))⟩, .v ⟨true, true, (mC (.int 12))⟩, .k (.non) (.wtp [])]) ρ6 = .ok (bdV false [(1, 12)]) ρ6 :=
  E_fz (E_callG rfl (EM_cons E_c (EM_cons E_c EM_nil)) rfl (a_lone (r := (1, 12)) ⟨ok12, by simp⟩) rfl) (bdV_frz _)
 have n9 : semNe [.int 9, .int 9] = some (.bl false) := semNe_same (n := 0) (by decide) rfl rfl
 refine R_guardF (ρ1 := ρ6) (E_f2 (E_call2 cm E_c len_nine) E_c n9) ?_
 have it : mItemsL (mFz (mLst [(mC .non), (mFun semNeg [(mC (.int 1))]), (mC (.int 9)), (mC (.bl true)), (mC (.str "2")), (mFun semPow [(mC (.int 10)), (mC (.int 30))])])) ρ6 = .ok [.non, .int (-1), .int 9, .bl true, .str "2", .int (10 ^ 30)] ρ6 := by
  have p1 : semNeg [.int 1] = some (.int (-1)) := rfl
  have p2 : semPow [.int 10, .int 30] = some (.int (10 ^ 30)) := by kernel_rfl
  exact E_itL (E_fz (E_lstM (EM_cons E_c (EM_cons (E_f1 E_c p1) (EM_cons E_c (EM_cons E_c (EM_cons E_c (EM_cons (E_f2 E_c E_c p2) EM_nil))))))) rfl)
 refine R_mono (R_for (J := fun ρ => ∃ y8, ρ = [some (.scr ns), some (.int (k : Int)), some s2, some (rsV false rs), some (.int (n : Int)), some (bdV false rs), some (rwV true true (rowsF rs n [])), y7, y8]) it ⟨x8, rfl⟩ fun u hu ρ ⟨y8, hρ⟩ => ?_) fun ρ ⟨y8, hρ⟩ => by subst hρ; exact ⟨rfl, rfl⟩
 subst hρ
 refine ⟨[some (.scr ns), some (.int (k : Int)), some s2, some (rsV false rs), some (.int (n : Int)), some (bdV false rs), some (rwV true true (rowsF rs n [])), y7, some u], rfl, ?_⟩
 have hu2 : u = .non ∨ u = .int (-1) ∨ u = .int 9 ∨ u = .bl true ∨ u = .str "2" ∨ u = .int (10 ^ 30) := by simpa using hu
 have uf : u.fz = true := by rcases hu2 with rfl | rfl | rfl | rfl | rfl | rfl <;> rfl
 exact R_guardFE (E_notF (E_call2 (E_stab rfl (bdV_fz rs)) (E_stab rfl uf) (odd_not u hu2))) ⟨_, rfl⟩
theorem law_true (ns : List Int) (h : ns.length ≤ 63) : ∃ fs, f_law [.scr ns] = .ok (.bl true) fs := by
 refine ⟨[none], law_runs (c := 6) (by decide) (by decide) fun k xs hk hx => ?_⟩
 match xs, hx with
 | [x2, x3, x4, x5, x6, x7, x8], _ => exact r_b3 ns k x2 x3 x4 x5 x6 x7 x8 (by have : (6 : Int).toNat = 6 := rfl; omega)
end Gb
set_option maxHeartbeats 0
namespace Gb
open PySem L2 VL
theorem facts {P : Program} {w : World} {K : PySem.W.Frag} {h : Heap} {mg : Str → Option Value} {f : Addr} (X : K.In h) (G : h.Ns mainGlobals mg) (hfa : mg ("law" : Str) = some (.ref f)) (cw : SaysW fa fn ts w K) (hP : PFile P "/claim/cut.py") :
    ∃ fd : FuncData, (∀ (s : Shared) (v : Value), BindsTo s fd ⟨[v], []⟩ [("_law_script", v)]) ∧ ∀ base : Heap, K.In base → base.Ns mainGlobals mg → FnOkG P w K mg base (L2.CX P w) 10 f fd ["_law_script"] (spV (gam K w) 1 f_law) := by
 have c := cw.v
 obtain ⟨fd, F⟩ := c.def_ 20 (d := d_law) rfl
 have T := txt_of X G cw
 have e : mg ("law" : Str) = some (.ref (He.ga K "law")) := He.glo_ok X G (c.fact 45 (f := fun K => (He.Fa.glo "law").ok K) rfl)
 have e := hfa.symm.trans e
 cases e
 have b := FunD.bindsA (ps := ["_law_script"]) F fun _ _ _ _ _ _ us hl => match us, hl with | [_], _ => rfl
 exact ⟨fd, fun s v => b s [v] rfl, law_end F fun base _ _ => all_ok T c hP⟩
end Gb
open PySem PySem.W PySem.Calls PyProof.Rows VL
theorem PySem.Challenge.cw_gatheredbells_k05_all_rows_of_a_size_holds : PySem.Challenge.rw_gatheredbells_k05_all_rows_of_a_size.Holds := by
 w_on; o_law
 refine HandSHeadRun.head_any (r := OpenLaw.row PySem.Challenge.rw_gatheredbells_k05_all_rows_of_a_size) (q := view (OpenLaw.row PySem.Challenge.rw_gatheredbells_k05_all_rows_of_a_size).prog [33]) (H := Gb.hk) (ob := Gb.ob) (M := 40000) (loose := Gb.loose) (d := HandSHeadRun.topDef (OpenLaw.row PySem.Challenge.rw_gatheredbells_k05_all_rows_of_a_size).prog 33) (kwd := []) Gb.ob_eq
  (by kernel_rfl) (fun s => by kernel_rfl) Gb.run (by kernel_rfl) (by kernel_rfl) (by kernel_rfl) (by rfl) (by first | assumption | decide +kernel) (by decide +kernel) ⟨rfl, rfl, rfl, rfl, rfl, by decide +kernel⟩ ?hw ?hc
 case hw => w_witness2
 case hc =>
  refine walk_ofV (l := PySem.Challenge.rw_gatheredbells_k05_all_rows_of_a_size) (n := 63) (k := 10) (x := "_law_script") (mf := Gb.f_law) (G := Gb.gam) (fun _ _ => rfl) rfl (by decide) (by kernel_rfl) (roomG_caller ⟨rfl, by decide, by decide⟩) Gb.law_true ?F
  intro w mg f h Y G hmg0
  obtain ⟨K, KX, c⟩ := Y
  have hmg : mg ("law" : PySem.Str) = some (.ref f) := by
   have e : (HandSHeadRun.topDef (OpenLaw.row PySem.Challenge.rw_gatheredbells_k05_all_rows_of_a_size).prog 33).name = ("law" : PySem.Str) := by kernel_rfl
   rw [← e]
   exact hmg0
  obtain ⟨fd, hb, hF⟩ := Gb.facts (P := (PySem.Challenge.rw_gatheredbells_k05_all_rows_of_a_size).prog) (w := w) KX G hmg c ⟨by kernel_rfl, by kernel_rfl⟩
  exact ⟨K, fd, KX, hb, hF⟩
