import PyProof.Rows.All
import Wide.All
import OpenK.AllK
import Wide.FinOn
import HandS.ForMost
import HandS.ForExc
import HandS.More
import HandS.Wide
import HandS.TupAny
import HandS.TupMul
import HandS.FStr
import HandS.RaiseMore
import HandS.IsInst
import HandS.Flow
import HandS.TryOnly
import PyProof.ReprRoads
import HandS.ExcOwn
import HandS.CallSlots
import HandS.Property
import HandS.Comp
import HandS.Defaults
import HandS.Head0
import HandS.Head1
import HandS.Head2
import HandS.HeadEnd
import HandS.HeadHook1
import HandS.HeadHook2
import KE.KStateDown
import PyProof.Walk
import PyProof.WalkLemmas
import PyProof.Pure
import KE.KOpsOwn
import HandS.SlotsOwn
import KE.KCallOwn
import PySem.Challenge.RW_gatheredbells_k01_shares_reckoned
set_option Elab.async false
set_option autoImplicit false
set_option linter.all false
set_option maxRecDepth 100000
set_option maxHeartbeats 4000000
/-! VL, part A: plain values, what they stand for in the heap, who may change what. -/
namespace VL
open PySem L2

/-- how a dict's keys are kept: ints and texts, flat tuples, any data -/
inductive DK where
  | k | t | n
  deriving DecidableEq

/-- a value as a tree; o: whether it may still be changed by the one who holds it -/
inductive Val where
  | non | bl (b : Bool) | int (i : Int) | str (x : Str) | ty (n : String) | cn (n : Nat)
  | tup (xs : List Val)
  | lst (o : Bool) (xs : List Val)
  | dct (o : Bool) (d : DK) (ks : List Val) (xs : List Val)
  | obj (o : Bool) (C : Nat) (fs : List Str) (xs : List Val)
  | exn (C : Nat) (fs : List Str) (xs : List Val)
  /-- the script -/
  | scr (ns : List Int)
  /-- a dict of the module's own -/
  | wdk (ks : List Val) (xs : List Val)
  /-- a tuple of the module's own -/
  | wtp (xs : List Val)

mutual
def Val.fz : Val → Bool
  | .non => true | .bl _ => true | .int _ => true | .str _ => true | .ty _ => true | .cn _ => true
  | .tup xs => fzs xs
  | .lst o xs => !o && fzs xs
  | .dct o _ _ xs => !o && fzs xs
  | .obj o _ _ xs => !o && fzs xs
  | .exn _ _ _ => true
  | .scr _ => true
  | .wdk _ _ => true
  | .wtp _ => true
def fzs : List Val → Bool
  | [] => true
  | x :: xs => x.fz && fzs xs
end
mutual
def Val.frz : Val → Val
  | .non => .non | .bl b => .bl b | .int i => .int i | .str x => .str x | .ty n => .ty n | .cn n => .cn n
  | .tup xs => .tup (frzs xs)
  | .lst _ xs => .lst false (frzs xs)
  | .dct _ d ks xs => .dct false d ks (frzs xs)
  | .obj _ C fs xs => .obj false C fs (frzs xs)
  | .exn C fs xs => .exn C fs xs
  | .scr ns => .scr ns
  | .wdk ks xs => .wdk ks xs
  | .wtp xs => .wtp xs
def frzs : List Val → List Val
  | [] => []
  | x :: xs => x.frz :: frzs xs
end
theorem frzs_map : ∀ xs : List Val, frzs xs = xs.map Val.frz
  | [] => by simp [frzs]
  | x :: xs => by simp [frzs, frzs_map xs]
theorem fzs_all : ∀ xs : List Val, fzs xs = xs.all Val.fz
  | [] => by simp [fzs]
  | x :: xs => by simp [fzs, fzs_all xs]

def ofKey : Key → Val
  | .inl i => .int i
  | .inr x => .str x

/-- what is fixed while the law runs -/
structure Gam where
  K : PySem.W.Frag
  cn : Nat → Option Addr
  hot : List (Addr × Value × Option Addr)
  w : World

/-- a dict of the module's own: what is found at each text -/
def WDct (K : PySem.W.Frag) (w : World) (a : Addr) (kvs : List (Key × V)) : Prop := ∀ z v, valV kvs (.inr z) = some v → KDct K w a z v
def KT (K : PySem.W.Frag) (a : Addr) (xs : List V) : Prop := SqT K (fun _ => none) a xs
/-- it is there, and nobody changes it -/
def Fz (W : Addr → Prop) (H : Hp) (a : Addr) (u : HO) : Prop := H a = some u ∧ ¬ W a

mutual
/-- x, in the heap H, is the tree v; the addresses of what may be changed: O -/
inductive Rep (G : Gam) (W : Addr → Prop) (H : Hp) : V → Val → List Addr → Prop
  | non : Rep G W H .non .non []
  | bl (b : Bool) : Rep G W H (.bl b) (.bl b) []
  | int (i : Int) : Rep G W H (.int i) (.int i) []
  | str (x : Str) : Rep G W H (.str x) (.str x) []
  | ty (n : String) : Rep G W H (.ty n) (.ty n) []
  | cn {n : Nat} {a : Addr} (h : G.cn n = some a) : Rep G W H (.ref a) (.cn n) []
  | tup {a : Addr} {xs : List V} {vs : List Val} {O : List Addr} (h : Fz W H a (.tup xs)) (r : Reps G W H xs vs O) : Rep G W H (.ref a) (.tup vs) O
  | lstO {a : Addr} {xs : List V} {vs : List Val} {O : List Addr} (h : H a = some (.lst xs)) (r : Reps G W H xs vs O) : Rep G W H (.ref a) (.lst true vs) (a :: O)
  | lstF {a : Addr} {xs : List V} {vs : List Val} (h : Fz W H a (.lst xs)) (r : Reps G W H xs vs []) : Rep G W H (.ref a) (.lst false vs) []
  | dkO {a : Addr} {kvs : List (Key × V)} {ks vs : List Val} {O : List Addr} (h : H a = some (.dK kvs)) (hk : ks = kvs.map fun p => ofKey p.1) (r : Reps G W H (kvs.map (·.2)) vs O) : Rep G W H (.ref a) (.dct true .k ks vs) (a :: O)
  | dkF {a : Addr} {kvs : List (Key × V)} {ks vs : List Val} (h : Fz W H a (.dK kvs)) (hk : ks = kvs.map fun p => ofKey p.1) (r : Reps G W H (kvs.map (·.2)) vs []) : Rep G W H (.ref a) (.dct false .k ks vs) []
  | dtO {a : Addr} {kvs : List (List Key × V)} {ks vs : List Val} {O : List Addr} (h : H a = some (.dT kvs)) (hk : ks = kvs.map fun p => Val.tup (p.1.map ofKey)) (r : Reps G W H (kvs.map (·.2)) vs O) : Rep G W H (.ref a) (.dct true .t ks vs) (a :: O)
  | dtF {a : Addr} {kvs : List (List Key × V)} {ks vs : List Val} (h : Fz W H a (.dT kvs)) (hk : ks = kvs.map fun p => Val.tup (p.1.map ofKey)) (r : Reps G W H (kvs.map (·.2)) vs []) : Rep G W H (.ref a) (.dct false .t ks vs) []
  | objO {a C dx : Addr} {fs : List (Str × V)} {n : Nat} {ns : List Str} {vs : List Val} {O : List Addr} (h : H a = some (.ins C dx fs)) (hc : G.cn n = some C) (hn : ns = fs.map (·.1)) (r : Reps G W H (fs.map (·.2)) vs O) : Rep G W H (.ref a) (.obj true n ns vs) (a :: O)
  | objF {a C dx : Addr} {fs : List (Str × V)} {n : Nat} {ns : List Str} {vs : List Val} (h : Fz W H a (.ins C dx fs)) (hc : G.cn n = some C) (hn : ns = fs.map (·.1)) (r : Reps G W H (fs.map (·.2)) vs []) : Rep G W H (.ref a) (.obj false n ns vs) []
  | exn {a C d : Addr} {fs : List (Str × V)} {n : Nat} {ns : List Str} {vs : List Val} (hh : (a, Value.ref C, some d) ∈ G.hot) (hc : G.cn n = some C) (h : H d = some (.xd fs) ∧ ¬ W d) (hn : ns = fs.map (·.1)) (r : Reps G W H (fs.map (·.2)) vs []) : Rep G W H (.ref a) (.exn n ns vs) []
  | scr {a : Addr} {ns : List Int} (h : (∃ o, H a = some (.frz o (.lst (ns.map V.int))) ∧ ¬ W a) ∨ SqL G.K (fun _ => none) a (ns.map V.int)) : Rep G W H (.ref a) (.scr ns) []
  | wdk {a : Addr} {kvs : List (Key × V)} {ks vs : List Val} (h : WDct G.K G.w a kvs) (hk : ks = kvs.map fun p => ofKey p.1) (r : Reps G W H (kvs.map (·.2)) vs []) : Rep G W H (.ref a) (.wdk ks vs) []
  | wtp {a : Addr} {xs : List V} {vs : List Val} (h : KT G.K a xs) (r : Reps G W H xs vs []) : Rep G W H (.ref a) (.wtp vs) []
inductive Reps (G : Gam) (W : Addr → Prop) (H : Hp) : List V → List Val → List Addr → Prop
  | nil : Reps G W H [] [] []
  | cons {x : V} {v : Val} {xs : List V} {vs : List Val} {O O' : List Addr} (r : Rep G W H x v O) (t : Reps G W H xs vs O') : Reps G W H (x :: xs) (v :: vs) (O ++ O')
end

/-- nothing but what W names changes -/
def Keep (W : Addr → Prop) (H : Hp) (W' : Addr → Prop) (H' : Hp) : Prop := ∀ a o, H a = some o → ¬ W a → H' a = some o ∧ ¬ W' a

section
variable {G : Gam} {W W' : Addr → Prop} {H H' : Hp}
theorem Fz.mono {a : Addr} {u : HO} (h : Fz W H a u) (k : Keep W H W' H') : Fz W' H' a u := by
  obtain ⟨r, nw⟩ := h
  exact k a _ r nw
mutual
theorem Rep.mono {x : V} {v : Val} {O : List Addr} (r : Rep G W H x v O) (k : Keep W H W' H') (ko : ∀ a ∈ O, ∀ o, H a = some o → H' a = some o) : Rep G W' H' x v O := by
  cases r with
  | non => exact .non
  | bl b => exact .bl b
  | int i => exact .int i
  | str x => exact .str x
  | ty n => exact .ty n
  | cn h => exact .cn h
  | tup h r => exact .tup (h.mono k) (r.mono k ko)
  | wtp h r => exact .wtp h (r.mono k fun a ha => nomatch ha)
  | lstO h r => exact .lstO (ko _ List.mem_cons_self _ h) (r.mono k fun a ha => ko a (List.mem_cons_of_mem _ ha))
  | lstF h r => exact .lstF (h.mono k) (r.mono k fun a ha => nomatch ha)
  | scr h => exact .scr (h.imp (fun ⟨o, e, nw⟩ => ⟨o, k _ _ e nw⟩) id)
  | wdk h hk r => exact .wdk h hk (r.mono k fun a ha => nomatch ha)
  | dkO h hk r => exact .dkO (ko _ List.mem_cons_self _ h) hk (r.mono k fun a ha => ko a (List.mem_cons_of_mem _ ha))
  | dkF h hk r => exact .dkF (h.mono k) hk (r.mono k fun a ha => nomatch ha)
  | dtO h hk r => exact .dtO (ko _ List.mem_cons_self _ h) hk (r.mono k fun a ha => ko a (List.mem_cons_of_mem _ ha))
  | dtF h hk r => exact .dtF (h.mono k) hk (r.mono k fun a ha => nomatch ha)
  | objO h hc hn r => exact .objO (ko _ List.mem_cons_self _ h) hc hn (r.mono k fun a ha => ko a (List.mem_cons_of_mem _ ha))
  | objF h hc hn r => exact .objF (h.mono k) hc hn (r.mono k fun a ha => nomatch ha)
  | exn hh hc h hn r => exact .exn hh hc (k _ _ h.1 h.2) hn (r.mono k fun a ha => nomatch ha)
theorem Reps.mono {xs : List V} {vs : List Val} {O : List Addr} (r : Reps G W H xs vs O) (k : Keep W H W' H') (ko : ∀ a ∈ O, ∀ o, H a = some o → H' a = some o) : Reps G W' H' xs vs O := by
  cases r with
  | nil => exact .nil
  | cons r t => exact .cons (r.mono k fun a ha => ko a (List.mem_append_left _ ha)) (t.mono k fun a ha => ko a (List.mem_append_right _ ha))
end
mutual
theorem Rep.there {x : V} {v : Val} {O : List Addr} (r : Rep G W H x v O) : ∀ a ∈ O, ∃ o, H a = some o := by
  cases r with
  | tup h r => exact r.there
  | lstO h r => exact fun a ha => (List.mem_cons.mp ha).elim (fun e => ⟨_, e ▸ h⟩) (r.there a)
  | dkO h hk r => exact fun a ha => (List.mem_cons.mp ha).elim (fun e => ⟨_, e ▸ h⟩) (r.there a)
  | dtO h hk r => exact fun a ha => (List.mem_cons.mp ha).elim (fun e => ⟨_, e ▸ h⟩) (r.there a)
  | objO h hc hn r => exact fun a ha => (List.mem_cons.mp ha).elim (fun e => ⟨_, e ▸ h⟩) (r.there a)
  | _ => exact fun a ha => nomatch ha
theorem Reps.there {xs : List V} {vs : List Val} {O : List Addr} (r : Reps G W H xs vs O) : ∀ a ∈ O, ∃ o, H a = some o := by
  cases r with
  | nil => exact fun a ha => nomatch ha
  | cons r t => exact fun a ha => (List.mem_append.mp ha).elim (r.there a) (t.there a)
end
mutual
theorem Rep.none_of_fz {x : V} {v : Val} {O : List Addr} (r : Rep G W H x v O) (h : v.fz = true) : O = [] := by
  cases r with
  | tup h' r => exact r.none_of_fz (by simpa [Val.fz] using h)
  | lstO h' r => simp [Val.fz] at h
  | dkO h' hk r => simp [Val.fz] at h
  | dtO h' hk r => simp [Val.fz] at h
  | objO h' hc hn r => simp [Val.fz] at h
  | _ => rfl
theorem Reps.none_of_fz {xs : List V} {vs : List Val} {O : List Addr} (r : Reps G W H xs vs O) (h : fzs vs = true) : O = [] := by
  cases r with
  | nil => rfl
  | cons r t =>
    simp only [fzs, Bool.and_eq_true] at h
    rw [r.none_of_fz h.1, t.none_of_fz h.2]
    rfl
end
mutual
theorem Rep.fz_of_none {x : V} {v : Val} {O : List Addr} (r : Rep G W H x v O) (h : O = []) : v.fz = true := by
  cases r with
  | tup h' r => simpa [Val.fz] using r.fz_of_none h
  | lstO h' r => cases h
  | dkO h' hk r => cases h
  | dtO h' hk r => cases h
  | objO h' hc hn r => cases h
  | lstF h' r => simpa [Val.fz] using r.fz_of_none rfl
  | dkF h' hk r => simpa [Val.fz] using r.fz_of_none rfl
  | dtF h' hk r => simpa [Val.fz] using r.fz_of_none rfl
  | objF h' hc hn r => simpa [Val.fz] using r.fz_of_none rfl
  | _ => rfl
theorem Reps.fz_of_none {xs : List V} {vs : List Val} {O : List Addr} (r : Reps G W H xs vs O) (h : O = []) : fzs vs = true := by
  cases r with
  | nil => rfl
  | cons r t =>
    obtain ⟨h1, h2⟩ := List.append_eq_nil_iff.mp h
    simp only [fzs, Bool.and_eq_true]
    exact ⟨r.fz_of_none h1, t.fz_of_none h2⟩
end
mutual
/-- from now on nobody changes it -/
theorem Rep.freeze {x : V} {v : Val} {O : List Addr} (r : Rep G W H x v O) (k : ∀ a, ¬ W a → ¬ W' a) (ko : ∀ a ∈ O, ¬ W' a) : Rep G W' H x v.frz [] := by
  have kf : ∀ {a : Addr} {u : HO}, Fz W H a u → Fz W' H a u := fun z => ⟨z.1, k _ z.2⟩
  cases r with
  | non => simp only [Val.frz]; exact .non
  | bl b => simp only [Val.frz]; exact .bl b
  | int i => simp only [Val.frz]; exact .int i
  | str x => simp only [Val.frz]; exact .str x
  | ty n => simp only [Val.frz]; exact .ty n
  | cn h => simp only [Val.frz]; exact .cn h
  | tup h r => simp only [Val.frz]; exact .tup (kf h) (r.freeze k ko)
  | wtp h r => simp only [Val.frz]; exact .wtp h (r.mono (fun a o e nw => ⟨e, k a nw⟩) fun a ha => nomatch ha)
  | lstO h r => simp only [Val.frz]; exact .lstF ⟨h, ko _ List.mem_cons_self⟩ (r.freeze k fun a ha => ko a (List.mem_cons_of_mem _ ha))
  | lstF h r => simp only [Val.frz]; exact .lstF (kf h) (r.freeze k fun a ha => nomatch ha)
  | scr h => simp only [Val.frz]; exact .scr (h.imp (fun ⟨o, e, nw⟩ => ⟨o, e, k _ nw⟩) id)
  | wdk h hk r => simp only [Val.frz]; exact .wdk h hk (r.mono (fun a o e nw => ⟨e, k a nw⟩) fun a ha => nomatch ha)
  | dkO h hk r => simp only [Val.frz]; exact .dkF ⟨h, ko _ List.mem_cons_self⟩ hk (r.freeze k fun a ha => ko a (List.mem_cons_of_mem _ ha))
  | dkF h hk r => simp only [Val.frz]; exact .dkF (kf h) hk (r.freeze k fun a ha => nomatch ha)
  | dtO h hk r => simp only [Val.frz]; exact .dtF ⟨h, ko _ List.mem_cons_self⟩ hk (r.freeze k fun a ha => ko a (List.mem_cons_of_mem _ ha))
  | dtF h hk r => simp only [Val.frz]; exact .dtF (kf h) hk (r.freeze k fun a ha => nomatch ha)
  | objO h hc hn r => simp only [Val.frz]; exact .objF ⟨h, ko _ List.mem_cons_self⟩ hc hn (r.freeze k fun a ha => ko a (List.mem_cons_of_mem _ ha))
  | objF h hc hn r => simp only [Val.frz]; exact .objF (kf h) hc hn (r.freeze k fun a ha => nomatch ha)
  | exn hh hc h hn r => simp only [Val.frz]; exact .exn hh hc ⟨h.1, k _ h.2⟩ hn (r.mono (fun a o e nw => ⟨e, k a nw⟩) fun a ha => nomatch ha)
theorem Reps.freeze {xs : List V} {vs : List Val} {O : List Addr} (r : Reps G W H xs vs O) (k : ∀ a, ¬ W a → ¬ W' a) (ko : ∀ a ∈ O, ¬ W' a) : Reps G W' H xs (frzs vs) [] := by
  cases r with
  | nil => simp only [frzs]; exact .nil
  | cons r t =>
    simp only [frzs]
    exact .cons (O := []) (O' := []) (r.freeze k fun a ha => ko a (List.mem_append_left _ ha)) (t.freeze k fun a ha => ko a (List.mem_append_right _ ha))
end
theorem Reps.length {xs : List V} {vs : List Val} {O : List Addr} (r : Reps G W H xs vs O) : xs.length = vs.length := by
  induction vs generalizing xs O with
  | nil => cases r; rfl
  | cons v vs ih => cases r with | cons r t => simp [ih t]
/-- one of them -/
theorem Reps.split {xs : List V} {vs : List Val} {O : List Addr} (r : Reps G W H xs vs O) {i : Nat} {v : Val} (h : vs[i]? = some v) :
    ∃ x O1 Oi O2, xs[i]? = some x ∧ O = O1 ++ (Oi ++ O2) ∧ Rep G W H x v Oi := by
  induction vs generalizing xs O i with
  | nil => simp at h
  | cons w vs ih =>
    cases r with
    | @cons x _ xs' _ Oh Ot r t =>
      cases i with
      | zero =>
        simp at h
        subst h
        exact ⟨x, [], Oh, Ot, by simp, by simp, r⟩
      | succ i =>
        obtain ⟨y, O1, Oi, O2, e1, e2, q⟩ := ih t (by simpa using h)
        exact ⟨y, Oh ++ O1, Oi, O2, by simpa using e1, by rw [e2]; simp [List.append_assoc], q⟩
/-- one of them is exchanged -/
theorem Reps.set {xs : List V} {vs : List Val} {O : List Addr} (r : Reps G W H xs vs O) {i : Nat} {v : Val} (h : vs[i]? = some v) :
    ∃ x O1 Oi O2, xs[i]? = some x ∧ O = O1 ++ (Oi ++ O2) ∧ Rep G W H x v Oi ∧
      ∀ W' H' y w Ow, (∀ z u Oz, (∀ a ∈ Oz, a ∈ O1 ++ O2) → Rep G W H z u Oz → Rep G W' H' z u Oz) → Rep G W' H' y w Ow → Reps G W' H' (xs.set i y) (vs.set i w) (O1 ++ (Ow ++ O2)) := by
  induction vs generalizing xs O i with
  | nil => simp at h
  | cons w vs ih =>
    cases r with
    | @cons x _ xs' _ Oh Ot r t =>
      cases i with
      | zero =>
        simp at h
        subst h
        refine ⟨x, [], Oh, Ot, by simp, by simp, r, fun W' H' y w Ow k q => ?_⟩
        have t' : Reps G W' H' xs' vs Ot := by
          clear ih r q
          induction t using Reps.rec (motive_1 := fun _ _ _ _ => True) with
          | nil => exact .nil
          | cons r t _ ih => exact .cons (k _ _ _ (fun a ha => by simp [ha]) r) (ih fun z u Oz hz => k z u Oz fun a ha => by have := hz a ha; simp at this ⊢; exact .inr this)
          | _ => trivial
        simpa using Reps.cons q t'
      | succ i =>
        obtain ⟨y, O1, Oi, O2, e1, e2, q, c⟩ := ih t (by simpa using h)
        refine ⟨y, Oh ++ O1, Oi, O2, by simpa using e1, by rw [e2]; simp [List.append_assoc], q, fun W' H' y w Ow k q' => ?_⟩
        have r' := k _ _ _ (fun a ha => by simp [ha]) r
        have t' := c W' H' y w Ow (fun z u Oz hz => k z u Oz fun a ha => by have := hz a ha; simp at this ⊢; exact .inr this) q'
        simpa [List.append_assoc] using Reps.cons r' t'
theorem Reps.append {xs ys : List V} {vs ws : List Val} {O O' : List Addr} (r : Reps G W H xs vs O) (q : Reps G W H ys ws O') : Reps G W H (xs ++ ys) (vs ++ ws) (O ++ O') := by
  induction vs generalizing xs O with
  | nil => cases r; simpa using q
  | cons w vs ih =>
    cases r with
    | cons r t => simpa [List.append_assoc] using Reps.cons r (ih t)
end
end VL
/-! VL, part B: a frame's names as trees; expressions as functions on them. -/
namespace VL
open PySem L2

abbrev VEnv := List (Option Val)
def We (Os : Nat → List Addr) (a : Addr) : Prop := ∃ i, a ∈ Os i
def WW (R : Addr → Prop) (Os : Nat → List Addr) (a : Addr) : Prop := R a ∨ We Os a
/-- the frame's names stand for the trees; R: what is others' -/
structure Rel (G : Gam) (R : Addr → Prop) (H : Hp) (σ : St) (ρ : VEnv) (Os : Nat → List Addr) : Prop where
  len : σ.length = ρ.length
  rep : ∀ i v, ρ[i]? = some (some v) → ∃ x, σ[i]? = some (some x) ∧ Rep G (WW R Os) H x v (Os i)
  nil : ∀ i, (∀ v, ρ[i]? ≠ some (some v)) → Os i = []
  nd : ∀ i, (Os i).Nodup
  dj : ∀ i j a, a ∈ Os i → a ∈ Os j → i = j
  dr : ∀ i a, a ∈ Os i → ¬ R a
  rt : ∀ a, R a → ∃ o, H a = some o

/-- an exception: its class, its fields -/
structure Exc where
  cls : Val
  fs : List Str
  xs : List Val
def RepX (G : Gam) (W : Addr → Prop) (H : Hp) (c : Value) (d : Option Addr) (e : Exc) : Prop :=
  match e.cls with
  | .cn n => ∃ (C dd : Addr) (fs : List (Str × V)), c = .ref C ∧ G.cn n = some C ∧ d = some dd ∧ H dd = some (.xd fs) ∧ ¬ W dd ∧ e.fs = fs.map (·.1) ∧ Reps G W H (fs.map (·.2)) e.xs []
  | .ty n => c = .type n ∧ d = none ∧ e.fs = [] ∧ e.xs = []
  | _ => False
inductive RE where
  | ok (v : Val) (ρ : VEnv) | exc (e : Exc) (ρ : VEnv) | bad
abbrev ME := VEnv → RE

def KeepE (H : Hp) (Os : Nat → List Addr) (H' : Hp) (Os' : Nat → List Addr) (O : Addr → Prop) : Prop := ∀ a o, H a = some o → ¬ We Os a → H' a = some o ∧ ¬ We Os' a ∧ ¬ O a
def Rp (R : Addr → Prop) (s : Bool) (O : List Addr) (a : Addr) : Prop := R a ∨ (s = true ∧ a ∈ O)

section
variable {G : Gam} {R R' : Addr → Prop} {H H' H1 H2 : Hp} {σ : St} {ρ ρ' : VEnv} {Os Os' Os1 Os2 : Nat → List Addr}
theorem Rel.there (r : Rel G R H σ ρ Os) {i : Nat} : ∀ a ∈ Os i, ∃ o, H a = some o := fun a ha => by
  by_cases h : ∃ v, ρ[i]? = some (some v)
  · obtain ⟨v, hv⟩ := h
    obtain ⟨x, _, q⟩ := r.rep i v hv
    exact q.there a ha
  · rw [r.nil i fun v hv => h ⟨v, hv⟩] at ha
    cases ha
theorem Rel.we (r : Rel G R H σ ρ Os) {a : Addr} (h : We Os a) : ∃ o, H a = some o := let ⟨_, ha⟩ := h; r.there a ha
theorem Rel.ww (r : Rel G R H σ ρ Os) {a : Addr} (h : WW R Os a) : ∃ o, H a = some o := h.elim (r.rt a) r.we
theorem Rel.nr (r : Rel G R H σ ρ Os) {a : Addr} (h : R a) : ¬ We Os a := fun ⟨i, ha⟩ => r.dr i a ha h
theorem keepW_of_same (s : Same H H') (h : ∀ a o, H a = some o → ¬ WW R Os a → ¬ WW R' Os a) : Keep (WW R Os) H (WW R' Os) H' := fun a o e nw => ⟨s a o e, h a o e nw⟩
/-- the heap has grown -/
theorem Rel.grow (r : Rel G R H σ ρ Os) (s : Same H H') (hr : ∀ a, R' a → R a ∨ H a = none) (ht : ∀ a, R' a → ∃ o, H' a = some o) : Rel G R' H' σ ρ Os := by
  have kw : ∀ a o, H a = some o → ¬ WW R Os a → ¬ WW R' Os a := fun a o e nw z => z.elim (fun z => (hr a z).elim (fun z => nw (.inl z)) fun z => by rw [e] at z; cases z) fun z => nw (.inr z)
  refine ⟨r.len, fun i v h => ?_, r.nil, r.nd, r.dj, fun i a ha z => ?_, ht⟩
  · obtain ⟨x, e, q⟩ := r.rep i v h
    exact ⟨x, e, q.mono (keepW_of_same s kw) fun a _ o e => s a o e⟩
  · obtain ⟨o, e⟩ := r.there a ha
    exact (hr a z).elim (r.dr i a ha) fun z => by rw [e] at z; cases z
theorem Rel.weak (r : Rel G R H σ ρ Os) (hr : ∀ a, R' a → R a) : Rel G R' H σ ρ Os := r.grow (fun _ _ e => e) (fun a z => .inl (hr a z)) fun a z => r.rt a (hr a z)
theorem KeepE.refl : KeepE H Os H Os fun _ => False := fun a o e nw => ⟨e, nw, id⟩
theorem KeepE.trans {O1 O2 : Addr → Prop} (k1 : KeepE H Os H1 Os1 O1) (k2 : KeepE H1 Os1 H2 Os2 O2) : KeepE H Os H2 Os2 O2 := fun a o e nw =>
  let ⟨e1, n1, _⟩ := k1 a o e nw
  k2 a o e1 n1
theorem KeepE.grow {O O' : Addr → Prop} (k : KeepE H Os H1 Os1 O) (s : Same H1 H2) (f : ∀ a, O' a → O a ∨ H1 a = none) : KeepE H Os H2 Os1 O' := fun a o e nw => by
  obtain ⟨e1, n1, n2⟩ := k a o e nw
  exact ⟨s a o e1, n1, fun z => (f a z).elim n2 fun z => by rw [e1] at z; cases z⟩
theorem KeepE.imp {O O' : Addr → Prop} (k : KeepE H Os H1 Os1 O) (f : ∀ a, O' a → O a) : KeepE H Os H1 Os1 O' := fun a o e nw => by
  obtain ⟨e1, n1, n2⟩ := k a o e nw
  exact ⟨e1, n1, fun z => n2 (f a z)⟩
/-- what others hold, and what nobody changes, behind a step -/
theorem KeepE.keep {O : Addr → Prop} (k : KeepE H Os H1 Os1 O) (h : ∀ a o, H a = some o → R' a → WW R Os a ∨ O a) : Keep (WW R Os) H (WW R' Os1) H1 := fun a o e nw => by
  obtain ⟨e1, n1, n2⟩ := k a o e fun z => nw (.inr z)
  exact ⟨e1, fun z => z.elim (fun z => (h a o e z).elim nw n2) n1⟩
theorem RepX.mono {W W' : Addr → Prop} {c : Value} {d : Option Addr} {e : Exc} (r : RepX G W H c d e) (k : Keep W H W' H') : RepX G W' H' c d e := by
  unfold RepX at r ⊢
  split at r
  · obtain ⟨C, dd, fs, h1, h2, h3, h4, h5, h6, h7⟩ := r
    exact ⟨C, dd, fs, h1, h2, h3, (k _ _ h4 h5).1, (k _ _ h4 h5).2, h6, h7.mono k fun a ha => nomatch ha⟩
  · exact r
  · exact r
end

/-- what is wanted behind an expression; p: it changes none of the frame's names; s: nobody else can change what it gave -/
def Post (G : Gam) (R : Addr → Prop) (E : WX) (σ : St) (H : Hp) (Os : Nat → List Addr) (p s : Bool) (ρ : VEnv) (Q : VK) : RE → Prop
  | .ok v ρ' => ∀ x H' Os' O, Rel G (Rp R s O) H' σ ρ' Os' → Rep G (WW (Rp R s O) Os') H' x v O → (s = true → O.Nodup) → KeepE H Os H' Os' (fun a => s = true ∧ a ∈ O) → (p = true → ρ' = ρ ∧ Os' = Os ∧ Same H H') → Q x H'
  | .exc e ρ' => ∀ c d H' Os', Rel G R H' σ ρ' Os' → RepX G (WW R Os') H' c d e → KeepE H Os H' Os' (fun _ => False) → E c d σ H'
  | .bad => False
def rd (G : Gam) (E : WX) (p s : Bool) (m : ME) : TE := fun σ H Q => ∃ R ρ Os, Rel G R H σ ρ Os ∧ Post G R E σ H Os p s ρ Q (m ρ)
/-- the expression e computes m -/
def VE (G : Gam) (X : Cx) (E : WX) (p s : Bool) (e : Expr) (m : ME) : Prop := PE X e (rd G E p s m)
theorem PE.pre {X : Cx} {e : Expr} {t t' : TE} (h : PE X e t) (k : ∀ σ H Q, t' σ H Q → t σ H Q) : PE X e t' := ⟨fun pins s σ H Q I q => h.run pins s σ H Q I (k σ H Q q)⟩
theorem PT.pre {X : Cx} {e : Expr} {t t' : TT} (h : PT X e t) (k : ∀ σ H Q, t' σ H Q → t σ H Q) : PT X e t' := ⟨fun pins s σ H Q I q => h.run pins s σ H Q I (k σ H Q q)⟩
theorem PA.pre {X : Cx} {e : List Expr} {t t' : TA} (h : PA X e t) (k : ∀ σ H Q, t' σ H Q → t σ H Q) : PA X e t' := ⟨fun pos pins s σ H Q I q => h.run pos pins s σ H Q I (k σ H Q q)⟩
theorem PS.pre {X : Cx} {e : Stmt} {t t' : TS} (h : PS X e t) (k : ∀ D σ H, t' D σ H → t D σ H) : PS X e t' := ⟨fun pins s σ H D I q => h.run pins s σ H D I (k D σ H q)⟩
theorem PSs.pre {X : Cx} {e : List Stmt} {t t' : TS} (h : PSs X e t) (k : ∀ D σ H, t' D σ H → t D σ H) : PSs X e t' := ⟨fun pins s σ H D I q => h.run pins s σ H D I (k D σ H q)⟩

/-! ### several expressions in a row -/
structure Op where
  p : Bool
  s : Bool
  m : ME
inductive RA where
  | ok (vs : List Val) (ρ : VEnv) | exc (e : Exc) (ρ : VEnv) | bad
def evalA : List Op → VEnv → RA
  | [], ρ => .ok [] ρ
  | o :: os, ρ => match o.m ρ with
    | .ok v ρ1 => match evalA os ρ1 with
      | .ok vs ρ2 => .ok (v :: vs) ρ2
      | r => r
    | .exc e ρ1 => .exc e ρ1
    | .bad => .bad
def nest (G : Gam) (E : WX) : List Op → St → Hp → (List V → Hp → Prop) → Prop
  | [], _, H, K => K [] H
  | o :: os, σ, H, K => rd G E o.p o.s o.m σ H fun x H1 => nest G E os σ H1 fun xs H2 => K (x :: xs) H2
def wfA : List Op → Bool
  | [] => true
  | o :: os => (o.s || os.all (·.p)) && wfA os
inductive RepL (G : Gam) (W : Addr → Prop) (H : Hp) : List V → List Val → List (List Addr) → Prop
  | nil : RepL G W H [] [] []
  | cons {x : V} {v : Val} {O : List Addr} {xs : List V} {vs : List Val} {Ol : List (List Addr)} (r : Rep G W H x v O) (t : RepL G W H xs vs Ol) : RepL G W H (x :: xs) (v :: vs) (O :: Ol)
/-- the addresses of those that nobody else can change -/
def stab : List Op → List (List Addr) → List Addr
  | o :: os, O :: Ol => (if o.s then O else []) ++ stab os Ol
  | _, _ => []
def PostA (G : Gam) (R : Addr → Prop) (E : WX) (σ : St) (H : Hp) (Os : Nat → List Addr) (os : List Op) (ρ : VEnv) (K : List V → Hp → Prop) : RA → Prop
  | .ok vs ρ' => ∀ xs H' Os' Ol, Rel G (fun a => R a ∨ a ∈ stab os Ol) H' σ ρ' Os' → RepL G (WW (fun a => R a ∨ a ∈ stab os Ol) Os') H' xs vs Ol → (stab os Ol).Nodup → KeepE H Os H' Os' (fun a => a ∈ stab os Ol) →
      (os.all (·.p) = true → ρ' = ρ ∧ Os' = Os ∧ Same H H') → K xs H'
  | .exc e ρ' => ∀ c d H' Os', Rel G R H' σ ρ' Os' → RepX G (WW R Os') H' c d e → KeepE H Os H' Os' (fun _ => False) → E c d σ H'
  | .bad => False
section
variable {G : Gam} {E : WX} {σ : St}
theorem mem_stab1 {o : Op} {os : List Op} {O : List Addr} {Ol : List (List Addr)} {a : Addr} : a ∈ stab (o :: os) (O :: Ol) ↔ (o.s = true ∧ a ∈ O) ∨ a ∈ stab os Ol := by
  rw [stab]
  cases h : o.s <;> simp
theorem RepL.mono {W W' : Addr → Prop} {H H' : Hp} {xs : List V} {vs : List Val} {Ol : List (List Addr)} (r : RepL G W H xs vs Ol) (k : Keep W H W' H') (ko : ∀ O ∈ Ol, ∀ a ∈ O, ∀ o, H a = some o → H' a = some o) : RepL G W' H' xs vs Ol := by
  induction r with
  | nil => exact .nil
  | cons r t ih => exact .cons (r.mono k fun a ha => ko _ List.mem_cons_self a ha) (ih fun O hO => ko O (List.mem_cons_of_mem _ hO))
theorem nest_of {os : List Op} (wf : wfA os = true) : ∀ {R : Addr → Prop} {ρ : VEnv} {Os : Nat → List Addr} {H : Hp} {K : List V → Hp → Prop}, Rel G R H σ ρ Os → PostA G R E σ H Os os ρ K (evalA os ρ) → nest G E os σ H K := by
  induction os with
  | nil =>
    intro R ρ Os H K r h
    refine h [] H Os [] (r.weak fun a z => z.elim id fun z => nomatch z) .nil (by simp [stab]) (KeepE.refl.imp fun a z => nomatch z) fun _ => ⟨rfl, rfl, fun _ _ e => e⟩
  | cons o os ih =>
    intro R ρ Os H K r h
    simp only [wfA, Bool.and_eq_true, Bool.or_eq_true] at wf
    refine ⟨R, ρ, Os, r, ?_⟩
    unfold evalA at h
    cases hm : o.m ρ with
    | bad => rw [hm] at h; exact h
    | exc e ρ1 => rw [hm] at h; exact h
    | ok v ρ1 =>
      rw [hm] at h
      dsimp only at h
      intro x H1 Os1 O1 r1 q1 nd1 k1 p1
      refine ih wf.2 (R := Rp R o.s O1) (ρ := ρ1) (Os := Os1) r1 ?_
      have k1' : KeepE H Os H1 Os1 fun _ => False := k1.imp fun _ z => z.elim
      cases he : evalA os ρ1 with
      | bad => rw [he] at h; exact h
      | exc e ρ2 =>
        rw [he] at h
        intro c d H2 Os2 r2 q2 k2
        refine h c d H2 Os2 (r2.weak fun a z => .inl z) (q2.mono fun a o e nw => ⟨e, fun z => nw (z.elim (fun z => .inl (.inl z)) .inr)⟩) (k1'.trans k2)
      | ok vs ρ2 =>
        rw [he] at h
        intro xs H2 Os2 Ol r2 q2 nd2 k2 p2
        have eq : ∀ a, (Rp R o.s O1 a ∨ a ∈ stab os Ol) ↔ (R a ∨ a ∈ stab (o :: os) (O1 :: Ol)) := fun a => by
          rw [mem_stab1]; unfold Rp; exact or_assoc
        have efun : (fun a => Rp R o.s O1 a ∨ a ∈ stab os Ol) = (fun a => R a ∨ a ∈ stab (o :: os) (O1 :: Ol)) := funext fun a => propext (eq a)
        rw [efun] at r2 q2
        have same1 : ∀ a ∈ O1, ∀ ob, H1 a = some ob → H2 a = some ob ∧ ¬ a ∈ stab os Ol ∨ (o.s = false ∧ H2 a = some ob) := fun a ha ob e => by
          cases hs : o.s with
          | true =>
            have nw : ¬ We Os1 a := r1.nr (.inr ⟨hs, ha⟩)
            obtain ⟨e2, _, n2⟩ := k2 a ob e nw
            exact .inl ⟨e2, n2⟩
          | false =>
            have hp : os.all (·.p) = true := by simpa [hs] using wf.1
            exact .inr ⟨rfl, (p2 hp).2.2 a ob e⟩
        have head : Rep G (WW (fun a => R a ∨ a ∈ stab (o :: os) (O1 :: Ol)) Os2) H2 x v O1 := by
          refine q1.mono (k2.keep fun a ob e z => ?_) fun a ha ob e => (same1 a ha ob e).elim (·.1) (·.2)
          rcases (eq a).mpr z with z | z
          · exact .inl (.inl z)
          · exact .inr z
        refine h (x :: xs) H2 Os2 (O1 :: Ol) r2 (.cons head q2) ?_ (fun a ob e nw => ?_) fun hp => ?_
        · unfold stab
          refine List.nodup_append.mpr ⟨?_, nd2, fun a ha b hb => ?_⟩
          · cases hs : o.s with
            | true => simpa using nd1 hs
            | false => simp
          · cases hs : o.s with
            | true =>
              rw [hs] at ha
              have ha' : a ∈ O1 := by simpa using ha
              obtain ⟨ob, e⟩ := q1.there a ha'
              rcases same1 a ha' ob e with z | z
              · exact fun e' => z.2 (e' ▸ hb)
              · rw [hs] at z; cases z.1
            | false => rw [hs] at ha; simp at ha
        · obtain ⟨e1, n1, m1⟩ := k1 a ob e nw
          obtain ⟨e2, n2, m2⟩ := k2 a ob e1 n1
          exact ⟨e2, n2, fun z => (mem_stab1.mp z).elim m1 m2⟩
        · simp only [List.all_cons, Bool.and_eq_true] at hp
          obtain ⟨a1, a2, a3⟩ := p1 hp.1
          obtain ⟨b1, b2, b3⟩ := p2 hp.2
          exact ⟨b1.trans a1, b2.trans a2, a3.trans b3⟩
end
end VL
/-! VL, part C: expressions that run nothing of the program's own. -/
namespace VL
open PySem L2

def evalM : List ME → VEnv → RA
  | [], ρ => .ok [] ρ
  | m :: ms, ρ => match m ρ with
    | .ok v ρ1 => match evalM ms ρ1 with
      | .ok vs ρ2 => .ok (v :: vs) ρ2
      | .exc e ρ2 => .exc e ρ2
      | .bad => .bad
    | .exc e ρ1 => .exc e ρ1
    | .bad => .bad
theorem evalA_eq : ∀ (os : List Op) (ρ : VEnv), evalA os ρ = evalM (os.map Op.m) ρ
  | [], ρ => rfl
  | o :: os, ρ => by
    unfold evalA
    rw [List.map_cons]
    unfold evalM
    cases o.m ρ with
    | ok v ρ1 =>
      dsimp only
      rw [evalA_eq os ρ1]
      cases evalM (os.map Op.m) ρ1 <;> rfl
    | exc e ρ1 => rfl
    | bad => rfl
/-- a function of the values of some expressions -/
def mFun (sem : List Val → Option Val) (ms : List ME) : ME := fun ρ => match evalM ms ρ with
  | .ok vs ρ' => match sem vs with
    | some v => .ok v ρ'
    | none => .bad
  | .exc e ρ' => .exc e ρ'
  | .bad => .bad

/-- what a thing that is made anew may be -/
def Made (G : Gam) (W : Addr → Prop) (H : Hp) (v : Val) (Q : VK) : Prop := ∀ x H' O, Same H H' → (∀ a ∈ O, H a = none) → Rep G (fun z => W z ∨ z ∈ O) H' x v O → O.Nodup → Q x H'
def FunOk (G : Gam) (r : List V → Hp → VK → Prop) (sem : List Val → Option Val) : Prop := ∀ W H xs vs Ol v Q, RepL G W H xs vs Ol → sem vs = some v → Made G W H v Q → r xs H Q
section
variable {G : Gam} {W : Addr → Prop} {H : Hp} {v : Val} {Q : VK} {x : V}
/-- nothing new: a value that needs no object of its own, or one that is there and frozen -/
theorem Made.same (m : Made G W H v Q) (r : Rep G W H x v []) : Q x H := m x H [] (fun _ _ e => e) (fun _ z => nomatch z) (r.mono (fun a o e nw => ⟨e, fun z => z.elim nw fun z => nomatch z⟩) fun _ z => nomatch z) List.nodup_nil
theorem Rep.upd {W' : Addr → Prop} {a : Addr} {o : HO} {y : V} {u : Val} {O : List Addr} (r : Rep G W H y u O) (hn : H a = none) (k : ∀ z, W' z → W z ∨ H z = none) : Rep G W' (upd H a o) y u O :=
  r.mono (fun b ob e nw => ⟨by rw [upd_ne (ne_of_none e hn)]; exact e, fun z => (k b z).elim nw fun z => by rw [e] at z; cases z⟩) fun b hb ob e => by rw [upd_ne (ne_of_none e hn)]; exact e
theorem Reps.upd {W' : Addr → Prop} {a : Addr} {o : HO} {y : List V} {u : List Val} {O : List Addr} (r : Reps G W H y u O) (hn : H a = none) (k : ∀ z, W' z → W z ∨ H z = none) : Reps G W' (upd H a o) y u O :=
  r.mono (fun b ob e nw => ⟨by rw [upd_ne (ne_of_none e hn)]; exact e, fun z => (k b z).elim nw fun z => by rw [e] at z; cases z⟩) fun b hb ob e => by rw [upd_ne (ne_of_none e hn)]; exact e
theorem same_upd {a : Addr} {o : HO} (hn : H a = none) : Same H (upd H a o) := fun b ob e => by rw [upd_ne (ne_of_none e hn)]; exact e
/-- a new list -/
theorem Made.lst {xs : List V} {vs : List Val} (m : Made G W H (.lst true vs) Q) (r : Reps G W H xs vs []) : ∀ p, H p = none → Q (.ref p) (upd H p (.lst xs)) := fun p hp =>
  m (.ref p) _ [p] (same_upd hp) (fun a ha => by rw [List.mem_singleton.mp ha]; exact hp) (.lstO upd_same (r.upd hp fun z hz => hz.imp id fun q => by rw [List.mem_singleton.mp q]; exact hp)) (by simp)
theorem Made.tup {xs : List V} {vs : List Val} (m : Made G W H (.tup vs) Q) (r : Reps G W H xs vs []) (hw : ∀ p, H p = none → ¬ W p) : ∀ p, H p = none → Q (.ref p) (upd H p (.tup xs)) := fun p hp =>
  m (.ref p) _ [] (same_upd hp) (fun a ha => nomatch ha) (.tup ⟨upd_same, fun z => z.elim (hw p hp) fun z => nomatch z⟩ (r.upd hp fun z hz => .inl (hz.elim id fun z => nomatch z))) List.nodup_nil
end

theorem fun_pre {G : Gam} {E : WX} {os : List Op} {r : List V → Hp → VK → Prop} {sem : List Val → Option Val} {t : TE} (ht : ∀ σ H Q, nest G E os σ H (fun xs H' => r xs H' Q) → t σ H Q)
    (ok : ∀ (W : Addr → Prop) H xs vs Ol v Q, (∀ p, W p → ∃ o, H p = some o) → RepL G W H xs vs Ol → sem vs = some v → Made G W H v Q → r xs H Q) (wf : wfA os = true) : ∀ σ H Q, rd G E (os.all (·.p)) true (mFun sem (os.map Op.m)) σ H Q → t σ H Q := by
  intro σ H Q h
  refine ht σ H Q ?_
  obtain ⟨R, ρ, Os, rel, post⟩ := h
  refine nest_of wf rel ?_
  rw [evalA_eq]
  unfold mFun at post
  cases he : evalM (os.map Op.m) ρ with
  | bad => rw [he] at post; exact post
  | exc e ρ' => rw [he] at post; exact post
  | ok vs ρ' =>
    rw [he] at post
    dsimp only at post
    cases hs : sem vs with
    | none => rw [hs] at post; exact post.elim
    | some v =>
      rw [hs] at post
      intro xs H' Os' Ol rel' reps nd keep pure
      have hR : ∀ a, (R a ∨ a ∈ stab os Ol) → ∃ o, H' a = some o := rel'.rt
      refine ok _ H' xs vs Ol v Q (fun p hp => rel'.ww hp) reps hs fun x H2 O same fresh rep nd2 => ?_
      refine post x H2 Os' O (rel'.grow same (fun a z => z.elim (fun z => .inl (.inl z)) fun z => .inr (fresh a z.2)) fun a z => ?_) ?_ (fun _ => nd2) (keep.grow same fun a z => .inr (fresh a z.2)) fun hp => ?_
      · rcases z with z | z
        · obtain ⟨o, e⟩ := hR a (.inl z)
          exact ⟨o, same a o e⟩
        · exact rep.there a z.2
      · refine rep.mono (fun a o e nw => ⟨e, fun z => nw ?_⟩) fun _ _ _ e => e
        rcases z with (z | z) | z
        · exact .inl (.inl (.inl z))
        · exact .inr z.2
        · exact .inl (.inr z)
      · obtain ⟨h1, h2, h3⟩ := pure hp
        exact ⟨h1, h2, h3.trans same⟩
theorem ve_fun {G : Gam} {X : Cx} {E : WX} {e : Expr} {os : List Op} {r : List V → Hp → VK → Prop} {sem : List Val → Option Val} {t : TE} (pe : PE X e t) (ht : ∀ σ H Q, nest G E os σ H (fun xs H' => r xs H' Q) → t σ H Q)
    (ok : ∀ (W : Addr → Prop) H xs vs Ol v Q, (∀ p, W p → ∃ o, H p = some o) → RepL G W H xs vs Ol → sem vs = some v → Made G W H v Q → r xs H Q) (wf : wfA os = true) : VE G X E (os.all (·.p)) true e (mFun sem (os.map Op.m)) :=
  PE.pre pe (fun_pre ht ok wf)

/-! ### names, constants -/
def mVar (i : Nat) : ME := fun ρ => match ρ[i]? with
  | some (some v) => .ok v ρ
  | _ => .bad
def mC (v : Val) : ME := fun ρ => .ok v ρ
/-- only what nobody can change any more -/
def mStab (m : ME) : ME := fun ρ => match m ρ with
  | .ok v ρ' => if v.fz = true then .ok v ρ' else .bad
  | .exc e ρ' => .exc e ρ'
  | .bad => .bad
def mFrz (i : Nat) : ME := fun ρ => match ρ[i]? with
  | some (some v) => .ok v.frz (ρ.set i (some v.frz))
  | _ => .bad
def mMov (i : Nat) : ME := fun ρ => match ρ[i]? with
  | some (some v) => .ok v (ρ.set i none)
  | _ => .bad
section
variable {G : Gam} {X : Cx} {E : WX} {e : Expr}
theorem ve_var {i : Nat} (h : PE X e (tVar i)) : VE G X E true false e (mVar i) := by
  refine PE.pre h fun σ H Q z => ?_
  obtain ⟨R, ρ, Os, rel, post⟩ := z
  unfold mVar at post
  cases hv : ρ[i]? with
  | none => rw [hv] at post; exact post.elim
  | some o =>
    cases o with
    | none => rw [hv] at post; exact post.elim
    | some v =>
      rw [hv] at post
      obtain ⟨x, hx, rep⟩ := rel.rep i v hv
      refine ⟨x, hx, post x H Os (Os i) (rel.weak fun a z => z.elim id fun z => by cases z.1) (rep.mono (fun a o e nw => ⟨e, fun z => nw (z.imp (fun z => z.elim id fun z => by cases z.1) id)⟩) fun _ _ _ e => e) (fun z => by cases z) (KeepE.refl.imp fun a z => by cases z.1) fun _ => ⟨rfl, rfl, fun _ _ e => e⟩⟩
theorem Post.stab {R : Addr → Prop} {σ : L2.St} {H : Hp} {Os : Nat → List Addr} {p s : Bool} {ρ : VEnv} {Q : VK} {m : ME} (post : Post G R E σ H Os p true ρ Q (mStab m ρ)) : Post G R E σ H Os p s ρ Q (m ρ) := by
  unfold mStab at post
  cases hm : m ρ with
  | bad => rw [hm] at post; exact post
  | exc e ρ' => rw [hm] at post; exact post
  | ok v ρ' =>
    rw [hm] at post
    dsimp only at post
    by_cases hf : v.fz = true
    · rw [if_pos hf] at post
      intro x H' Os' O rel rep nd keep pure
      have hO := rep.none_of_fz hf
      subst hO
      have hw : ∀ a, Rp R true [] a → Rp R s [] a := fun a z => z.elim .inl fun z => nomatch z.2
      exact post x H' Os' [] (rel.weak hw) (rep.mono (fun a o e nw => ⟨e, fun z => nw (z.imp (hw a) id)⟩) fun _ z => nomatch z) (fun _ => List.nodup_nil) (keep.imp fun a z => nomatch z.2) pure
    · rw [if_neg hf] at post
      exact post.elim
theorem ve_stab {p s : Bool} {m : ME} (h : VE G X E p s e m) : VE G X E p true e (mStab m) := PE.pre h fun σ H Q ⟨R, ρ, Os, rel, post⟩ => ⟨R, ρ, Os, rel, post.stab⟩
/-- a name's tree, out of its name's hands -/
theorem Rel.take {R : Addr → Prop} {H : Hp} {σ : L2.St} {ρ : VEnv} {Os : Nat → List Addr} (rel : Rel G R H σ ρ Os) {i : Nat} {v : Val} (hv : ρ[i]? = some (some v)) :
    ∃ x, σ[i]? = some (some x) ∧ Rel G (fun a => R a ∨ a ∈ Os i) H σ (ρ.set i none) (fun j => if j = i then [] else Os j) ∧ Rep G (WW (fun a => R a ∨ a ∈ Os i) (fun j => if j = i then [] else Os j)) H x v (Os i) := by
  obtain ⟨x, hx, rep⟩ := rel.rep i v hv
  have eqW : ∀ a, WW (fun a => R a ∨ a ∈ Os i) (fun j => if j = i then [] else Os j) a → WW R Os a := fun a z => by
    rcases z with (z | z) | ⟨j, z⟩
    · exact .inl z
    · exact .inr ⟨i, z⟩
    · by_cases hj : j = i
      · simp only [hj, if_true] at z; cases z
      · simp only [hj, if_false] at z; exact .inr ⟨j, z⟩
  have mono : ∀ {y : V} {u : Val} {O : List Addr}, Rep G (WW R Os) H y u O → Rep G (WW (fun a => R a ∨ a ∈ Os i) (fun j => if j = i then [] else Os j)) H y u O := fun r => r.mono (fun a o e nw => ⟨e, fun z => nw (eqW a z)⟩) fun _ _ _ e => e
  have hi : i < ρ.length := (List.getElem?_eq_some_iff.mp hv).1
  refine ⟨x, hx, ⟨by rw [List.length_set]; exact rel.len, fun j u hu => ?_, fun j hj => ?_, fun j => ?_, fun j k a ha hb => ?_, fun j a ha z => ?_, fun a z => ?_⟩, mono rep⟩
  · by_cases hj : j = i
    · subst hj; rw [List.getElem?_set_self hi] at hu; cases hu
    · rw [List.getElem?_set_ne (Ne.symm hj)] at hu
      obtain ⟨y, hy, r⟩ := rel.rep j u hu
      exact ⟨y, hy, by rw [if_neg hj]; exact mono r⟩
  · by_cases h : j = i
    · simp [h]
    · simp only [h, if_false]
      refine rel.nil j fun u hu => hj u ?_
      rw [List.getElem?_set_ne (Ne.symm h)]; exact hu
  · by_cases h : j = i
    · simp [h]
    · simp only [h, if_false]; exact rel.nd j
  · by_cases h : j = i
    · simp [h] at ha
    · by_cases h' : k = i
      · simp [h'] at hb
      · simp only [h, h', if_false] at ha hb; exact rel.dj j k a ha hb
  · by_cases h : j = i
    · simp [h] at ha
    · simp only [h, if_false] at ha
      rcases z with z | z
      · exact rel.dr j a ha z
      · exact h (rel.dj j i a ha z)
  · exact z.elim (rel.rt a) (rel.there a)
theorem ve_mov {i : Nat} (h : PE X e (tVar i)) : VE G X E false true e (mMov i) := by
  refine PE.pre h fun σ H Q z => ?_
  obtain ⟨R, ρ, Os, rel, post⟩ := z
  unfold mMov at post
  cases hv : ρ[i]? with
  | none => rw [hv] at post; exact post.elim
  | some o =>
    cases o with
    | none => rw [hv] at post; exact post.elim
    | some v =>
      rw [hv] at post
      obtain ⟨x, hx, rel', rep⟩ := rel.take hv
      have ef : (fun a => R a ∨ a ∈ Os i) = Rp R true (Os i) := funext fun a => propext ⟨fun z => z.imp id fun z => ⟨rfl, z⟩, fun z => z.imp id fun z => z.2⟩
      rw [ef] at rel' rep
      refine ⟨x, hx, post x H _ (Os i) rel' rep (fun _ => rel.nd i) (fun a o e nw => ⟨e, fun z => nw ?_, fun z => nw ⟨i, z.2⟩⟩) fun z => by cases z⟩
      obtain ⟨j, z⟩ := z
      by_cases h : j = i
      · simp [h] at z
      · simp only [h, if_false] at z; exact ⟨j, z⟩
/-- what a name holds is put there -/
theorem Rel.put {R : Addr → Prop} {H : Hp} {σ : L2.St} {ρ : VEnv} {Os : Nat → List Addr} {O : List Addr} {x : V} {v : Val} {i : Nat} (rel : Rel G (fun a => R a ∨ a ∈ O) H σ ρ Os) (rep : Rep G (WW (fun a => R a ∨ a ∈ O) Os) H x v O) (nd : O.Nodup) (hi : i < ρ.length) (hO : ∀ a ∈ O, ¬ R a) :
    Rel G R H (σ.set i (some x)) (ρ.set i (some v)) (fun j => if j = i then O else Os j) := by
  have eqW : ∀ a, WW R (fun j => if j = i then O else Os j) a → WW (fun a => R a ∨ a ∈ O) Os a := fun a z => by
    rcases z with z | ⟨j, z⟩
    · exact .inl (.inl z)
    · by_cases hj : j = i
      · simp only [hj, if_true] at z; exact .inl (.inr z)
      · simp only [hj, if_false] at z; exact .inr ⟨j, z⟩
  have mono : ∀ {y : V} {u : Val} {P : List Addr}, Rep G (WW (fun a => R a ∨ a ∈ O) Os) H y u P → Rep G (WW R (fun j => if j = i then O else Os j)) H y u P := fun r => r.mono (fun a o e nw => ⟨e, fun z => nw (eqW a z)⟩) fun _ _ _ e => e
  refine ⟨by rw [List.length_set, List.length_set]; exact rel.len, fun j u hu => ?_, fun j hj => ?_, fun j => ?_, fun j k a ha hb => ?_, fun j a ha z => ?_, fun a z => rel.rt a (.inl z)⟩
  · by_cases hj : j = i
    · subst hj
      rw [List.getElem?_set_self hi] at hu
      cases hu
      exact ⟨x, List.getElem?_set_self (by rw [rel.len]; exact hi), by rw [if_pos rfl]; exact mono rep⟩
    · rw [List.getElem?_set_ne (Ne.symm hj)] at hu
      obtain ⟨y, hy, r⟩ := rel.rep j u hu
      exact ⟨y, by rw [List.getElem?_set_ne (Ne.symm hj)]; exact hy, by rw [if_neg hj]; exact mono r⟩
  · by_cases h : j = i
    · subst h
      exact absurd (List.getElem?_set_self hi) (hj v)
    · simp only [h, if_false]
      refine rel.nil j fun u hu => hj u ?_
      rw [List.getElem?_set_ne (Ne.symm h)]; exact hu
  · by_cases h : j = i
    · simp only [h, if_true]; exact nd
    · simp only [h, if_false]; exact rel.nd j
  · by_cases h : j = i <;> by_cases h' : k = i
    · rw [h, h']
    · simp only [h, h', if_true, if_false] at ha hb; exact absurd (.inr ha) (rel.dr k a hb)
    · simp only [h, h', if_true, if_false] at ha hb; exact absurd (.inr hb) (rel.dr j a ha)
    · simp only [h, h', if_false] at ha hb; exact rel.dj j k a ha hb
  · by_cases h : j = i
    · simp only [h, if_true] at ha; exact hO a ha z
    · simp only [h, if_false] at ha; exact rel.dr j a ha (.inl z)
theorem ve_frz {i : Nat} (h : PE X e (tVar i)) : VE G X E false true e (mFrz i) := by
  refine PE.pre h fun σ H Q z => ?_
  obtain ⟨R, ρ, Os, rel, post⟩ := z
  unfold mFrz at post
  cases hv : ρ[i]? with
  | none => rw [hv] at post; exact post.elim
  | some o =>
    cases o with
    | none => rw [hv] at post; exact post.elim
    | some v =>
      rw [hv] at post
      dsimp only at post
      obtain ⟨x, hx, rel', rep⟩ := rel.take hv
      have hi : i < ρ.length := (List.getElem?_eq_some_iff.mp hv).1
      have e1 : ((fun j => if j = i then [] else if j = i then ([] : List Addr) else Os j) : Nat → List Addr) = fun j => if j = i then [] else Os j := funext fun j => by by_cases h : j = i <;> simp [h]
      have rep2 : Rep G (WW R fun j => if j = i then [] else Os j) H x v.frz [] := rep.freeze (fun a nw z => nw (z.imp .inl id)) fun a ha z => by
        rcases z with z | ⟨j, z⟩
        · exact rel.dr i a ha z
        · by_cases h : j = i
          · simp [h] at z
          · simp only [h, if_false] at z; exact h (rel.dj j i a z ha)
      have relw : Rel G R H σ (ρ.set i none) (fun j => if j = i then [] else Os j) := rel'.weak fun a z => .inl z
      have e0 : (fun a => R a ∨ a ∈ ([] : List Addr)) = R := funext fun a => propext ⟨fun z => z.elim id (fun z => nomatch z), Or.inl⟩
      have rel2 := Rel.put (O := []) (i := i) (v := v.frz) (by rw [e0]; exact relw) (by rw [e0]; exact rep2) List.nodup_nil (by rw [List.length_set]; exact hi) (fun _ z => nomatch z)
      rw [e1, List.set_set] at rel2
      have hσ : σ.set i (some x) = σ := by
        apply List.ext_getElem?
        intro j
        by_cases h : j = i
        · subst h; rw [List.getElem?_set_self (by rw [rel.len]; exact hi)]; exact hx.symm
        · rw [List.getElem?_set_ne (Ne.symm h)]
      rw [hσ] at rel2
      have hw : ∀ a, Rp R true [] a → R a := fun a z => z.elim id fun z => nomatch z.2
      refine ⟨x, hx, post x H _ [] (rel2.weak hw) (rep2.mono (fun a o e nw => ⟨e, fun z => nw (z.imp (hw a) id)⟩) fun _ z => nomatch z) (fun _ => List.nodup_nil) (fun a o e nw => ⟨e, fun z => nw ?_, fun z => nomatch z.2⟩) fun z => by cases z⟩
      obtain ⟨j, z⟩ := z
      by_cases h : j = i
      · simp [h] at z
      · simp only [h, if_false] at z; exact ⟨j, z⟩
theorem ve_c {x : V} {v : Val} (h : PE X e (tC x)) (r : ∀ W H, Rep G W H x v []) : VE G X E true true e (mC v) := by
  refine PE.pre h fun σ H Q z => ?_
  obtain ⟨R, ρ, Os, rel, post⟩ := z
  exact post x H Os [] (rel.weak fun a z => z.elim id fun z => nomatch z.2) (r _ _) (fun _ => List.nodup_nil) (KeepE.refl.imp fun a z => nomatch z.2) fun _ => ⟨rfl, rfl, fun _ _ e => e⟩
end
end VL
/-! VL, part D: operators, comparisons, subscripts, calls of what is built in. -/
namespace VL
open PySem L2

def OkF (G : Gam) (r : List V → Hp → VK → Prop) (sem : List Val → Option Val) : Prop :=
  ∀ (W : Addr → Prop) (H : Hp) xs vs Ol v Q, (∀ p, W p → ∃ o, H p = some o) → RepL G W H xs vs Ol → sem vs = some v → Made G W H v Q → r xs H Q
def r2 (r : V → V → Hp → VK → Prop) : List V → Hp → VK → Prop := fun xs H Q => match xs with
  | [x, y] => r x y H Q
  | _ => False
def r1 (r : V → Hp → VK → Prop) : List V → Hp → VK → Prop := fun xs H Q => match xs with
  | [x] => r x H Q
  | _ => False
theorem fresh_nw {W : Addr → Prop} {H : Hp} (w : ∀ p, W p → ∃ o, H p = some o) : ∀ p, H p = none → ¬ W p := fun p hp z => by
  obtain ⟨o, e⟩ := w p z
  rw [hp] at e; cases e

theorem wf2 {p1 s1 p2 s2 : Bool} {m1 m2 : ME} (h : (s1 || p2) = true) : wfA [⟨p1, s1, m1⟩, ⟨p2, s2, m2⟩] = true := by
  cases s1 <;> cases p2 <;> cases s2 <;> first | rfl | cases h
theorem wf1 {p1 s1 : Bool} {m1 : ME} : wfA [⟨p1, s1, m1⟩] = true := by
  cases s1 <;> rfl
section
variable {G : Gam} {X : Cx} {E : WX} {a b : Expr} {pos : Pos} {p1 s1 p2 s2 : Bool} {m1 m2 : ME}
theorem ve_bin {op : Operator} {r : R2} {sem : List Val → Option Val} (ho : OpR X (binaryOp op) r) (ok : OkF G (r2 r) sem) (h1 : VE G X E p1 s1 a m1) (h2 : VE G X E p2 s2 b m2) (wf : (s1 || p2) = true := by rfl) :
    VE G X E (p1 && p2) true (.BinOp a op b pos) (mFun sem [m1, m2]) := by
  have h := ve_fun (G := G) (E := E) (os := [⟨p1, s1, m1⟩, ⟨p2, s2, m2⟩]) (r := r2 r) (pe_op (pos := pos) ho h1 h2) (fun σ H Q z => z) ok (wf2 wf)
  simpa using h
theorem ve_un {op : UnaryOp} {r : V → Hp → VK → Prop} {sem : List Val → Option Val} (ho : UnR X (unaryOp op) r) (ok : OkF G (r1 r) sem) (h1 : VE G X E p1 s1 a m1) : VE G X E p1 true (.UnaryOp op a pos) (mFun sem [m1]) := by
  have h := ve_fun (G := G) (E := E) (os := [⟨p1, s1, m1⟩]) (r := r1 r) (pe_un (pos := pos) ho h1) (fun σ H Q z => z) ok wf1
  simpa using h
theorem ve_cmp {op : CmpOp} {r : R2} {sem : List Val → Option Val} (ho : OpR X (compareOp op) r) (ok : OkF G (r2 r) sem) (h1 : VE G X E p1 s1 a m1) (h2 : VE G X E p2 s2 b m2) (hm : behindInMarks op b = false) (wf : (s1 || p2) = true := by rfl) :
    VE G X E (p1 && p2) true (.Compare a [op] [b] pos) (mFun sem [m1, m2]) := by
  have h := ve_fun (G := G) (E := E) (os := [⟨p1, s1, m1⟩, ⟨p2, s2, m2⟩]) (r := r2 r) (pe_cmpR (pos := pos) ho h1 h2 hm) (fun σ H Q z => z) ok (wf2 wf)
  simpa using h
theorem ve_ix {r : R2} {sem : List Val → Option Val} (hr : IxR X r) (ok : OkF G (r2 r) sem) (h1 : VE G X E p1 s1 a m1) (h2 : VE G X E p2 s2 b m2) (hs : PlainIx b) (wf : (s1 || p2) = true := by rfl) :
    VE G X E (p1 && p2) true (.Subscript a b pos) (mFun sem [m1, m2]) := by
  have h := ve_fun (G := G) (E := E) (os := [⟨p1, s1, m1⟩, ⟨p2, s2, m2⟩]) (r := r2 r) (pe_ix (pos := pos) hr h1 h2 hs) (fun σ H Q z => z) ok (wf2 wf)
  simpa using h

/-! ### arguments -/
def VAs (G : Gam) (X : Cx) (E : WX) (es : List Expr) (os : List Op) : Prop := PA X es (nest G E os)
theorem va_nil : VAs G X E [] [] := PA.pre pa_nil fun σ H Q h => h
theorem va_cons {e : Expr} {es : List Expr} {p s : Bool} {m : ME} {os : List Op} (h : VE G X E p s e m) (t : VAs G X E es os) (hs : starEach (e :: es) X.env = (false, eval e X.env) :: starEach es X.env := by rfl) : VAs G X E (e :: es) (⟨p, s, m⟩ :: os) :=
  PA.pre (pa_cons h t hs) fun σ H Q h => h
/-- f(e, ..), f a built-in function -/
theorem ve_callB {id : String} {x : Str} {p : Pos} {e : Expr} {es : List Expr} {os : List Op} {r : List V → Hp → VK → Prop} {sem : List Val → Option Val} (hc : CallR X (.builtin id) r) (ok : OkF G r sem) (hg : Gl X x) (hm : X.mg x = none) (hv : bootBuiltins x = some (.builtin id)) (ha : VAs G X E (e :: es) os) (wf : wfA os = true := by rfl)
    (hn : x ≠ "__name__" := by decide) (hdb : (x == ("__debug__" : Str)) = false := by decide)
    (he : starEach (e :: es) X.env = (false, eval e X.env) :: starEach es X.env := by rfl) (hpl : (backTo pos (starEach es X.env)).any (·.1) = false := by rfl) : VE G X E (os.all (·.p)) true (.Call (.Name x p) (e :: es) [] pos) (mFun sem (os.map Op.m)) :=
  ve_fun (pe_callB hc hg hm hv ha hn hdb he hpl) (fun σ H Q h => h) ok wf
theorem ve_callTy {T : String} {x : Str} {p : Pos} {e : Expr} {es : List Expr} {os : List Op} {r : List V → Hp → VK → Prop} {sem : List Val → Option Val} (hc : CallR X (.type T) r) (ok : OkF G r sem) (hg : Gl X x) (hm : X.mg x = none) (hv : bootBuiltins x = some (.type T)) (ha : VAs G X E (e :: es) os) (wf : wfA os = true := by rfl)
    (hn : x ≠ "__name__" := by decide) (hdb : (x == ("__debug__" : Str)) = false := by decide)
    (he : starEach (e :: es) X.env = (false, eval e X.env) :: starEach es X.env := by rfl) (hpl : (backTo pos (starEach es X.env)).any (·.1) = false := by rfl) : VE G X E (os.all (·.p)) true (.Call (.Name x p) (e :: es) [] pos) (mFun sem (os.map Op.m)) :=
  ve_fun (pe_callTy hc hg hm hv ha hn hdb he hpl) (fun σ H Q h => h) ok wf
end

/-! ### lists of flat things -/
section
variable {G : Gam} {W : Addr → Prop} {H : Hp}
theorem Reps.ints : ∀ {ns : List Int} {xs : List V} {O : List Addr}, Reps G W H xs (ns.map Val.int) O → xs = ns.map V.int ∧ O = []
  | [], xs, O, r => by cases r; exact ⟨rfl, rfl⟩
  | n :: ns, xs, O, r => by
    cases r with
    | cons r t =>
      cases r
      obtain ⟨rfl, rfl⟩ := Reps.ints t
      exact ⟨rfl, rfl⟩
theorem Reps.of_ints : ∀ (ns : List Int), Reps G W H (ns.map V.int) (ns.map Val.int) []
  | [] => .nil
  | n :: ns => .cons (O := []) (.int n) (Reps.of_ints ns)
theorem Reps.fz {xs : List V} {vs : List Val} {O : List Addr} (r : Reps G W H xs vs O) (h : fzs vs = true) : Reps G W H xs vs [] := by
  have e := r.none_of_fz h
  subst e
  exact r
theorem Rep.fz' {x : V} {v : Val} {O : List Addr} (r : Rep G W H x v O) (h : v.fz = true) : Rep G W H x v [] := by
  have e := r.none_of_fz h
  subst e
  exact r
theorem Reps.fzs_of {xs : List V} {vs : List Val} (r : Reps G W H xs vs []) : fzs vs = true := r.fz_of_none rfl
end

/-! ### numbers -/
def mulOk (i j : Int) : Prop := i.natAbs.log2 + j.natAbs.log2 < 1000000 ∨ ((-(2 ^ 64) < i ∧ i < 2 ^ 64) ∨ (-(2 ^ 64) < j ∧ j < 2 ^ 64))
instance (i j : Int) : Decidable (mulOk i j) := by unfold mulOk; infer_instance
def divOk (j : Int) : Prop := 0 < j ∧ j.natAbs.log2 < 9000
instance (j : Int) : Decidable (divOk j) := by unfold divOk; infer_instance
def powOk (i j : Int) : Prop := 0 ≤ j ∧ j ≤ 1000000 ∧ i.natAbs < 2 ^ 64
instance (i j : Int) : Decidable (powOk i j) := by unfold powOk; infer_instance
def semAdd : List Val → Option Val
  | [.int a, .int b] => some (.int (a + b))
  | [.str a, .str b] => if a.length + b.length ≤ 16777216 then some (.str (a ++ b)) else none
  | [.lst _ a, .lst _ b] => if a.length + b.length ≤ 16777216 ∧ fzs a = true ∧ fzs b = true then some (.lst true (a ++ b)) else none
  | [.tup a, .tup b] => if a.length + b.length ≤ 16777216 ∧ fzs a = true ∧ fzs b = true then some (.tup (a ++ b)) else none
  | _ => none
def semSub : List Val → Option Val
  | [.int a, .int b] => some (.int (a - b))
  | _ => none
def semMul : List Val → Option Val
  | [.int a, .int b] => if mulOk a b then some (.int (a * b)) else none
  | [.lst _ a, .int k] => if -(2 ^ 63) ≤ k ∧ k < 2 ^ 63 ∧ a.length * k.toNat ≤ 16777216 ∧ fzs a = true then some (.lst true (List.replicate k.toNat a).flatten) else none
  | [.tup a, .int k] => if a ≠ [] ∧ 2 ≤ k ∧ k ≤ 1000 ∧ a.length ≤ 1000 ∧ fzs a = true then some (.tup (List.replicate k.toNat a).flatten) else none
  | _ => none
def semDiv : List Val → Option Val
  | [.int a, .int b] => if divOk b then some (.int (a / b)) else none
  | _ => none
def semMod : List Val → Option Val
  | [.int a, .int b] => if 0 < b then some (.int (a % b)) else none
  | _ => none
def semPow : List Val → Option Val
  | [.int a, .int b] => if powOk a b then some (.int (a ^ b.toNat)) else none
  | _ => none
def semNeg : List Val → Option Val
  | [.int a] => some (.int (-a))
  | _ => none
theorem RepL.inv2 {G : Gam} {W : Addr → Prop} {H : Hp} {xs : List V} {a b : Val} {Ol : List (List Addr)} (r : RepL G W H xs [a, b] Ol) : ∃ x y O O', xs = [x, y] ∧ Rep G W H x a O ∧ Rep G W H y b O' := by
  cases r with
  | cons r t =>
    cases t with
    | cons r' t =>
      cases t
      exact ⟨_, _, _, _, rfl, r, r'⟩
theorem RepL.inv1 {G : Gam} {W : Addr → Prop} {H : Hp} {xs : List V} {a : Val} {Ol : List (List Addr)} (r : RepL G W H xs [a] Ol) : ∃ x O, xs = [x] ∧ Rep G W H x a O := by
  cases r with
  | cons r t =>
    cases t
    exact ⟨_, _, rfl, r⟩
theorem sz_le {n : Nat} (h : n ≤ 16777216) : n ≤ sizeLine := by rw [sizeLine_eq]; exact h
theorem le_sz {n : Nat} (h : n ≤ sizeLine) : n ≤ 16777216 := by rw [sizeLine_eq] at h; exact h
section
variable {G : Gam} {X : Cx}
def rAddV (K : PySem.W.Frag) : R2 := fun x y H Q => rI0 (fun i j => .int (i + j)) x y H Q ∨ ((∃ i j, x = .str i ∧ y = .str j ∧ i.length + j.length ≤ sizeLine ∧ Q (.str (i ++ j)) H) ∨ (rCat x y H Q ∨ rCatA K x y H Q))
theorem op_addV (hK : X.K = G.K) : OpR X (binaryOp .Add) (rAddV G.K) := by
  rw [← hK]
  exact op_add.or (op_add_str.or (op_cat.or op_catA))
theorem rep_tupT {W : Addr → Prop} {H : Hp} {x : V} {vs : List Val} {O : List Addr} (r : Rep G W H x (.tup vs) O) : ∃ a xs, x = .ref a ∧ SqT G.K H a xs ∧ Reps G W H xs vs O := by
  cases r with
  | tup h r => exact ⟨_, _, rfl, .inl (.inl h.1), r⟩
theorem rep_lstL {W : Addr → Prop} {H : Hp} {x : V} {o : Bool} {vs : List Val} {O : List Addr} (r : Rep G W H x (.lst o vs) O) : ∃ a xs O', x = .ref a ∧ H a = some (.lst xs) ∧ Reps G W H xs vs O' := by
  cases r with
  | lstO h r => exact ⟨_, _, _, rfl, h, r⟩
  | lstF h r => exact ⟨_, _, _, rfl, h.1, r⟩
theorem ok_add : OkF G (r2 (rAddV G.K)) semAdd := by
  intro W H xs vs Ol v Q w r hs m
  unfold semAdd at hs
  split at hs
  · obtain ⟨x, y, O, O', rfl, r1, r2⟩ := r.inv2
    cases r1; cases r2; cases hs
    exact .inl ⟨_, _, rfl, rfl, m.same (.int _)⟩
  · obtain ⟨x, y, O, O', rfl, r1, r2⟩ := r.inv2
    cases r1; cases r2
    split at hs
    · rename_i h
      cases hs
      exact .inr (.inl ⟨_, _, rfl, rfl, sz_le h, m.same (.str _)⟩)
    · cases hs
  · obtain ⟨x, y, O, O', rfl, r1, r2⟩ := r.inv2
    split at hs
    · rename_i h
      cases hs
      obtain ⟨a, xs, O1, rfl, e1, q1⟩ := rep_lstL r1
      obtain ⟨b, ys, O2, rfl, e2, q2⟩ := rep_lstL r2
      exact .inr (.inr (.inl ⟨a, b, xs, ys, rfl, rfl, e1, e2, sz_le (by rw [q1.length, q2.length]; exact h.1), m.lst (by simpa using (q1.fz h.2.1).append (q2.fz h.2.2))⟩))
    · cases hs
  · obtain ⟨x, y, O, O', rfl, r1, r2⟩ := r.inv2
    split at hs
    · rename_i h
      cases hs
      obtain ⟨a, xs, rfl, e1, q1⟩ := rep_tupT r1
      obtain ⟨b, ys, rfl, e2, q2⟩ := rep_tupT r2
      refine .inr (.inr (.inr ⟨a, b, xs, ys, rfl, rfl, e1, e2, sz_le (by rw [q1.length, q2.length]; exact h.1), fun hx => ?_, fun _ hy => ?_, fun _ _ => m.tup (by simpa using (q1.fz h.2.1).append (q2.fz h.2.2)) (fresh_nw w)⟩))
      · subst hx
        cases q1
        exact m.same (r2.fz' (by simpa [Val.fz] using h.2.2))
      · subst hy
        cases q2
        rw [List.append_nil] at m
        exact m.same (r1.fz' (by simpa [Val.fz] using h.2.1))
    · cases hs
  · cases hs
theorem ok_sub : OkF G (r2 (rI0 fun i j => .int (i - j))) semSub := by
  intro W H xs vs Ol v Q w r hs m
  unfold semSub at hs
  split at hs
  · obtain ⟨x, y, O, O', rfl, r1, r2⟩ := r.inv2
    cases r1; cases r2; cases hs
    exact ⟨_, _, rfl, rfl, m.same (.int _)⟩
  · cases hs
def rMulV (K : PySem.W.Frag) : R2 := fun x y H Q => rI CMulW (fun i j => .int (i * j)) x y H Q ∨ (rI CMul (fun i j => .int (i * j)) x y H Q ∨ (rRep x y H Q ∨ rRepT K x y H Q))
theorem op_mulV (hK : X.K = G.K) : OpR X (binaryOp .Mult) (rMulV G.K) := by
  rw [← hK]
  exact op_mulW.or (op_mul.or (op_rep.or op_repT))
theorem Reps.rep {W : Addr → Prop} {H : Hp} {xs : List V} {vs : List Val} (r : Reps G W H xs vs []) : ∀ n : Nat, Reps G W H (List.replicate n xs).flatten (List.replicate n vs).flatten []
  | 0 => by simpa using Reps.nil
  | n + 1 => by
    rw [List.replicate_succ, List.replicate_succ, List.flatten_cons, List.flatten_cons]
    exact r.append (Reps.rep r n)
theorem ok_mul : OkF G (r2 (rMulV G.K)) semMul := by
  intro W H xs vs Ol v Q w r hs m
  unfold semMul at hs
  split at hs
  · obtain ⟨x, y, O, O', rfl, r1, r2⟩ := r.inv2
    cases r1; cases r2
    split at hs
    · rename_i h
      cases hs
      rcases h with h | h
      · exact .inl ⟨_, _, rfl, rfl, h, m.same (.int _)⟩
      · exact .inr (.inl ⟨_, _, rfl, rfl, h, m.same (.int _)⟩)
    · cases hs
  · obtain ⟨x, y, O, O', rfl, r1, r2⟩ := r.inv2
    cases r2
    split at hs
    · rename_i h
      cases hs
      obtain ⟨a, xs, O1, rfl, e1, q1⟩ := rep_lstL r1
      exact .inr (.inr (.inl ⟨a, _, xs, rfl, rfl, e1, h.1, h.2.1, sz_le (by rw [q1.length]; exact h.2.2.1), m.lst (Reps.rep (q1.fz h.2.2.2) _)⟩))
    · cases hs
  · obtain ⟨x, y, O, O', rfl, r1, r2⟩ := r.inv2
    cases r2
    split at hs
    · rename_i h
      cases hs
      obtain ⟨a, xs, rfl, e1, q1⟩ := rep_tupT r1
      refine .inr (.inr (.inr ⟨a, _, xs, rfl, rfl, e1, fun z => ?_, h.2.1, h.2.2.1, by rw [q1.length]; exact h.2.2.2.1, m.tup (Reps.rep (q1.fz h.2.2.2.2) _) (fresh_nw w)⟩))
      subst z
      cases q1
      exact h.1 rfl
    · cases hs
  · cases hs
theorem ok_div : OkF G (r2 (rI CDivW fun i j => .int (i / j))) semDiv := by
  intro W H xs vs Ol v Q w r hs m
  unfold semDiv at hs
  split at hs
  · obtain ⟨x, y, O, O', rfl, r1, r2⟩ := r.inv2
    cases r1; cases r2
    split at hs
    · rename_i h
      cases hs
      exact ⟨_, _, rfl, rfl, h, m.same (.int _)⟩
    · cases hs
  · cases hs
theorem ok_mod : OkF G (r2 (rI (fun _ j => 0 < j) fun i j => .int (i % j))) semMod := by
  intro W H xs vs Ol v Q w r hs m
  unfold semMod at hs
  split at hs
  · obtain ⟨x, y, O, O', rfl, r1, r2⟩ := r.inv2
    cases r1; cases r2
    split at hs
    · rename_i h
      cases hs
      exact ⟨_, _, rfl, rfl, h, m.same (.int _)⟩
    · cases hs
  · cases hs
theorem ok_pow : OkF G (r2 (rI CPow fun i j => .int (i ^ j.toNat))) semPow := by
  intro W H xs vs Ol v Q w r hs m
  unfold semPow at hs
  split at hs
  · obtain ⟨x, y, O, O', rfl, r1, r2⟩ := r.inv2
    cases r1; cases r2
    split at hs
    · rename_i h
      cases hs
      exact ⟨_, _, rfl, rfl, h, m.same (.int _)⟩
    · cases hs
  · cases hs
theorem ok_neg : OkF G (r1 (rU fun i => .int (-i))) semNeg := by
  intro W H xs vs Ol v Q w r hs m
  unfold semNeg at hs
  split at hs
  · obtain ⟨x, O, rfl, r1⟩ := r.inv1
    cases r1; cases hs
    exact ⟨_, rfl, m.same (.int _)⟩
  · cases hs
end

/-! ### comparisons -/
def semCmp (f : Int → Int → Bool) : List Val → Option Val
  | [.int a, .int b] => some (.bl (f a b))
  | _ => none
theorem ok_cmp {G : Gam} {f : Int → Int → Bool} : OkF G (r2 (rI0 fun i j => .bl (f i j))) (semCmp f) := by
  intro W H xs vs Ol v Q w r hs m
  unfold semCmp at hs
  split at hs
  · obtain ⟨x, y, O, O', rfl, r1, r2⟩ := r.inv2
    cases r1; cases r2; cases hs
    exact ⟨_, _, rfl, rfl, m.same (.bl _)⟩
  · cases hs
mutual
/-- as plain data -/
def toD : Val → Option PyData
  | .non => some .none
  | .bl b => some (.bool b)
  | .int i => some (.int i)
  | .str x => some (.str x)
  | .tup xs => match toDs xs with
    | some ds => some (.tuple ds)
    | none => none
  | .lst _ xs => match toDs xs with
    | some ds => some (.list ds)
    | none => none
  | _ => none
def toDs : List Val → Option (List PyData)
  | [] => some []
  | x :: xs => match toD x, toDs xs with
    | some d, some ds => some (d :: ds)
    | _, _ => none
end
section
variable {G : Gam} {W : Addr → Prop} {H : Hp}
mutual
theorem Rep.dp {x : V} {v : Val} {O : List Addr} {d : PyData} (r : Rep G W H x v O) (h : toD v = some d) : Dp G.K H x d := by
  cases r with
  | non => simp only [toD] at h; cases h; exact .non
  | bl b => simp only [toD] at h; cases h; exact .bl b
  | int i => simp only [toD] at h; cases h; exact .int i
  | str x => simp only [toD] at h; cases h; exact .str x
  | tup h' r =>
    simp only [toD] at h
    split at h
    · rename_i ds hd
      cases h
      exact .tup (.inl (.inl h'.1)) (r.dp hd)
    · cases h
  | lstO h' r =>
    simp only [toD] at h
    split at h
    · rename_i ds hd
      cases h
      exact .lst (.inl (.inl h')) (r.dp hd)
    · cases h
  | lstF h' r =>
    simp only [toD] at h
    split at h
    · rename_i ds hd
      cases h
      exact .lst (.inl (.inl h'.1)) (r.dp hd)
    · cases h
  | _ => simp only [toD] at h; cases h
theorem Reps.dp {xs : List V} {vs : List Val} {O : List Addr} {ds : List PyData} (r : Reps G W H xs vs O) (h : toDs vs = some ds) : DpAll G.K H xs ds := by
  cases r with
  | nil => simp only [toDs] at h; cases h; exact .nil
  | cons r t =>
    simp only [toDs] at h
    split at h
    · rename_i d ds h1 h2
      cases h
      exact .cons (r.dp h1) (t.dp h2)
    · cases h
end
end
/-- == -/
def eqD (a b : Val) : Option Bool := match toD a, toD b with
  | some d, some e => if SeqAt.shaped d = true ∧ SeqAt.shaped e = true then some (PyData.eqv d e) else none
  | _, _ => none
def semEq : List Val → Option Val
  | [a, b] => match eqD a b with
    | some c => some (.bl c)
    | none => none
  | _ => none
def semNe : List Val → Option Val
  | [a, b] => match eqD a b with
    | some c => some (.bl (!c))
    | none => none
  | _ => none
section
variable {G : Gam} {X : Cx}
theorem eqD_some {a b : Val} {c : Bool} (h : eqD a b = some c) : ∃ d e, toD a = some d ∧ toD b = some e ∧ SeqAt.shaped d = true ∧ SeqAt.shaped e = true ∧ c = PyData.eqv d e := by
  unfold eqD at h
  split at h
  · rename_i d e h1 h2
    split at h
    · rename_i hs
      cases h
      exact ⟨d, e, h1, h2, hs.1, hs.2, rfl⟩
    · cases h
  · cases h
theorem ok_eq : OkF G (r2 (rEqD G.K)) semEq := by
  intro W H xs vs Ol v Q w r hs m
  unfold semEq at hs
  split at hs
  · obtain ⟨x, y, O, O', rfl, r1, r2⟩ := r.inv2
    split at hs
    · rename_i c hc
      cases hs
      obtain ⟨d, e, h1, h2, h3, h4, rfl⟩ := eqD_some hc
      exact ⟨d, e, r1.dp h1, r2.dp h2, h3, h4, m.same (.bl _)⟩
    · cases hs
  · cases hs
theorem ok_ne : OkF G (r2 (rNeD G.K)) semNe := by
  intro W H xs vs Ol v Q w r hs m
  unfold semNe at hs
  split at hs
  · obtain ⟨x, y, O, O', rfl, r1, r2⟩ := r.inv2
    split at hs
    · rename_i c hc
      cases hs
      obtain ⟨d, e, h1, h2, h3, h4, rfl⟩ := eqD_some hc
      exact ⟨d, e, r1.dp h1, r2.dp h2, h3, h4, m.same (.bl _)⟩
    · cases hs
  · cases hs
end
end VL
/-! VL, part E: subscripts, tests, what is asked of one thing only if another says so, displays, slices. -/
namespace VL
open PySem L2

/-! ### when two values are the same tree -/
mutual
def Val.beq : Val → Val → Bool
  | .non, .non => true
  | .bl a, .bl b => a == b
  | .int a, .int b => a == b
  | .str a, .str b => decide (a = b)
  | .ty a, .ty b => a == b
  | .cn a, .cn b => a == b
  | .tup a, .tup b => beqs a b
  | .lst o a, .lst p b => o == p && beqs a b
  | .dct o d ks xs, .dct p e ls ys => o == p && (decide (d = e) && (beqs ks ls && beqs xs ys))
  | .obj o C fs xs, .obj p D gs ys => o == p && (C == D && (decide (fs = gs) && beqs xs ys))
  | .exn C fs xs, .exn D gs ys => C == D && (decide (fs = gs) && beqs xs ys)
  | .scr a, .scr b => decide (a = b)
  | .wdk ks xs, .wdk ls ys => beqs ks ls && beqs xs ys
  | .wtp a, .wtp b => beqs a b
  | _, _ => false
def beqs : List Val → List Val → Bool
  | [], [] => true
  | a :: l, b :: r => a.beq b && beqs l r
  | _, _ => false
end
mutual
theorem Val.beq_eq : ∀ (a b : Val), a.beq b = true → a = b
  | .non, b, h => by cases b <;> simp_all [Val.beq]
  | .bl a, b, h => by cases b <;> simp_all [Val.beq]
  | .int a, b, h => by cases b <;> simp_all [Val.beq]
  | .str a, b, h => by cases b <;> simp_all [Val.beq]
  | .ty a, b, h => by cases b <;> simp_all [Val.beq]
  | .cn a, b, h => by cases b <;> simp_all [Val.beq]
  | .scr a, b, h => by cases b <;> simp_all [Val.beq]
  | .tup a, b, h => by
    cases b <;> simp only [Val.beq, Bool.false_eq_true] at h
    rw [beqs_eq _ _ h]
  | .wtp a, b, h => by
    cases b <;> simp only [Val.beq, Bool.false_eq_true] at h
    rw [beqs_eq _ _ h]
  | .lst o a, b, h => by
    cases b <;> simp only [Val.beq, Bool.false_eq_true, Bool.and_eq_true, beq_iff_eq] at h
    rw [h.1, beqs_eq _ _ h.2]
  | .dct o d ks xs, b, h => by
    cases b <;> simp only [Val.beq, Bool.false_eq_true, Bool.and_eq_true, beq_iff_eq, decide_eq_true_eq] at h
    rw [h.1, h.2.1, beqs_eq _ _ h.2.2.1, beqs_eq _ _ h.2.2.2]
  | .obj o C fs xs, b, h => by
    cases b <;> simp only [Val.beq, Bool.false_eq_true, Bool.and_eq_true, beq_iff_eq, decide_eq_true_eq] at h
    rw [h.1, h.2.1, h.2.2.1, beqs_eq _ _ h.2.2.2]
  | .exn C fs xs, b, h => by
    cases b <;> simp only [Val.beq, Bool.false_eq_true, Bool.and_eq_true, beq_iff_eq, decide_eq_true_eq] at h
    rw [h.1, h.2.1, beqs_eq _ _ h.2.2]
  | .wdk ks xs, b, h => by
    cases b <;> simp only [Val.beq, Bool.false_eq_true, Bool.and_eq_true] at h
    rw [beqs_eq _ _ h.1, beqs_eq _ _ h.2]
theorem beqs_eq : ∀ (a b : List Val), beqs a b = true → a = b
  | [], b, h => by cases b <;> simp_all [beqs]
  | x :: l, b, h => by
    cases b with
    | nil => simp [beqs] at h
    | cons y r =>
      simp only [beqs, Bool.and_eq_true] at h
      rw [Val.beq_eq _ _ h.1, beqs_eq _ _ h.2]
end
mutual
theorem Val.beq_refl : ∀ (a : Val), a.beq a = true
  | .non | .bl _ | .int _ | .str _ | .ty _ | .cn _ | .scr _ => by simp [Val.beq]
  | .tup a => by simp only [Val.beq]; exact beqs_refl a
  | .wtp a => by simp only [Val.beq]; exact beqs_refl a
  | .lst o a => by simp [Val.beq, beqs_refl a]
  | .dct o d ks xs => by simp [Val.beq, beqs_refl ks, beqs_refl xs]
  | .obj o C fs xs => by simp [Val.beq, beqs_refl xs]
  | .exn C fs xs => by simp [Val.beq, beqs_refl xs]
  | .wdk ks xs => by simp [Val.beq, beqs_refl ks, beqs_refl xs]
theorem beqs_refl : ∀ (a : List Val), beqs a a = true
  | [] => by simp [beqs]
  | x :: l => by simp [beqs, Val.beq_refl x, beqs_refl l]
end
instance : DecidableEq Val := fun a b => if h : a.beq b = true then .isTrue (Val.beq_eq a b h) else .isFalse fun e => h (by rw [e]; exact Val.beq_refl b)

/-! ### dicts -/
def lookK (k : Val) : List Val → List Val → Option Val
  | l :: ks, v :: vs => if l = k then some v else lookK k ks vs
  | _, _ => none
/-- a value that may be a key of a dict -/
def isKey : DK → Val → Bool
  | .k, .int _ => true
  | .k, .str _ => true
  | .t, .tup xs => xs.all fun x => match x with | .int _ => true | .str _ => true | _ => false
  | _, _ => false
theorem ofKey_inj {k l : Key} (h : ofKey k = ofKey l) : k = l := by
  cases k <;> cases l <;> simp [ofKey] at h <;> rw [h]
theorem ofKey_map_inj : ∀ {k l : List Key}, k.map ofKey = l.map ofKey → k = l
  | [], [], _ => rfl
  | [], _ :: _, h => by simp at h
  | _ :: _, [], h => by simp at h
  | a :: k, b :: l, h => by
    simp only [List.map_cons, List.cons.injEq] at h
    rw [ofKey_inj h.1, ofKey_map_inj h.2]
section
variable {G : Gam} {W : Addr → Prop} {H : Hp}
/-- what is found at a key, in the tree and in the heap -/
theorem look_of {κ : Type} [DecidableEq κ] {f : κ → Val} (inj : ∀ a b, f a = f b → a = b) (k : κ) : ∀ {kvs : List (κ × V)} {vs : List Val} {O : List Addr}, Reps G W H (kvs.map (·.2)) vs O →
    match lookK (f k) (kvs.map fun p => f p.1) vs with
    | some v => ∃ x O', valV kvs k = some x ∧ Rep G W H x v O' ∧ ∀ a ∈ O', a ∈ O
    | none => valV kvs k = none
  | [], vs, O, r => by
    cases r
    simp [lookK, valV]
  | p :: kvs, vs, O, r => by
    cases r with
    | @cons x v _ vs' O1 O2 r t =>
      simp only [List.map_cons, lookK]
      by_cases h : f p.1 = f k
      · rw [if_pos h]
        have e := inj _ _ h
        exact ⟨p.2, O1, valV_pos e, r, fun a ha => List.mem_append_left _ ha⟩
      · rw [if_neg h]
        have e : ¬ p.1 = k := fun z => h (by rw [z])
        have ih := look_of inj k t
        cases hv : lookK (f k) (kvs.map fun p => f p.1) vs' with
        | some v' =>
          rw [hv] at ih
          obtain ⟨x', O', e1, r', s⟩ := ih
          exact ⟨x', O', by rw [valV_neg e]; exact e1, r', fun a ha => List.mem_append_right _ (s a ha)⟩
        | none =>
          rw [hv] at ih
          dsimp only
          rw [valV_neg e]; exact ih
theorem isKey_k {v : Val} {x : V} {O : List Addr} (h : isKey .k v = true) (r : Rep G W H x v O) : ∃ k : Key, v = ofKey k ∧ x = kV k := by
  cases r <;> simp [isKey] at h
  · exact ⟨.inl _, rfl, rfl⟩
  · exact ⟨.inr _, rfl, rfl⟩
theorem isKeys {vs : List Val} (h : (vs.all fun x => match x with | .int _ => true | .str _ => true | _ => false) = true) : ∀ {xs : List V} {O : List Addr}, Reps G W H xs vs O → ∃ ks : List Key, vs = ks.map ofKey ∧ xs = ks.map kV := by
  induction vs with
  | nil => intro xs O r; cases r; exact ⟨[], rfl, rfl⟩
  | cons v vs ih =>
    intro xs O r
    simp only [List.all_cons, Bool.and_eq_true] at h
    cases r with
    | cons r t =>
      obtain ⟨ks, e1, e2⟩ := ih h.2 t
      obtain ⟨k, e3, e4⟩ := isKey_k (G := G) (W := W) (H := H) (v := v) (by have := h.1; cases v <;> simp_all [isKey]) r
      exact ⟨k :: ks, by simp [e1, e3], by simp [e2, e4]⟩
end

/-! ### subscripts -/
def semIx : List Val → Option Val
  | [.lst _ xs, .int i] => match atI xs i with
    | some v => if v.fz = true then some v else none
    | none => none
  | [.tup xs, .int i] => match atI xs i with
    | some v => if v.fz = true then some v else none
    | none => none
  | [.wtp xs, .int i] => match atI xs i with
    | some v => some v
    | none => none
  | [.scr ns, .int i] => match atI ns i with
    | some n => some (.int n)
    | none => none
  | [.str z, .int i] => if z.length ≤ 16777216 then (match atI z.cps.toList i with
    | some c => some (.str ⟨#[c]⟩)
    | none => none) else none
  | [.dct _ d ks vs, k] => if isKey d k = true then (match lookK k ks vs with
    | some v => if v.fz = true then some v else none
    | none => none) else none
  | [.wdk ks vs, .str z] => match lookK (.str z) ks vs with
    | some v => if v.fz = true then some v else none
    | none => none
  | _ => none
section
variable {G : Gam} {X : Cx}
def rIxDG : R2 := fun x y H Q => ∃ a v, x = .ref a ∧ DGet H a y (some v) ∧ Q v H
theorem ix_dict (hu : X.A.units + 1 < cLine) : IxR X rIxDG := by
  intro value slice pins s σ H x y v u Q I rx ry h hs
  obtain ⟨a, z, rfl, g, q⟩ := h
  obtain rfl : v = Value.ref a := rx
  exact PyProof.Rows.tail_any (dict_typeIs I g) PySem.F.slot_dict_getitem.lookup (d_getItem hu I g ry fun w' s3 I3 rw' => ⟨z, H, I3, rw', q⟩) hs
def rIxV (K : PySem.W.Frag) (w : World) : R2 := fun x y H Q => rIx K x y H Q ∨ (rIxDG x y H Q ∨ rIxD K w x y H Q)
theorem IxR.or' {r r' : R2} (h : IxR X r) (h' : IxR X r') : IxR X (fun x y H Q => r x y H Q ∨ r' x y H Q) := by
  intro value slice pins s σ H x y v u Q I rx ry q hs
  rcases q with q | q
  · exact h value slice pins s σ H x y v u Q I rx ry q hs
  · exact h' value slice pins s σ H x y v u Q I rx ry q hs
theorem ix_any (hK : X.K = G.K) (hw : X.w = G.w) (hu : X.A.units + 1 < cLine) : IxR X (rIxV G.K G.w) := by
  rw [← hK, ← hw]
  exact IxR.or' ix_seq (IxR.or' (ix_dict hu) ix_kdict)
theorem Reps.at {W : Addr → Prop} {H : Hp} {xs : List V} {vs : List Val} {O : List Addr} (r : Reps G W H xs vs O) {i : Int} {v : Val} (h : atI vs i = some v) : ∃ x Oi, atI xs i = some x ∧ Rep G W H x v Oi := by
  unfold atI at h ⊢
  rw [r.length]
  cases e : ixN vs.length i with
  | none => rw [e] at h; cases h
  | some j =>
    rw [e] at h
    simp only [Option.bind_some] at h ⊢
    obtain ⟨x, _, Oi, _, e1, _, q⟩ := r.split h
    exact ⟨x, Oi, e1, q⟩
theorem atI_map {α β : Type} (f : α → β) (l : List α) (i : Int) : atI (l.map f) i = (atI l i).map f := by
  unfold atI
  rw [List.length_map]
  cases ixN l.length i with
  | none => rfl
  | some j => simp
theorem atI_mem {α : Type} {l : List α} {i : Int} {v : α} (h : atI l i = some v) : v ∈ l := by
  unfold atI at h
  cases e : ixN l.length i with
  | none => rw [e] at h; cases h
  | some j => rw [e] at h; exact List.mem_of_getElem? (by simpa using h)
theorem ok_ix : OkF G (r2 (rIxV G.K G.w)) semIx := by
  intro W H xs vs Ol v Q w r hs m
  unfold semIx at hs
  split at hs
  · obtain ⟨x, y, O, O', rfl, r1, r2⟩ := r.inv2
    cases r2
    split at hs
    · rename_i v' hv
      split at hs
      · rename_i hf
        cases hs
        obtain ⟨a, ys, O1, rfl, e1, q1⟩ := rep_lstL r1
        obtain ⟨z, Oi, e2, q2⟩ := q1.at hv
        exact .inl (.inl ⟨a, ys, _, z, rfl, rfl, .inl (.inl e1), e2, m.same (q2.fz' hf)⟩)
      · cases hs
    · cases hs
  · obtain ⟨x, y, O, O', rfl, r1, r2⟩ := r.inv2
    cases r2
    split at hs
    · rename_i v' hv
      split at hs
      · rename_i hf
        cases hs
        obtain ⟨a, ys, rfl, e1, q1⟩ := rep_tupT r1
        obtain ⟨z, Oi, e2, q2⟩ := q1.at hv
        exact .inl (.inr (.inl ⟨a, ys, _, z, rfl, rfl, e1, e2, m.same (q2.fz' hf)⟩))
      · cases hs
    · cases hs
  · obtain ⟨x, y, O, O', rfl, r1, r2⟩ := r.inv2
    cases r2
    split at hs
    · rename_i v' hv
      cases hs
      cases r1 with
      | @wtp a ys us h q1 =>
        obtain ⟨z, Oi, e2, q2⟩ := q1.at hv
        have hf : Rep G W H z v [] := by
          have := q1.fz_of_none rfl
          rw [fzs_all, List.all_eq_true] at this
          exact q2.fz' (this v (atI_mem hv))
        exact .inl (.inr (.inl ⟨a, ys, _, z, rfl, rfl, h.elim (fun q => by rcases q with q | ⟨o, q⟩ <;> cases q) .inr, e2, m.same hf⟩))
    · cases hs
  · obtain ⟨x, y, O, O', rfl, r1, r2⟩ := r.inv2
    cases r2
    split at hs
    · rename_i n hv
      cases hs
      cases r1 with
      | scr h =>
        exact .inl (.inl ⟨_, _, _, .int _, rfl, rfl, h.elim (fun ⟨o, e, _⟩ => Or.inl (Or.inr ⟨o, e⟩)) (fun z => z.elim (fun q => by rcases q with q | ⟨o, q⟩ <;> cases q) .inr), by rw [atI_map, hv]; rfl, m.same (.int _)⟩)
    · cases hs
  · obtain ⟨x, y, O, O', rfl, r1, r2⟩ := r.inv2
    cases r2; cases r1
    split at hs
    · rename_i hz
      split at hs
      · rename_i c hc
        cases hs
        exact .inl (.inr (.inr ⟨_, _, c, rfl, rfl, sz_le hz, hc, m.same (.str _)⟩))
      · cases hs
    · cases hs
  · obtain ⟨x, y, O, O', rfl, r1, r2⟩ := r.inv2
    split at hs
    · rename_i hk
      split at hs
      · rename_i v' hv
        split at hs
        · rename_i hf
          cases hs
          cases r1 with
          | @dkO a kvs ks vs O1 h hk' q =>
            obtain ⟨k, rfl, rfl⟩ := isKey_k hk r2
            have l := look_of (f := ofKey) (fun a b => ofKey_inj) k q
            rw [← hk', hv] at l
            obtain ⟨x', O'', e1, r', _⟩ := l
            exact .inr (.inl ⟨a, x', rfl, .inl ⟨kvs, k, .inl h, rfl, e1.symm⟩, m.same (r'.fz' hf)⟩)
          | @dkF a kvs ks vs h hk' q =>
            obtain ⟨k, rfl, rfl⟩ := isKey_k hk r2
            have l := look_of (f := ofKey) (fun a b => ofKey_inj) k q
            rw [← hk', hv] at l
            obtain ⟨x', O'', e1, r', _⟩ := l
            exact .inr (.inl ⟨a, x', rfl, .inl ⟨kvs, k, .inl h.1, rfl, e1.symm⟩, m.same (r'.fz' hf)⟩)
          | @dtO a kvs ks vs O1 h hk' q =>
            cases r2 <;> simp [isKey] at hk
            rename_i b ys us hb q2
            obtain ⟨kl, e2, e3⟩ := isKeys (by simpa using hk) q2
            subst e2 e3
            have l := look_of (f := fun k : List Key => Val.tup (k.map ofKey)) (fun a b e => ofKey_map_inj (by simpa using e)) kl q
            rw [← hk', hv] at l
            obtain ⟨x', O'', e1, r', _⟩ := l
            exact .inr (.inl ⟨a, x', rfl, .inr ⟨kvs, kl, b, .inl h, rfl, hb.1, e1.symm⟩, m.same (r'.fz' hf)⟩)
          | @dtF a kvs ks vs h hk' q =>
            cases r2 <;> simp [isKey] at hk
            rename_i b ys us hb q2
            obtain ⟨kl, e2, e3⟩ := isKeys (by simpa using hk) q2
            subst e2 e3
            have l := look_of (f := fun k : List Key => Val.tup (k.map ofKey)) (fun a b e => ofKey_map_inj (by simpa using e)) kl q
            rw [← hk', hv] at l
            obtain ⟨x', O'', e1, r', _⟩ := l
            exact .inr (.inl ⟨a, x', rfl, .inr ⟨kvs, kl, b, .inl h.1, rfl, hb.1, e1.symm⟩, m.same (r'.fz' hf)⟩)
        · cases hs
      · cases hs
    · cases hs
  · obtain ⟨x, y, O, O', rfl, r1, r2⟩ := r.inv2
    cases r2
    split at hs
    · rename_i v' hv
      split at hs
      · rename_i hf
        cases hs
        cases r1 with
        | @wdk a kvs ks vs h hk' q =>
          have l := look_of (f := ofKey) (fun a b => ofKey_inj) (.inr ‹Str›) q
          rw [← hk'] at l
          simp only [ofKey] at l
          rw [hv] at l
          obtain ⟨x', O'', e1, r', _⟩ := l
          exact .inr (.inr ⟨a, _, x', rfl, rfl, h _ _ e1, m.same (r'.fz' hf)⟩)
      · cases hs
    · cases hs
  · cases hs
end
end VL
/-! VL, part F: tests; and, or, not; a if t else b; displays; slices. -/
namespace VL
open PySem L2

section
variable {G : Gam} {R : Addr → Prop} {E : WX} {σ : L2.St} {H H1 : Hp} {Os Os1 : Nat → List Addr} {ρ ρ1 : VEnv} {Q : VK} {r : RE}
/-- from a later place -/
theorem Post.later {p p1 p2 s s2 : Bool} (hp : p = true → p1 = true ∧ p2 = true) (hs : s = true → s2 = true) (post : Post G R E σ H Os p s ρ Q r) (k : KeepE H Os H1 Os1 fun _ => False) (pu : p1 = true → ρ1 = ρ ∧ Os1 = Os ∧ Same H H1) : Post G R E σ H1 Os1 p2 s2 ρ1 Q r := by
  cases r with
  | bad => exact post
  | exc e ρ' => exact fun c d H' Os' rel rx keep => post c d H' Os' rel rx (k.trans keep)
  | ok v ρ' =>
    intro x H' Os' O rel rep nd keep pure
    have hw : ∀ a, Rp R s O a → Rp R s2 O a := fun a z => z.imp id fun z => ⟨hs z.1, z.2⟩
    refine post x H' Os' O (rel.weak hw) (rep.mono (fun a o e nw => ⟨e, fun z => nw (z.imp (hw a) id)⟩) fun _ _ _ e => e) (fun z => nd (hs z)) ((k.trans keep).imp fun a z => ⟨hs z.1, z.2⟩) fun z => ?_
    obtain ⟨h1, h2⟩ := hp z
    obtain ⟨a1, a2, a3⟩ := pu h1
    obtain ⟨b1, b2, b3⟩ := pure h2
    exact ⟨b1.trans a1, b2.trans a2, a3.trans b3⟩
end

/-! ### tests -/
def PostT (G : Gam) (R : Addr → Prop) (E : WX) (σ : L2.St) (H : Hp) (Os : Nat → List Addr) (p : Bool) (ρ : VEnv) (Q : Bool → Hp → Prop) : RE → Prop
  | .ok (.bl b) ρ' => ∀ H' Os', Rel G R H' σ ρ' Os' → KeepE H Os H' Os' (fun _ => False) → (p = true → ρ' = ρ ∧ Os' = Os ∧ Same H H') → Q b H'
  | .ok _ _ => False
  | .exc e ρ' => ∀ c d H' Os', Rel G R H' σ ρ' Os' → RepX G (WW R Os') H' c d e → KeepE H Os H' Os' (fun _ => False) → E c d σ H'
  | .bad => False
def tT (G : Gam) (E : WX) (p : Bool) (m : ME) : TT := fun σ H Q => ∃ R ρ Os, Rel G R H σ ρ Os ∧ PostT G R E σ H Os p ρ Q (m ρ)
def VT (G : Gam) (X : Cx) (E : WX) (p : Bool) (e : Expr) (m : ME) : Prop := PT X e (tT G E p m)
section
variable {G : Gam} {R : Addr → Prop} {E : WX} {σ : L2.St} {H H1 : Hp} {Os Os1 : Nat → List Addr} {ρ ρ1 : VEnv}
theorem PostT.later {p p1 p2 : Bool} {Q : Bool → Hp → Prop} {r : RE} (hp : p = true → p1 = true ∧ p2 = true) (post : PostT G R E σ H Os p ρ Q r) (k : KeepE H Os H1 Os1 fun _ => False) (pu : p1 = true → ρ1 = ρ ∧ Os1 = Os ∧ Same H H1) : PostT G R E σ H1 Os1 p2 ρ1 Q r := by
  cases r with
  | bad => exact post
  | exc e ρ' => exact fun c d H' Os' rel rx keep => post c d H' Os' rel rx (k.trans keep)
  | ok v ρ' =>
    cases v with
    | bl b =>
      intro H' Os' rel keep pure
      refine post H' Os' rel (k.trans keep) fun z => ?_
      obtain ⟨h1, h2⟩ := hp z
      obtain ⟨a1, a2, a3⟩ := pu h1
      obtain ⟨b1, b2, b3⟩ := pure h2
      exact ⟨b1.trans a1, b2.trans a2, a3.trans b3⟩
    | _ => exact post.elim
/-- a test read off a value's reading -/
theorem PostT.post {p s : Bool} {Q : Bool → Hp → Prop} {r : RE} (post : PostT G R E σ H Os p ρ Q r) : Post G R E σ H Os p s ρ (fun x H' => ∃ c, x = .bl c ∧ Q c H') r := by
  cases r with
  | bad => exact post
  | exc e ρ' => exact post
  | ok v ρ' =>
    cases v with
    | bl b =>
      intro x H' Os' O rel rep nd keep pure
      cases rep
      exact ⟨b, rfl, post H' Os' (rel.weak fun a z => .inl z) (keep.imp fun _ z => z.elim) pure⟩
    | _ => exact post.elim
end
section
variable {G : Gam} {X : Cx} {E : WX} {e a b c : Expr} {pos : Pos} {p s p1 s1 p2 s2 p3 s3 : Bool} {m m1 m2 m3 : ME}
theorem vt_val (h : VE G X E p s e m) (he : ∀ whole, isTrue e X.env whole = (do let v ← whole; standAt e.pos; holding [v] (truthy v)) := by intro _; rfl) : VT G X E p e m :=
  PT.pre (pt_val h he) fun σ H Q ⟨R, ρ, Os, rel, post⟩ => ⟨R, ρ, Os, rel, post.post⟩
theorem vt_cmp {op : CmpOp} {r : R2} {sem : List Val → Option Val} (ho : OpR X (compareOp op) r) (ok : OkF G (r2 r) sem) (h1 : VE G X E p1 s1 a m1) (h2 : VE G X E p2 s2 b m2) (hm : behindInMarks op b = false) (wf : (s1 || p2) = true := by rfl) :
    VT G X E (p1 && p2) (.Compare a [op] [b] pos) (mFun sem [m1, m2]) := by
  refine PT.pre (pt_cmpR ho h1 h2 hm) fun σ H Q ⟨R, ρ, Os, rel, post⟩ => ?_
  have := fun_pre (G := G) (E := E) (os := [⟨p1, s1, m1⟩, ⟨p2, s2, m2⟩]) (r := r2 r) (t := tOp r (rd G E p1 s1 m1) (rd G E p2 s2 m2)) (fun σ H Q z => z) ok (wf2 wf) σ H (fun x H' => ∃ c, x = .bl c ∧ Q c H') ⟨R, ρ, Os, rel, ?_⟩
  · exact this
  · have := post.post (s := true)
    simpa using this
def mNot (m : ME) : ME := fun ρ => match m ρ with
  | .ok (.bl b) ρ' => .ok (.bl (!b)) ρ'
  | .ok _ _ => .bad
  | .exc e ρ' => .exc e ρ'
  | .bad => .bad
def mAnd (m1 m2 : ME) : ME := fun ρ => match m1 ρ with
  | .ok (.bl b) ρ' => if b = true then m2 ρ' else .ok (.bl false) ρ'
  | .ok _ _ => .bad
  | .exc e ρ' => .exc e ρ'
  | .bad => .bad
def mOr (m1 m2 : ME) : ME := fun ρ => match m1 ρ with
  | .ok (.bl b) ρ' => if b = true then .ok (.bl true) ρ' else m2 ρ'
  | .ok _ _ => .bad
  | .exc e ρ' => .exc e ρ'
  | .bad => .bad
def mIf (m1 m2 m3 : ME) : ME := fun ρ => match m1 ρ with
  | .ok (.bl b) ρ' => if b = true then m2 ρ' else m3 ρ'
  | .ok _ _ => .bad
  | .exc e ρ' => .exc e ρ'
  | .bad => .bad
theorem vt_not (h : VT G X E p e m) : VT G X E p (.UnaryOp .Not e pos) (mNot m) := by
  refine PT.pre (pt_not h) fun σ H Q ⟨R, ρ, Os, rel, post⟩ => ⟨R, ρ, Os, rel, ?_⟩
  unfold mNot at post
  cases hm : m ρ with
  | bad => rw [hm] at post; exact post
  | exc e ρ' => rw [hm] at post; exact post
  | ok v ρ' =>
    rw [hm] at post
    cases v with
    | bl b => exact post
    | _ => exact post.elim
/-- and, or over tests -/
def VW (G : Gam) (X : Cx) (E : WX) (p : Bool) (e : Expr) (m : ME) : Prop := PW X e (tT G E p m)
theorem vt_of (h : VW G X E p e m) : VT G X E p e m := PW.pt h
theorem PW.pre {X : Cx} {e : Expr} {t t' : TT} (h : PW X e t) (k : ∀ σ H Q, t' σ H Q → t σ H Q) : PW X e t' := ⟨fun wh pins s σ H Q I q => h.run wh pins s σ H Q I (k σ H Q q)⟩
theorem vw_and1 (h : VT G X E p a m) : VW G X E p (.BoolOp .And [a] pos) m := pw_and1 h
theorem vw_or1 (h : VT G X E p a m) : VW G X E p (.BoolOp .Or [a] pos) m := pw_or1 h
theorem vw_and {rest : List Expr} (h1 : VT G X E p1 a m1) (h2 : VW G X E p2 (.BoolOp .And (b :: rest) pos) m2) : VW G X E (p1 && p2) (.BoolOp .And (a :: b :: rest) pos) (mAnd m1 m2) := by
  refine PW.pre (pw_and h1 h2) fun σ H Q ⟨R, ρ, Os, rel, post⟩ => ⟨R, ρ, Os, rel, ?_⟩
  unfold mAnd at post
  cases hm : m1 ρ with
  | bad => rw [hm] at post; exact post
  | exc e ρ' => rw [hm] at post; exact post
  | ok v ρ' =>
    rw [hm] at post
    cases v with
    | bl b =>
      intro H' Os' rel' keep pure
      cases b with
      | true => exact ⟨R, ρ', Os', rel', PostT.later (p1 := p1) (by simp) post keep pure⟩
      | false => exact post H' Os' rel' keep fun z => pure (by simp at z; exact z.1)
    | _ => exact post.elim
theorem vw_or {rest : List Expr} (h1 : VT G X E p1 a m1) (h2 : VW G X E p2 (.BoolOp .Or (b :: rest) pos) m2) : VW G X E (p1 && p2) (.BoolOp .Or (a :: b :: rest) pos) (mOr m1 m2) := by
  refine PW.pre (pw_or h1 h2) fun σ H Q ⟨R, ρ, Os, rel, post⟩ => ⟨R, ρ, Os, rel, ?_⟩
  unfold mOr at post
  cases hm : m1 ρ with
  | bad => rw [hm] at post; exact post
  | exc e ρ' => rw [hm] at post; exact post
  | ok v ρ' =>
    rw [hm] at post
    cases v with
    | bl b =>
      intro H' Os' rel' keep pure
      cases b with
      | false => exact ⟨R, ρ', Os', rel', PostT.later (p1 := p1) (by simp) post keep pure⟩
      | true => exact post H' Os' rel' keep fun z => pure (by simp at z; exact z.1)
    | _ => exact post.elim
/-! ### .. as values -/
theorem ve_one {op} (h : VE G X E p s a m) : VE G X E p s (.BoolOp op [a] pos) m := pe_one h
theorem ve_and {rest : List Expr} (h1 : VE G X E p1 s1 a m1) (h2 : VE G X E p2 s2 (.BoolOp .And (b :: rest) pos) m2) : VE G X E (p1 && p2) s2 (.BoolOp .And (a :: b :: rest) pos) (mAnd m1 m2) := by
  refine PE.pre (pe_and h1 h2) fun σ H Q ⟨R, ρ, Os, rel, post⟩ => ⟨R, ρ, Os, rel, ?_⟩
  unfold mAnd at post
  cases hm : m1 ρ with
  | bad => rw [hm] at post; exact post
  | exc e ρ' => rw [hm] at post; exact post
  | ok v ρ' =>
    rw [hm] at post
    cases v with
    | bl b =>
      intro x H' Os' O rel' rep nd keep pure
      cases rep
      refine ⟨b, rfl, ?_⟩
      have hr : Rel G R H' σ ρ' Os' := rel'.weak fun a z => .inl z
      cases b with
      | true =>
        rw [if_pos rfl]
        exact ⟨R, ρ', Os', hr, Post.later (p1 := p1) (by simp) id post (keep.imp fun _ z => z.elim) pure⟩
      | false =>
        rw [if_neg Bool.false_ne_true]
        exact post (.bl false) H' Os' [] (hr.weak fun a z => z.elim id fun z => nomatch z.2) (.bl false) (fun _ => List.nodup_nil) (keep.imp fun a z => nomatch z.2) fun z => pure (by simp at z; exact z.1)
    | _ => exact post.elim
theorem ve_or {rest : List Expr} (h1 : VE G X E p1 s1 a m1) (h2 : VE G X E p2 s2 (.BoolOp .Or (b :: rest) pos) m2) : VE G X E (p1 && p2) s2 (.BoolOp .Or (a :: b :: rest) pos) (mOr m1 m2) := by
  refine PE.pre (pe_or h1 h2) fun σ H Q ⟨R, ρ, Os, rel, post⟩ => ⟨R, ρ, Os, rel, ?_⟩
  unfold mOr at post
  cases hm : m1 ρ with
  | bad => rw [hm] at post; exact post
  | exc e ρ' => rw [hm] at post; exact post
  | ok v ρ' =>
    rw [hm] at post
    cases v with
    | bl b =>
      intro x H' Os' O rel' rep nd keep pure
      cases rep
      refine ⟨b, rfl, ?_⟩
      have hr : Rel G R H' σ ρ' Os' := rel'.weak fun a z => .inl z
      cases b with
      | false =>
        rw [if_neg Bool.false_ne_true]
        exact ⟨R, ρ', Os', hr, Post.later (p1 := p1) (by simp) id post (keep.imp fun _ z => z.elim) pure⟩
      | true =>
        rw [if_pos rfl]
        exact post (.bl true) H' Os' [] (hr.weak fun a z => z.elim id fun z => nomatch z.2) (.bl true) (fun _ => List.nodup_nil) (keep.imp fun a z => nomatch z.2) fun z => pure (by simp at z; exact z.1)
    | _ => exact post.elim
theorem ve_not (h : VE G X E p s e m) : VE G X E p true (.UnaryOp .Not e pos) (mNot m) := by
  refine PE.pre (pe_not h) fun σ H Q ⟨R, ρ, Os, rel, post⟩ => ⟨R, ρ, Os, rel, ?_⟩
  unfold mNot at post
  cases hm : m ρ with
  | bad => rw [hm] at post; exact post
  | exc e ρ' => rw [hm] at post; exact post
  | ok v ρ' =>
    rw [hm] at post
    cases v with
    | bl b =>
      intro x H' Os' O rel' rep nd keep pure
      cases rep
      exact ⟨b, rfl, post (.bl (!b)) H' Os' [] (rel'.weak fun a z => .inl (z.elim id fun z => nomatch z.2)) (.bl _) (fun _ => List.nodup_nil) (keep.imp fun a z => nomatch z.2) pure⟩
    | _ => exact post.elim
theorem ve_if (hc : VT G X E p1 c m1) (ha : VE G X E p2 s2 a m2) (hb : VE G X E p3 s3 b m3) : VE G X E (p1 && (p2 && p3)) (s2 && s3) (.IfExp c a b pos) (mIf m1 m2 m3) := by
  refine PE.pre (pe_ifExp hc ha hb) fun σ H Q ⟨R, ρ, Os, rel, post⟩ => ⟨R, ρ, Os, rel, ?_⟩
  unfold mIf at post
  cases hm : m1 ρ with
  | bad => rw [hm] at post; exact post
  | exc e ρ' => rw [hm] at post; exact post
  | ok v ρ' =>
    rw [hm] at post
    cases v with
    | bl b =>
      intro H' Os' rel' keep pure
      cases b with
      | true =>
        rw [if_pos rfl]
        exact ⟨R, ρ', Os', rel', Post.later (p1 := p1) (by simp; intros; simp [*]) (by simp; intros; simp [*]) post keep pure⟩
      | false =>
        rw [if_neg Bool.false_ne_true]
        exact ⟨R, ρ', Os', rel', Post.later (p1 := p1) (by simp; intros; simp [*]) (by simp) post keep pure⟩
    | _ => exact post.elim

/-! ### a < b < c of whole numbers -/
def mChain (f g : Int → Int → Bool) (m1 m2 m3 : ME) : ME := fun ρ => match evalM [m1, m2] ρ with
  | .ok [.int i, .int j] ρ1 => if f i j = true then (match m3 ρ1 with
    | .ok (.int k) ρ2 => .ok (.bl (g j k)) ρ2
    | .ok _ _ => .bad
    | .exc e ρ2 => .exc e ρ2
    | .bad => .bad) else .ok (.bl false) ρ1
  | .ok _ _ => .bad
  | .exc e ρ1 => .exc e ρ1
  | .bad => .bad
theorem chain_pre {f g : Int → Int → Bool} (wf : (s1 || p2) = true) (σ : L2.St) (H : Hp) (Q : VK) (h : rd G E (p1 && (p2 && p3)) true (mChain f g m1 m2 m3) σ H Q) :
    tChain (rI0 fun i j => .bl (f i j)) (rI0 fun i j => .bl (g i j)) (rd G E p1 s1 m1) (rd G E p2 s2 m2) (rd G E p3 s3 m3) σ H Q := by
  obtain ⟨R, ρ, Os, rel, post⟩ := h
  have key := nest_of (G := G) (E := E) (σ := σ) (os := [⟨p1, s1, m1⟩, ⟨p2, s2, m2⟩]) (wf2 wf) rel (K := fun xs H2 => match xs with
    | [x, y] => ∃ i j, x = .int i ∧ y = .int j ∧ ∃ k, V.bl (f i j) = .bl k ∧ (if k = true then rd G E p3 s3 m3 σ H2 fun w' H4 => ∃ j' k, y = .int j' ∧ w' = .int k ∧ Q (.bl (g j' k)) H4 else Q (.bl false) H2)
    | _ => False) ?_
  · exact key
  · rw [evalA_eq]
    unfold mChain at post
    simp only [List.map_cons, List.map_nil]
    cases he : evalM [m1, m2] ρ with
    | bad => rw [he] at post; exact post
    | exc e ρ' => rw [he] at post; exact post
    | ok vs ρ1 =>
      rw [he] at post
      intro xs H1 Os1 Ol rel1 reps nd keep pure
      match vs, reps, post with
      | [.int i, .int j], reps, post =>
        obtain ⟨x, y, O, O', rfl, r1, r2⟩ := reps.inv2
        cases r1; cases r2
        have keep' : KeepE H Os H1 Os1 fun _ => False := keep.imp fun _ z => z.elim
        refine ⟨i, j, rfl, rfl, f i j, rfl, ?_⟩
        cases hf : f i j with
        | false =>
          rw [if_neg Bool.false_ne_true]
          simp only [hf, Bool.false_eq_true, if_false] at post
          exact post (.bl false) H1 Os1 [] (rel1.weak fun a z => .inl (z.elim id fun z => nomatch z.2)) (.bl false) (fun _ => List.nodup_nil) (keep'.imp fun a z => nomatch z.2) fun z => pure (by simp at z ⊢; exact ⟨z.1, z.2.1⟩)
        | true =>
          rw [if_pos rfl]
          simp only [hf, if_true] at post
          refine ⟨R, ρ1, Os1, rel1.weak fun a z => .inl z, ?_⟩
          have pure' : (p1 && p2) = true → ρ1 = ρ ∧ Os1 = Os ∧ Same H H1 := fun z => pure (by simpa using z)
          cases hm : m3 ρ1 with
          | bad => rw [hm] at post; exact post
          | exc e ρ' => rw [hm] at post; exact fun c d H' Os' rel' rx k => post c d H' Os' rel' rx (keep'.trans k)
          | ok v ρ2 =>
            rw [hm] at post
            cases v with
            | int k =>
              intro x H' Os' O rel' rep nd' k' pu'
              cases rep
              refine ⟨j, k, rfl, rfl, ?_⟩
              refine post (.bl (g j k)) H' Os' [] (rel'.weak fun a z => .inl (z.elim id fun z => nomatch z.2)) (.bl _) (fun _ => List.nodup_nil) ((keep'.trans k').imp fun a z => nomatch z.2) fun z => ?_
              simp only [Bool.and_eq_true] at z
              obtain ⟨a1, a2, a3⟩ := pure' (by simp [z.1, z.2.1])
              obtain ⟨b1, b2, b3⟩ := pu' z.2.2
              exact ⟨b1.trans a1, b2.trans a2, a3.trans b3⟩
            | _ => exact post.elim
theorem ve_chain {op op' : CmpOp} {f g : Int → Int → Bool} (ho : OpR X (compareOp op) (rI0 fun i j => .bl (f i j))) (ho' : OpR X (compareOp op') (rI0 fun i j => .bl (g i j))) (h1 : VE G X E p1 s1 a m1) (h2 : VE G X E p2 s2 b m2) (h3 : VE G X E p3 s3 c m3) (wf : (s1 || p2) = true := by rfl)
    (hm : lastMarks [op, op'] [b, c] = false := by with_unfolding_all rfl) : VE G X E (p1 && (p2 && p3)) true (.Compare a [op, op'] [b, c] pos) (mChain f g m1 m2 m3) :=
  PE.pre (pe_chain ho ho' h1 h2 h3 hm) (chain_pre wf)
theorem vt_chain {op op' : CmpOp} {f g : Int → Int → Bool} (ho : OpR X (compareOp op) (rI0 fun i j => .bl (f i j))) (ho' : OpR X (compareOp op') (rI0 fun i j => .bl (g i j))) (h1 : VE G X E p1 s1 a m1) (h2 : VE G X E p2 s2 b m2) (h3 : VE G X E p3 s3 c m3) (wf : (s1 || p2) = true := by rfl)
    (hm : lastMarks [op, op'] [b, c] = false := by with_unfolding_all rfl) : VT G X E (p1 && (p2 && p3)) (.Compare a [op, op'] [b, c] pos) (mChain f g m1 m2 m3) :=
  PT.pre (pt_chain ho ho' h1 h2 h3 hm) fun σ H Q ⟨R, ρ, Os, rel, post⟩ => chain_pre wf σ H _ ⟨R, ρ, Os, rel, post.post⟩
end
end VL
/-! VL, part G: displays, slices, len, int, str, repr, max, min, isinstance. -/
namespace VL
open PySem L2

/-! ### displays -/
def mTup (ms : List ME) : ME := fun ρ => match evalM ms ρ with
  | .ok vs ρ' => .ok (.tup vs) ρ'
  | .exc e ρ' => .exc e ρ'
  | .bad => .bad
def mLst (ms : List ME) : ME := fun ρ => match evalM ms ρ with
  | .ok vs ρ' => .ok (.lst true vs) ρ'
  | .exc e ρ' => .exc e ρ'
  | .bad => .bad
section
variable {G : Gam} {X : Cx} {E : WX} {es : List Expr} {os : List Op} {pos : Pos}
theorem RepL.reps {W : Addr → Prop} {H : Hp} {xs : List V} {vs : List Val} {Ol : List (List Addr)} (r : RepL G W H xs vs Ol) : Reps G W H xs vs Ol.flatten := by
  induction r with
  | nil => exact .nil
  | cons r t ih => rw [List.flatten_cons]; exact .cons r ih
theorem stab_all : ∀ {os : List Op} {Ol : List (List Addr)}, os.all (·.s) = true → os.length = Ol.length → stab os Ol = Ol.flatten
  | [], [], _, _ => rfl
  | [], _ :: _, _, h => by simp at h
  | _ :: _, [], _, h => by simp at h
  | o :: os, O :: Ol, h, hl => by
    simp only [List.all_cons, Bool.and_eq_true] at h
    unfold stab
    rw [if_pos h.1, List.flatten_cons, stab_all h.2 (by simpa using hl)]
theorem RepL.len {W : Addr → Prop} {H : Hp} {xs : List V} {vs : List Val} {Ol : List (List Addr)} (r : RepL G W H xs vs Ol) : xs.length = vs.length ∧ vs.length = Ol.length := by
  induction r with
  | nil => exact ⟨rfl, rfl⟩
  | cons r t ih => exact ⟨by simp [ih.1], by simp [ih.2]⟩
theorem evalM_len : ∀ {ms : List ME} {ρ ρ' : VEnv} {vs : List Val}, evalM ms ρ = .ok vs ρ' → vs.length = ms.length
  | [], ρ, ρ', vs, h => by cases h; rfl
  | m :: ms, ρ, ρ', vs, h => by
    unfold evalM at h
    cases hm : m ρ with
    | bad => rw [hm] at h; cases h
    | exc e ρ1 => rw [hm] at h; cases h
    | ok v ρ1 =>
      rw [hm] at h
      dsimp only at h
      cases he : evalM ms ρ1 with
      | bad => rw [he] at h; cases h
      | exc e ρ2 => rw [he] at h; cases h
      | ok us ρ2 =>
        rw [he] at h
        cases h
        simp [evalM_len he]
theorem wf_all {os : List Op} (h : os.all (·.s) = true) : wfA os = true := by
  induction os with
  | nil => rfl
  | cons o os ih =>
    simp only [List.all_cons, Bool.and_eq_true] at h
    simp [wfA, h.1, ih h.2]
theorem ve_tup {k : Nat} (h : VAs G X E es os) (hs : os.all (·.s) = true := by rfl) (hl : os.length ≤ 1000 := by decide) : VE G X E (os.all (·.p)) true (.Tuple es k pos) (mTup (os.map Op.m)) := by
  refine PE.pre (pe_tup h) fun σ H Q ⟨R, ρ, Os, rel, post⟩ => ?_
  refine nest_of (wf_all hs) rel ?_
  rw [evalA_eq]
  unfold mTup at post
  cases he : evalM (os.map Op.m) ρ with
  | bad => rw [he] at post; exact post
  | exc e ρ' => rw [he] at post; exact post
  | ok vs ρ' =>
    rw [he] at post
    intro xs H' Os' Ol rel' reps nd keep pure
    have hlen := reps.len
    have hv := evalM_len he
    rw [List.length_map] at hv
    refine ⟨sz_le (by omega), fun q hq => ?_⟩
    have es := stab_all hs (hv.symm.trans hlen.2)
    have hR : ∀ a, Rp R true Ol.flatten a ↔ (R a ∨ a ∈ stab os Ol) := fun a => by
      rw [es]; exact ⟨fun z => z.imp id fun z => z.2, fun z => z.imp id fun z => ⟨rfl, z⟩⟩
    have ef : Rp R true Ol.flatten = fun a => R a ∨ a ∈ stab os Ol := funext fun a => propext (hR a)
    have nq : ¬ WW (fun a => R a ∨ a ∈ stab os Ol) Os' q := fresh_nw (fun p hp => rel'.ww hp) q hq
    refine post (.ref q) _ Os' Ol.flatten ?_ ?_ (fun _ => es ▸ nd) ?_ fun z => ?_
    · rw [ef]
      exact rel'.grow (same_upd hq) (fun a z => .inl z) fun a z => let ⟨o, e⟩ := rel'.rt a z; ⟨o, same_upd hq a o e⟩
    · rw [ef]
      exact .tup ⟨upd_same, nq⟩ (reps.reps.upd hq fun z hz => .inl hz)
    · exact (keep.grow (same_upd hq) fun a z => .inl (by rw [es]; exact z.2))
    · obtain ⟨h1, h2, h3⟩ := pure z
      exact ⟨h1, h2, h3.trans (same_upd hq)⟩
theorem ve_lst (h : VAs G X E es os) (hs : os.all (·.s) = true := by rfl) (hl : os.length ≤ 1000 := by decide) : VE G X E (os.all (·.p)) true (.List es pos) (mLst (os.map Op.m)) := by
  refine PE.pre (pe_lst h) fun σ H Q ⟨R, ρ, Os, rel, post⟩ => ?_
  refine nest_of (wf_all hs) rel ?_
  rw [evalA_eq]
  unfold mLst at post
  cases he : evalM (os.map Op.m) ρ with
  | bad => rw [he] at post; exact post
  | exc e ρ' => rw [he] at post; exact post
  | ok vs ρ' =>
    rw [he] at post
    intro xs H' Os' Ol rel' reps nd keep pure
    have hlen := reps.len
    have hv := evalM_len he
    rw [List.length_map] at hv
    refine ⟨sz_le (by omega), fun q hq => ?_⟩
    have es := stab_all hs (hv.symm.trans hlen.2)
    rw [es] at rel' nd keep
    rw [es] at reps
    have hR : ∀ a, Rp R true (q :: Ol.flatten) a → (R a ∨ a ∈ Ol.flatten) ∨ H' a = none := fun a z => by
      rcases z with z | ⟨_, z⟩
      · exact .inl (.inl z)
      · rcases List.mem_cons.mp z with z | z
        · exact .inr (z ▸ hq)
        · exact .inl (.inr z)
    refine post (.ref q) _ Os' (q :: Ol.flatten) (rel'.grow (same_upd hq) hR fun a z => ?_) (.lstO upd_same (reps.reps.upd hq fun z hz => ?_)) (fun _ => ?_) (keep.grow (same_upd hq) fun a z => ?_) fun z => ?_
    · rcases z with z | ⟨_, z⟩
      · obtain ⟨o, e⟩ := rel'.rt a (.inl z)
        exact ⟨o, same_upd hq a o e⟩
      · rcases List.mem_cons.mp z with z | z
        · subst z; exact ⟨_, upd_same⟩
        · obtain ⟨o, e⟩ := rel'.rt a (.inr z)
          exact ⟨o, same_upd hq a o e⟩
    · exact hz.elim (fun z => (hR _ z).imp .inl id) fun z => .inl (.inr z)
    · refine List.nodup_cons.mpr ⟨fun hm => ?_, nd⟩
      obtain ⟨o, e⟩ := reps.reps.there q hm
      rw [hq] at e; cases e
    · rcases List.mem_cons.mp z.2 with z | z
      · exact .inr (z ▸ hq)
      · exact .inl z
    · obtain ⟨h1, h2, h3⟩ := pure z
      exact ⟨h1, h2, h3.trans (same_upd hq)⟩
end

/-! ### slices -/
def cutL {α : Type} (xs : List α) (lo hi : Option Int) : List α := (xs.drop (HT.sIx xs.length 0 lo)).take (HT.sIx xs.length xs.length hi - HT.sIx xs.length 0 lo)
def semSl (lo hi : Option Int) : Val → Option Val
  | .lst _ xs => if fzs xs = true then some (.lst true (cutL xs lo hi)) else none
  | .tup xs => if fzs xs = true then some (.tup (cutL xs lo hi)) else none
  | .str z => if z.length ≤ 16777216 then some (.str (cutS z lo hi)) else none
  | _ => none
def rSlV (K : PySem.W.Frag) : V → Option Int → Option Int → Hp → VK → Prop := fun x lo hi H Q => rSlL K x lo hi H Q ∨ (rSlA K x lo hi H Q ∨ rSlS x lo hi H Q)
section
variable {G : Gam} {X : Cx}
theorem sl_any (hK : X.K = G.K) : SlR X (rSlV G.K) := by
  rw [← hK]
  exact sl_list.or (sl_tupA.or sl_str)
theorem Reps.inv0 {W : Addr → Prop} {H : Hp} {ys : List V} {v : Val} {vs : List Val} (r : Reps G W H ys (v :: vs) []) : ∃ x xs, ys = x :: xs ∧ Rep G W H x v [] ∧ Reps G W H xs vs [] := by
  generalize hO : ([] : List Addr) = O at r
  cases r with
  | @cons x _ xs' _ O1 O2 r t =>
    have := hO.symm
    simp at this
    obtain ⟨e1, e2⟩ := this
    subst e1 e2
    exact ⟨x, xs', rfl, r, t⟩
theorem Reps.drop {W : Addr → Prop} {H : Hp} : ∀ (n : Nat) {xs : List V} {vs : List Val}, Reps G W H xs vs [] → Reps G W H (xs.drop n) (vs.drop n) []
  | 0, _, _, r => r
  | n + 1, _, [], r => by cases r; exact .nil
  | n + 1, _, v :: vs, r => by
    obtain ⟨x, xs, rfl, _, t⟩ := r.inv0
    exact Reps.drop n t
theorem Reps.take {W : Addr → Prop} {H : Hp} : ∀ (n : Nat) {xs : List V} {vs : List Val}, Reps G W H xs vs [] → Reps G W H (xs.take n) (vs.take n) []
  | 0, _, _, r => .nil
  | n + 1, _, [], r => by cases r; exact .nil
  | n + 1, _, v :: vs, r => by
    obtain ⟨x, xs, rfl, q, t⟩ := r.inv0
    exact .cons (O := []) (O' := []) q (Reps.take n t)
theorem Reps.cut {W : Addr → Prop} {H : Hp} {xs : List V} {vs : List Val} (r : Reps G W H xs vs []) (lo hi : Option Int) : Reps G W H (cutV xs lo hi) (cutL vs lo hi) [] := by
  unfold cutV cutL
  rw [r.length]
  exact Reps.take _ (Reps.drop _ r)
theorem cut_whole {α : Type} {xs : List α} {lo hi : Option Int} (h : HT.sIx xs.length 0 lo = 0 ∧ HT.sIx xs.length xs.length hi = xs.length) : cutL xs lo hi = xs := by
  unfold cutL
  rw [h.1, h.2]
  simp
theorem ok_sl {W : Addr → Prop} {H : Hp} {x : V} {v u : Val} {O : List Addr} {lo hi : Option Int} {Q : VK} (w : ∀ p, W p → ∃ o, H p = some o) (r : Rep G W H x v O) (hs : semSl lo hi v = some u) (m : Made G W H u Q) : rSlV G.K x lo hi H Q := by
  unfold semSl at hs
  split at hs
  · split at hs
    · rename_i hf
      cases hs
      obtain ⟨a, ys, O1, rfl, e1, q1⟩ := rep_lstL r
      exact .inl ⟨a, ys, rfl, .inl (.inl e1), m.lst ((q1.fz hf).cut lo hi)⟩
    · cases hs
  · split at hs
    · rename_i hf
      cases hs
      obtain ⟨a, ys, rfl, e1, q1⟩ := rep_tupT r
      refine .inr (.inl ⟨a, ys, rfl, e1, fun z => ?_, fun z => m.tup ((q1.fz hf).cut lo hi) (fresh_nw w)⟩)
      rw [q1.length] at z
      rw [cut_whole z] at m
      exact m.same (r.fz' (by simpa [Val.fz] using hf))
    · cases hs
  · split at hs
    · rename_i hz
      cases hs
      cases r
      exact .inr (.inr ⟨_, rfl, sz_le hz, m.same (.str _)⟩)
    · cases hs
  · cases hs
def semSlL : List Val → Option Val
  | [v, .int i] => semSl (some i) none v
  | _ => none
def semSlU : List Val → Option Val
  | [v, .int i] => semSl none (some i) v
  | _ => none
def semSlB : List Val → Option Val
  | [v, .int i, .int j] => semSl (some i) (some j) v
  | _ => none
theorem RepL.inv3 {W : Addr → Prop} {H : Hp} {xs : List V} {a b c : Val} {Ol : List (List Addr)} (r : RepL G W H xs [a, b, c] Ol) : ∃ x y z O O' O'', xs = [x, y, z] ∧ Rep G W H x a O ∧ Rep G W H y b O' ∧ Rep G W H z c O'' := by
  cases r with
  | cons r t =>
    cases t with
    | cons r' t =>
      cases t with
      | cons r'' t =>
        cases t
        exact ⟨_, _, _, _, _, _, rfl, r, r', r''⟩
theorem wf3 {p1 s1 p2 s2 p3 s3 : Bool} {m1 m2 m3 : ME} (h : ((s1 || (p2 && p3)) && (s2 || p3)) = true) : wfA [⟨p1, s1, m1⟩, ⟨p2, s2, m2⟩, ⟨p3, s3, m3⟩] = true := by
  cases s1 <;> cases p2 <;> cases s2 <;> cases p3 <;> cases s3 <;> first | rfl | cases h
variable {E : WX} {e a b : Expr} {pos p2' : Pos} {p s p1 s1 p2 s2 : Bool} {m m1 m2 : ME}
theorem ve_slL (hK : X.K = G.K) (h : VE G X E p s e m) (h1 : VE G X E p1 s1 a m1) (wf : (s || p1) = true := by rfl) : VE G X E (p && p1) true (.Subscript e (.Slice (some a) none none p2') pos) (mFun semSlL [m, m1]) := by
  have := ve_fun (G := G) (E := E) (os := [⟨p, s, m⟩, ⟨p1, s1, m1⟩]) (pe_slice (pos := pos) (p2 := p2') (sl_any hK) h (po_some h1) po_none) (r := fun xs H Q => match xs with
    | [x, y] => ∃ i, y = .int i ∧ rSlV G.K x (some i) none H Q
    | _ => False) (fun σ H Q z => z) (sem := semSlL) (fun W H xs vs Ol v Q w r hs mk => by
      unfold semSlL at hs
      split at hs
      · obtain ⟨x, y, O, O', rfl, r1, r2⟩ := r.inv2
        cases r2
        exact ⟨_, rfl, ok_sl w r1 hs mk⟩
      · cases hs) (wf2 wf)
  simpa using this
theorem ve_slU (hK : X.K = G.K) (h : VE G X E p s e m) (h1 : VE G X E p1 s1 a m1) (wf : (s || p1) = true := by rfl) : VE G X E (p && p1) true (.Subscript e (.Slice none (some a) none p2') pos) (mFun semSlU [m, m1]) := by
  have := ve_fun (G := G) (E := E) (os := [⟨p, s, m⟩, ⟨p1, s1, m1⟩]) (pe_slice (pos := pos) (p2 := p2') (sl_any hK) h po_none (po_some h1)) (r := fun xs H Q => match xs with
    | [x, y] => ∃ i, y = .int i ∧ rSlV G.K x none (some i) H Q
    | _ => False) (fun σ H Q z => z) (sem := semSlU) (fun W H xs vs Ol v Q w r hs mk => by
      unfold semSlU at hs
      split at hs
      · obtain ⟨x, y, O, O', rfl, r1, r2⟩ := r.inv2
        cases r2
        exact ⟨_, rfl, ok_sl w r1 hs mk⟩
      · cases hs) (wf2 wf)
  simpa using this
def mInt (m : ME) : ME := fun ρ => match m ρ with
  | .ok (.int i) ρ' => .ok (.int i) ρ'
  | .ok _ _ => .bad
  | .exc e ρ' => .exc e ρ'
  | .bad => .bad
theorem rd_int {p s : Bool} {m : ME} {σ : L2.St} {H : Hp} {P : V → Hp → Prop} (h : rd G E p s (mInt m) σ H P) : rd G E p s m σ H fun y H2 => ∃ i, y = .int i ∧ P (.int i) H2 := by
  obtain ⟨R, ρ, Os, rel, post⟩ := h
  refine ⟨R, ρ, Os, rel, ?_⟩
  unfold mInt at post
  cases hm : m ρ with
  | bad => rw [hm] at post; exact post
  | exc e ρ' => rw [hm] at post; exact post
  | ok v ρ' =>
    rw [hm] at post
    cases v with
    | int i =>
      intro x H' Os' O rel' rep nd keep pure
      have e : x = .int i := by cases rep; rfl
      subst e
      exact ⟨i, rfl, post _ H' Os' O rel' rep nd keep pure⟩
    | _ => exact post.elim
theorem rd_mono {p s : Bool} {m : ME} {σ : L2.St} {H : Hp} {P P' : V → Hp → Prop} (h : rd G E p s m σ H P) (k : ∀ x H', P x H' → P' x H') : rd G E p s m σ H P' := by
  obtain ⟨R, ρ, Os, rel, post⟩ := h
  refine ⟨R, ρ, Os, rel, ?_⟩
  cases hm : m ρ with
  | bad => rw [hm] at post; exact post
  | exc e ρ' => rw [hm] at post; exact post
  | ok v ρ' =>
    rw [hm] at post
    exact fun x H' Os' O rel' rep nd keep pure => k _ _ (post _ H' Os' O rel' rep nd keep pure)
theorem ve_slB (hK : X.K = G.K) (h : VE G X E p s e m) (h1 : VE G X E p1 s1 a m1) (h2 : VE G X E p2 s2 b m2) (wf : ((s || (p1 && p2)) && (s1 || p2)) = true := by rfl) : VE G X E (p && (p1 && p2)) true (.Subscript e (.Slice (some a) (some b) none p2') pos) (mFun semSlB [m, mInt m1, m2]) := by
  have := ve_fun (G := G) (E := E) (os := [⟨p, s, m⟩, ⟨p1, s1, mInt m1⟩, ⟨p2, s2, m2⟩]) (pe_slice (pos := pos) (p2 := p2') (sl_any hK) h (po_some h1) (po_some h2)) (r := fun xs H Q => match xs with
    | [x, .int i, z] => ∃ j, z = .int j ∧ rSlV G.K x (some i) (some j) H Q
    | _ => False) (fun σ H Q z => ?_) (sem := semSlB) (fun W H xs vs Ol v Q w r hs mk => by
      unfold semSlB at hs
      split at hs
      · obtain ⟨x, y, z, O, O', O'', rfl, r1, r2, r3⟩ := r.inv3
        cases r2; cases r3
        exact ⟨_, rfl, ok_sl w r1 hs mk⟩
      · cases hs) (wf3 wf)
  · simpa using this
  · exact rd_mono z fun x H1 z1 => rd_int z1
end
end VL
/-! VL, part H: len, int, str, repr, max, min, isinstance, list, tuple; f-strings. -/
namespace VL
open PySem L2

theorem CallR.or {X : Cx} {f : Value} {r r' : List V → Hp → VK → Prop} (h : CallR X f r) (h' : CallR X f r') : CallR X f (fun xs H Q => r xs H Q ∨ r' xs H Q) := by
  intro pins s σ H xs us Q I rv q
  rcases q with q | q
  · exact h pins s σ H xs us Q I rv q
  · exact h' pins s σ H xs us Q I rv q

def semLen : List Val → Option Val
  | [.str z] => if z.length ≤ 16777216 then some (.int z.length) else none
  | [.lst _ xs] => some (.int xs.length)
  | [.tup xs] => some (.int xs.length)
  | [.wtp xs] => some (.int xs.length)
  | [.scr ns] => some (.int ns.length)
  | [.dct _ .k ks _] => some (.int ks.length)
  | _ => none
def semInt : List Val → Option Val
  | [.int i] => some (.int i)
  | [.bl b] => some (.int (if b then 1 else 0))
  | _ => none
def semStr : List Val → Option Val
  | [.int i] => if i.natAbs.log2 < 1920 then some (.str (toString i)) else none
  | _ => none
def semMax2 : List Val → Option Val
  | [.int i, .int j] => some (.int (if j > i then j else i))
  | _ => none
def semMin2 : List Val → Option Val
  | [.int i, .int j] => some (.int (if j < i then j else i))
  | _ => none
def semRepr : List Val → Option Val
  | [v] => match toD v with
    | some d => if d.showable = true ∧ d.depth ≤ 64 ∧ d.shown.length ≤ 16777216 then some (.str d.shown) else none
    | none => none
  | _ => none
def semList : List Val → Option Val
  | [.lst _ xs] => if fzs xs = true then some (.lst true xs) else none
  | [.tup xs] => if fzs xs = true then some (.lst true xs) else none
  | [.wtp xs] => some (.lst true xs)
  | _ => none
def semTuple : List Val → Option Val
  | [.lst _ xs] => if fzs xs = true then some (.tup xs) else none
  | [.tup xs] => if fzs xs = true then some (.tup xs) else none
  | _ => none

section
variable {G : Gam} {X : Cx}
theorem rep_scr {W : Addr → Prop} {H : Hp} {x : V} {ns : List Int} {O : List Addr} (r : Rep G W H x (.scr ns) O) : ∃ a, x = .ref a ∧ SqL G.K H a (ns.map V.int) := by
  cases r with
  | scr h => exact ⟨_, rfl, h.elim (fun ⟨o, e, _⟩ => Or.inl (Or.inr ⟨o, e⟩)) (fun z => z.elim (fun q => by rcases q with q | ⟨o, q⟩ <;> cases q) .inr)⟩
theorem rep_wtp {W : Addr → Prop} {H : Hp} {x : V} {vs : List Val} {O : List Addr} (r : Rep G W H x (.wtp vs) O) : ∃ a xs, x = .ref a ∧ SqT G.K H a xs ∧ Reps G W H xs vs [] := by
  cases r with
  | wtp h r => exact ⟨_, _, rfl, h.elim (fun q => by rcases q with q | ⟨o, q⟩ <;> cases q) .inr, r⟩
def rLenV (K : PySem.W.Frag) : List V → Hp → VK → Prop := fun xs H Q => (∃ x n, xs = [x] ∧ LenV K x H n ∧ Q (.int n) H) ∨ (∃ (d : Addr) (kvs : List (Key × V)), xs = [.ref d] ∧ H d = some (.dK kvs) ∧ Q (.int kvs.length) H)
theorem call_lenV (hK : X.K = G.K) : CallR X (.builtin "len") (rLenV G.K) := by
  rw [← hK]
  refine CallR.or call_len ?_
  intro pins s σ H xs us Q I r h
  obtain ⟨d, kvs, e, hd, q⟩ := h
  exact call_lenD pins s σ H xs us Q I r ⟨d, kvs, e, hd, q⟩
theorem ok_len : OkF G (rLenV G.K) semLen := by
  intro W H xs vs Ol v Q w r hs m
  unfold semLen at hs
  split at hs
  · obtain ⟨x, O, rfl, r1⟩ := r.inv1
    split at hs
    · rename_i hz
      cases hs; cases r1
      exact .inl ⟨_, _, rfl, ⟨sz_le hz, rfl⟩, m.same (.int _)⟩
    · cases hs
  · obtain ⟨x, O, rfl, r1⟩ := r.inv1
    cases hs
    obtain ⟨a, ys, O1, rfl, e1, q1⟩ := rep_lstL r1
    exact .inl ⟨_, _, rfl, .inl ⟨ys, .inl (.inl e1), q1.length.symm⟩, m.same (.int _)⟩
  · obtain ⟨x, O, rfl, r1⟩ := r.inv1
    cases hs
    obtain ⟨a, ys, rfl, e1, q1⟩ := rep_tupT r1
    exact .inl ⟨_, _, rfl, .inr ⟨ys, e1, q1.length.symm⟩, m.same (.int _)⟩
  · obtain ⟨x, O, rfl, r1⟩ := r.inv1
    cases hs
    obtain ⟨a, ys, rfl, e1, q1⟩ := rep_wtp r1
    exact .inl ⟨_, _, rfl, .inr ⟨ys, e1, q1.length.symm⟩, m.same (.int _)⟩
  · obtain ⟨x, O, rfl, r1⟩ := r.inv1
    cases hs
    obtain ⟨a, rfl, e1⟩ := rep_scr r1
    exact .inl ⟨_, _, rfl, .inl ⟨_, e1, by simp⟩, m.same (.int _)⟩
  · obtain ⟨x, O, rfl, r1⟩ := r.inv1
    cases hs
    cases r1 with
    | dkO h hk q => exact .inr ⟨_, _, rfl, h, m.same (by rw [hk, List.length_map]; exact .int _)⟩
    | dkF h hk q => exact .inr ⟨_, _, rfl, h.1, m.same (by rw [hk, List.length_map]; exact .int _)⟩
  · cases hs
theorem ok_int : OkF G (fun xs H Q => (∃ i, xs = [.int i] ∧ Q (.int i) H) ∨ ∃ k, xs = [.bl k] ∧ Q (.int (if k then 1 else 0)) H) semInt := by
  intro W H xs vs Ol v Q w r hs m
  unfold semInt at hs
  split at hs
  · obtain ⟨x, O, rfl, r1⟩ := r.inv1
    cases hs; cases r1
    exact .inl ⟨_, rfl, m.same (.int _)⟩
  · obtain ⟨x, O, rfl, r1⟩ := r.inv1
    cases hs; cases r1
    exact .inr ⟨_, rfl, m.same (.int _)⟩
  · cases hs
theorem ok_str : OkF G (fun xs H Q => ∃ i : Int, xs = [.int i] ∧ i.natAbs.log2 < 1920 ∧ Q (.str (toString i)) H) semStr := by
  intro W H xs vs Ol v Q w r hs m
  unfold semStr at hs
  split at hs
  · obtain ⟨x, O, rfl, r1⟩ := r.inv1
    cases r1
    split at hs
    · rename_i h
      cases hs
      exact ⟨_, rfl, h, m.same (.str _)⟩
    · cases hs
  · cases hs
theorem ok_max2 : OkF G (fun xs H Q => ∃ i j : Int, xs = [.int i, .int j] ∧ Q (.int (if j > i then j else i)) H) semMax2 := by
  intro W H xs vs Ol v Q w r hs m
  unfold semMax2 at hs
  split at hs
  · obtain ⟨x, y, O, O', rfl, r1, r2⟩ := r.inv2
    cases r1; cases r2; cases hs
    exact ⟨_, _, rfl, m.same (.int _)⟩
  · cases hs
theorem ok_min2 : OkF G (fun xs H Q => ∃ i j : Int, xs = [.int i, .int j] ∧ Q (.int (if j < i then j else i)) H) semMin2 := by
  intro W H xs vs Ol v Q w r hs m
  unfold semMin2 at hs
  split at hs
  · obtain ⟨x, y, O, O', rfl, r1, r2⟩ := r.inv2
    cases r1; cases r2; cases hs
    exact ⟨_, _, rfl, m.same (.int _)⟩
  · cases hs
/-- repr of plain data -/
def rReprD (K : PySem.W.Frag) : List V → Hp → VK → Prop := fun xs H Q => ∃ x d, xs = [x] ∧ Dp K H x d ∧ d.showable = true ∧ d.depth ≤ 64 ∧ d.shown.length ≤ sizeLine ∧ Q (.str d.shown) H
theorem Reads.noDict {h : Heap} {v : Value} {d : PyData} : True := trivial
mutual
theorem dp_hasDict {K : PySem.W.Frag} {H : Hp} {x : V} {d : PyData} (h : Dp K H x d) : d.hasDict = false := by
  cases h with
  | non => rfl
  | bl b => rfl
  | int i => rfl
  | str x => rfl
  | lst hs r => simp only [PyData.hasDict]; exact dp_hasDictAll r
  | tup hs r => simp only [PyData.hasDict]; exact dp_hasDictAll r
theorem dp_hasDictAll {K : PySem.W.Frag} {H : Hp} {xs : List V} {ds : List PyData} (h : DpAll K H xs ds) : PyData.hasDictAll ds = false := by
  cases h with
  | nil => simp [PyData.hasDictAll]
  | cons h t => simp only [PyData.hasDictAll]; rw [dp_hasDict h, dp_hasDictAll t]; rfl
end
theorem call_reprD (hK : X.K = G.K) (hg : X.A.guards = some []) (hu : X.A.units + 70 < cLine) : CallR X (.builtin "repr") (rReprD G.K) := by
  rw [← hK]
  intro pins s σ H xs us Q I r h
  obtain ⟨x, d, rfl, dp, hs, hd, hz, q⟩ := h
  obtain ⟨u, rfl, rx⟩ := vals1 r
  have fin : ∀ (h' : Heap) (u : Tok) (tk : Nat), (∀ b o, s.heap.get? b = some o → h'.get? b = some o) → EP X pins σ Q (.str d.shown u) { s with heap := h', toks := tk } := fun h' u tk k => ⟨.str d.shown, H, I.kept k, ⟨_, rfl⟩, q⟩
  cases dp with
  | non => cases rx; exact PySem.P.repr_of_none (fin s.heap _ _ fun _ _ e => e)
  | bl b => cases rx; exact PySem.P.repr_of_bool (fin s.heap _ _ fun _ _ e => e)
  | int i =>
    obtain ⟨t, rfl⟩ := rx
    exact PySem.P.repr_of_int (by simpa [PyData.showable] using hs) (fin s.heap _ _ fun _ _ e => e)
  | str y =>
    obtain ⟨t, rfl⟩ := rx
    exact PySem.P.repr_of_str (fin s.heap _ _ fun _ _ e => e) (by simpa [PyData.shown] using hz)
  | @lst a ys ds hs' r' =>
    cases (show u = Value.ref a from rx)
    obtain ⟨as, rd⟩ := Dp.reads I (.list ds) (.ref a) (.ref a) (.lst hs' r') rfl
    have hn := dp_hasDict (K := X.K) (H := H) (x := .ref a) (.lst hs' r')
    exact PySem.repr_of_reads' rd hs (fun z => by rw [hn] at z; cases z) hg (by omega) (fun _ _ e => e) fin hz
  | @tup a ys ds hs' r' =>
    cases (show u = Value.ref a from rx)
    obtain ⟨as, rd⟩ := Dp.reads I (.tuple ds) (.ref a) (.ref a) (.tup hs' r') rfl
    have hn := dp_hasDict (K := X.K) (H := H) (x := .ref a) (.tup hs' r')
    exact PySem.repr_of_reads' rd hs (fun z => by rw [hn] at z; cases z) hg (by omega) (fun _ _ e => e) fin hz
theorem ok_repr : OkF G (rReprD G.K) semRepr := by
  intro W H xs vs Ol v Q w r hs m
  unfold semRepr at hs
  split at hs
  · obtain ⟨x, O, rfl, r1⟩ := r.inv1
    split at hs
    · rename_i d hd
      split at hs
      · rename_i h
        cases hs
        exact ⟨x, d, rfl, r1.dp hd, h.1, h.2.1, sz_le h.2.2, m.same (.str _)⟩
      · cases hs
    · cases hs
  · cases hs
theorem ok_list (hK : X.K = G.K) : OkF G (fun xs H Q => ∃ p ys, xs = [.ref p] ∧ (SqL X.K H p ys ∨ SqT X.K H p ys) ∧ ∀ l, H l = none → Q (.ref l) (upd H l (.lst ys))) semList := by
  rw [hK]
  intro W H xs vs Ol v Q w r hs m
  unfold semList at hs
  split at hs
  · obtain ⟨x, O, rfl, r1⟩ := r.inv1
    split at hs
    · rename_i hf
      cases hs
      obtain ⟨a, ys, O1, rfl, e1, q1⟩ := rep_lstL r1
      exact ⟨a, ys, rfl, .inl (.inl (.inl e1)), m.lst (q1.fz hf)⟩
    · cases hs
  · obtain ⟨x, O, rfl, r1⟩ := r.inv1
    split at hs
    · rename_i hf
      cases hs
      obtain ⟨a, ys, rfl, e1, q1⟩ := rep_tupT r1
      exact ⟨a, ys, rfl, .inr e1, m.lst (q1.fz hf)⟩
    · cases hs
  · obtain ⟨x, O, rfl, r1⟩ := r.inv1
    cases hs
    obtain ⟨a, ys, rfl, e1, q1⟩ := rep_wtp r1
    exact ⟨a, ys, rfl, .inr e1, m.lst q1⟩
  · cases hs
theorem ok_tuple (hK : X.K = G.K) : OkF G (fun xs H Q => ∃ p ys, xs = [.ref p] ∧ ((SqL X.K H p ys ∧ ∀ l, H l = none → Q (.ref l) (upd H l (.tup ys))) ∨ (SqT X.K H p ys ∧ Q (.ref p) H))) semTuple := by
  rw [hK]
  intro W H xs vs Ol v Q w r hs m
  unfold semTuple at hs
  split at hs
  · obtain ⟨x, O, rfl, r1⟩ := r.inv1
    split at hs
    · rename_i hf
      cases hs
      obtain ⟨a, ys, O1, rfl, e1, q1⟩ := rep_lstL r1
      exact ⟨a, ys, rfl, .inl ⟨.inl (.inl e1), m.tup (q1.fz hf) (fresh_nw w)⟩⟩
    · cases hs
  · obtain ⟨x, O, rfl, r1⟩ := r.inv1
    split at hs
    · rename_i hf
      cases hs
      obtain ⟨a, ys, rfl, e1, q1⟩ := rep_tupT r1
      exact ⟨a, ys, rfl, .inr ⟨e1, m.same (r1.fz' (by simpa [Val.fz] using hf))⟩⟩
    · cases hs
  · cases hs
end

/-! ### isinstance -/
/-- of what built-in type -/
def tyName : Val → Option String
  | .non => some "NoneType" | .bl _ => some "bool" | .int _ => some "int" | .str _ => some "str"
  | .tup _ => some "tuple" | .wtp _ => some "tuple" | .lst _ _ => some "list" | .scr _ => some "list" | .dct _ _ _ _ => some "dict"
  | _ => none
/-- what the text's classes are, as isinstance asks -/
structure IsiFacts (G : Gam) (sub : Nat → Nat → Bool) : Prop where
  own : ∀ n C m D, G.cn n = some C → G.cn m = some D → PySem.W.kitOne G.K (.ref C) (.ref D) = some (sub n m)
  toOwn : ∀ t m D, t ∈ ["NoneType", "bool", "int", "str", "tuple", "list", "dict"] → G.cn m = some D → PySem.W.kitOne G.K (.type t) (.ref D) = some false
  ofOwn : ∀ n C t, t ∈ ["NoneType", "bool", "int", "str", "tuple", "list", "dict"] → G.cn n = some C → PySem.W.kitOne G.K (.ref C) (.type t) = some false
  cls : ∀ n C, G.cn n = some C → Cls G.K C ∧ PySem.W.findIn G.K (.ref C) "__class__" = some (some (.builtin "object.__class__")) ∧ PySem.W.specialIn G.K (.builtin "object.__class__") "__get__" = some (some (.builtin "getset_descriptor.__get__")) ∧
    PySem.W.takesIn G.K (.builtin "object.__class__") = some true ∧ PySem.W.mroIn G.K C (.type "object") = some true
def isiB (t u : String) : Option Bool := if t ∈ ["NoneType", "bool", "int", "str", "tuple", "list", "dict"] ∧ u ∈ ["bool", "int", "str", "tuple", "list", "dict"] then some (t == u || (t == "bool" && u == "int")) else none
def semIsi (sub : Nat → Nat → Bool) : List Val → Option Val
  | [.obj _ n _ _, .cn m] => some (.bl (sub n m))
  | [.obj _ n _ _, .ty u] => if u ∈ ["NoneType", "bool", "int", "str", "tuple", "list", "dict"] then some (.bl false) else none
  | [v, .cn _] => match tyName v with
    | some t => some (.bl false)
    | none => none
  | [v, .ty u] => match tyName v with
    | some t => (isiB t u).map Val.bl
    | none => none
  | _ => none

def tyAll : List String := ["NoneType", "bool", "int", "str", "tuple", "list", "dict"]
theorem tyName_mem {v : Val} {t : String} (h : tyName v = some t) : t ∈ ["NoneType", "bool", "int", "str", "tuple", "list", "dict"] := by
  cases v <;> simp [tyName] at h <;> subst h <;> decide
theorem isiB_ok {K : PySem.W.Frag} {t u : String} {b : Bool} (h : isiB t u = some b) : PySem.W.kitOne K (.type t) (.type u) = some b := by
  unfold isiB at h
  split at h
  · rename_i hm
    cases h
    refine kit_ty ?_
    have all : ∀ t ∈ ["NoneType", "bool", "int", "str", "tuple", "list", "dict"], ∀ u ∈ ["bool", "int", "str", "tuple", "list", "dict"], kitB t u = some (t == u || (t == "bool" && u == "int")) := by decide +kernel
    exact all t hm.1 u hm.2
  · cases h
section
variable {G : Gam} {X : Cx}
theorem rep_tyX {W : Addr → Prop} {H : Hp} {x : V} {v : Val} {O : List Addr} {t : String} (r : Rep G W H x v O) (h : tyName v = some t) : TyX G.K H x (.type t) := by
  cases r with
  | non => simp [tyName] at h; subst h; exact .base .non
  | bl b => simp [tyName] at h; subst h; exact .base (.bl b)
  | int i => simp [tyName] at h; subst h; exact .base (.int i)
  | str s => simp [tyName] at h; subst h; exact .base (.str s)
  | tup h' r => simp [tyName] at h; subst h; exact .base (.tup h'.1)
  | wtp h' r =>
    simp [tyName] at h; subst h
    rcases h' with q | ⟨o, its, n, e, c, _⟩
    · rcases q with q | ⟨o, q⟩ <;> cases q
    · exact .kTuple e c
  | lstO h' r => simp [tyName] at h; subst h; exact .base (.lst h')
  | lstF h' r => simp [tyName] at h; subst h; exact .base (.lst h'.1)
  | scr h' =>
    simp [tyName] at h; subst h
    rcases h' with ⟨o, e, _⟩ | q | ⟨o, its, n, e, c, _⟩
    · exact .base (.frz e)
    · rcases q with q | ⟨o, q⟩ <;> cases q
    · exact .kList e c
  | dkO h' hk r => simp [tyName] at h; subst h; exact .base (.dK h')
  | dkF h' hk r => simp [tyName] at h; subst h; exact .base (.dK h'.1)
  | dtO h' hk r => simp [tyName] at h; subst h; exact .base (.dT h')
  | dtF h' hk r => simp [tyName] at h; subst h; exact .base (.dT h'.1)
  | _ => simp [tyName] at h
theorem rep_obj {W : Addr → Prop} {H : Hp} {x : V} {o : Bool} {n : Nat} {ns : List Str} {vs : List Val} {O : List Addr} (r : Rep G W H x (.obj o n ns vs) O) : ∃ a C dx fs, x = .ref a ∧ H a = some (.ins C dx fs) ∧ G.cn n = some C ∧ ns = fs.map (·.1) := by
  cases r with
  | objO h hc hn r => exact ⟨_, _, _, _, rfl, h, hc, hn⟩
  | objF h hc hn r => exact ⟨_, _, _, _, rfl, h.1, hc, hn⟩
theorem ok_isi {sub : Nat → Nat → Bool} (F : IsiFacts G sub) : OkF G (rIsi G.K) (semIsi sub) := by
  intro W H xs vs Ol v Q w r hs m
  unfold semIsi at hs
  split at hs
  · obtain ⟨x, y, O, O', rfl, r1, r2⟩ := r.inv2
    cases r2 with
    | cn hc =>
      cases hs
      obtain ⟨a, C, dx, fs, rfl, e, hC, _⟩ := rep_obj r1
      obtain ⟨c1, c2, c3, c4, c5⟩ := F.cls _ C hC
      exact ⟨_, _, _, _, _, rfl, .own _, .base (.ins e c1 c2 c3 c4 c5), F.own _ C _ _ hC hc, m.same (.bl _)⟩
  · obtain ⟨x, y, O, O', rfl, r1, r2⟩ := r.inv2
    split at hs
    · rename_i hu
      cases hs
      cases r2
      obtain ⟨a, C, dx, fs, rfl, e, hC, _⟩ := rep_obj r1
      obtain ⟨c1, c2, c3, c4, c5⟩ := F.cls _ C hC
      exact ⟨_, _, _, _, _, rfl, .ty _, .base (.ins e c1 c2 c3 c4 c5), F.ofOwn _ C _ hu hC, m.same (.bl _)⟩
    · cases hs
  · obtain ⟨x, y, O, O', rfl, r1, r2⟩ := r.inv2
    split at hs
    · rename_i t ht
      cases hs
      cases r2 with
      | cn hc => exact ⟨_, _, _, _, _, rfl, .own _, rep_tyX r1 ht, F.toOwn t _ _ (tyName_mem ht) hc, m.same (.bl _)⟩
    · cases hs
  · obtain ⟨x, y, O, O', rfl, r1, r2⟩ := r.inv2
    split at hs
    · rename_i t ht
      cases r2
      cases hb : isiB t _ with
      | none => rw [hb] at hs; cases hs
      | some b =>
        rw [hb] at hs
        cases hs
        exact ⟨_, _, _, _, _, rfl, .ty _, rep_tyX r1 ht, isiB_ok hb, m.same (.bl _)⟩
    · cases hs
  · cases hs
end

/-! ### f-strings -/
def semFmt : Val → Option Str
  | .str y => if y.length ≤ 16777216 then some y else none
  | .int i => if i.natAbs.log2 < 1920 then some (toString i) else none
  | _ => none
def fmtAll : Str → List Val → Option Str
  | acc, [] => some acc
  | acc, v :: vs => match semFmt v with
    | some y => if (acc ++ y).length ≤ 16777216 then fmtAll (acc ++ y) vs else none
    | none => none
end VL
/-! VL, part I: calls of what the text defines: values, names whose tree the callee may change, defaults. -/
namespace VL
open PySem L2

/-- an argument: a value; a name; a default -/
inductive Arg where
  | v (o : Op) | r (i : Nat) | k (x : V) (u : Val)
def vals : List Arg → List Op
  | [] => []
  | .v o :: as => o :: vals as
  | .r _ :: as => vals as
  | .k _ _ :: as => vals as
def slotOk (ρ : VEnv) (i : Nat) : Bool := match ρ[i]? with
  | some (some _) => true
  | _ => false
def refsOk (ρ : VEnv) : List Arg → Bool
  | [] => true
  | .r i :: as => slotOk ρ i && refsOk ρ as
  | _ :: as => refsOk ρ as
def nestG (G : Gam) (E : WX) : List Arg → L2.St → Hp → (List V → Hp → Prop) → Prop
  | [], _, H, K => K [] H
  | .v o :: as, σ, H, K => rd G E o.p o.s o.m σ H fun x H1 => nestG G E as σ H1 fun xs H2 => K (x :: xs) H2
  | .r i :: as, σ, H, K => ∃ x, σ[i]? = some (some x) ∧ nestG G E as σ H fun xs H2 => K (x :: xs) H2
  | .k x _ :: as, σ, H, K => nestG G E as σ H fun xs H2 => K (x :: xs) H2
def at0 (σ : L2.St) (i : Nat) : V := match σ[i]? with
  | some (some x) => x
  | _ => .non
def merge (σ : L2.St) : List Arg → List V → List V
  | [], _ => []
  | .v _ :: as, x :: xs => x :: merge σ as xs
  | .v _ :: as, [] => .non :: merge σ as []
  | .r i :: as, xs => at0 σ i :: merge σ as xs
  | .k x _ :: as, xs => x :: merge σ as xs
def fill : List Arg → VEnv → List Val → Option (List Val × VEnv)
  | [], ρ, [] => some ([], ρ)
  | [], _, _ :: _ => none
  | .v _ :: as, ρ, v :: vs => match fill as ρ vs with
    | some (us, ρ') => some (v :: us, ρ')
    | none => none
  | .v _ :: _, _, [] => none
  | .r i :: as, ρ, vs => match ρ[i]? with
    | some (some v) => (match fill as (ρ.set i none) vs with
      | some (us, ρ') => some (v :: us, ρ')
      | none => none)
    | _ => none
  | .k _ u :: as, ρ, vs => match fill as ρ vs with
    | some (us, ρ') => some (u :: us, ρ')
    | none => none
/-- what the callee left in the names that it was given -/
def back : List Arg → VEnv → VEnv → VEnv
  | [], _, ρ => ρ
  | _ :: _, [], ρ => ρ
  | .r i :: as, some f :: fs, ρ => back as fs (ρ.set i (some f))
  | _ :: as, _ :: fs, ρ => back as fs ρ
abbrev MF := List Val → RE
def mCall (mf : MF) (as : List Arg) : ME := fun ρ => if refsOk ρ as = true then (match evalM ((vals as).map Op.m) ρ with
  | .ok vs ρ1 => (match fill as ρ1 vs with
    | some (us, ρ2) => (match mf us with
      | .ok v fs => .ok v (back as fs ρ2)
      | .exc e fs => .exc e (back as fs ρ2)
      | .bad => .bad)
    | none => .bad)
  | .exc e ρ1 => .exc e ρ1
  | .bad => .bad) else .bad
/-- a def's promise -/
def spV (G : Gam) (n : Nat) (mf : MF) : Sp := fun xs H Q E => xs.length = n ∧ ∃ R vs Oa, Rel G R H (xs.map some) (vs.map some) Oa ∧ Post G R (fun c d _ H => E c d H) (xs.map some) H Oa false true (vs.map some) Q (mf vs)
def noRefs : List Arg → Bool
  | [] => true
  | .r _ :: _ => false
  | _ :: as => noRefs as
def argsP : List Arg → Bool
  | [] => true
  | .v o :: as => o.p && argsP as
  | .r _ :: _ => false
  | .k _ _ :: as => argsP as
/-- the defaults are what they are, in every heap -/
def Dfl (G : Gam) : List Arg → Prop
  | [] => True
  | .k x u :: as => (∀ W H, Rep G W H x u []) ∧ Dfl G as
  | _ :: as => Dfl G as

section
variable {G : Gam} {E : WX} {σ : L2.St}
theorem nestG_of {as : List Arg} : ∀ {ρ : VEnv} {H : Hp} {K : List V → Hp → Prop}, (∀ (i : Nat) (v : Val), ρ[i]? = some (some v) → ∃ x, σ[i]? = some (some x)) → refsOk ρ as = true → nest G E (vals as) σ H (fun xs H' => K (merge σ as xs) H') → nestG G E as σ H K := by
  induction as with
  | nil => intro ρ H K hs ok h; exact h
  | cons a as ih =>
    intro ρ H K hs ok h
    cases a with
    | v o => exact rd_mono h fun x H1 h1 => ih hs ok h1
    | k x u => exact ih hs ok h
    | r i =>
      simp only [refsOk, Bool.and_eq_true] at ok
      obtain ⟨o1, o2⟩ := ok
      unfold slotOk at o1
      split at o1
      · rename_i v hv
        obtain ⟨x, hx⟩ := hs i v hv
        refine ⟨x, hx, ih hs o2 ?_⟩
        have e : at0 σ i = x := by unfold at0; rw [hx]
        have h' : nest G E (vals as) σ H (fun xs H' => K (merge σ (.r i :: as) xs) H') := h
        simpa only [merge, e] using h'
      · cases o1
theorem nestG_app {as : List Arg} {ks : List (V × Val)} : ∀ {H : Hp} {K : List V → Hp → Prop}, nestG G E (as ++ ks.map fun p => Arg.k p.1 p.2) σ H K → nestG G E as σ H (fun xs H' => K (xs ++ ks.map (·.1)) H') := by
  induction as with
  | nil =>
    intro H K h
    simp only [List.nil_append] at h
    unfold nestG
    induction ks generalizing K with
    | nil => exact h
    | cons k ks ih => simpa using ih h
  | cons a as ih =>
    intro H K h
    cases a with
    | v o => exact rd_mono h fun x H1 h1 => by simpa using ih h1
    | r i => obtain ⟨x, hx, h⟩ := h; exact ⟨x, hx, by simpa using ih h⟩
    | k x u =>
      unfold nestG
      have := ih (K := fun xs H' => K (x :: xs) H') h
      simpa using this

/-! ### what a call is handed -/
structure Held (G : Gam) (R : Addr → Prop) (H : Hp) (σ : L2.St) (ρ : VEnv) (Os : Nat → List Addr) (xs : List V) (vs : List Val) (Ol : List (List Addr)) : Prop where
  rel : Rel G (fun a => R a ∨ a ∈ Ol.flatten) H σ ρ Os
  rep : RepL G (WW (fun a => R a ∨ a ∈ Ol.flatten) Os) H xs vs Ol
  nd : Ol.flatten.Nodup
  nr : ∀ a ∈ Ol.flatten, ¬ R a
theorem setEq {p q : Addr → Prop} (h : ∀ a, p a ↔ q a) : p = q := funext fun a => propext (h a)
theorem Held.fill {as : List Arg} (df : Dfl G as) : ∀ {R : Addr → Prop} {H : Hp} {ρ ρ' : VEnv} {Os : Nat → List Addr} {xs : List V} {vs us : List Val} {Ol : List (List Addr)}, Held G R H σ ρ Os xs vs Ol → VL.fill as ρ vs = some (us, ρ') →
    ∃ Os' Ul, Held G R H σ ρ' Os' (merge σ as xs) us Ul ∧ (∀ a, (We Os' a ∨ a ∈ Ul.flatten) ↔ (We Os a ∨ a ∈ Ol.flatten)) ∧ (noRefs as = true → ρ' = ρ ∧ Os' = Os) := by
  induction as with
  | nil =>
    intro R H ρ ρ' Os xs vs us Ol h e
    cases vs with
    | cons v vs => simp [VL.fill] at e
    | nil =>
      simp only [VL.fill, Option.some.injEq, Prod.mk.injEq] at e
      obtain ⟨rfl, rfl⟩ := e
      obtain ⟨h1, h2, h3, h4⟩ := h
      cases h2
      exact ⟨Os, [], ⟨h1, .nil, h3, h4⟩, fun a => Iff.rfl, fun _ => ⟨rfl, rfl⟩⟩
  | cons a as ih =>
    intro R H ρ ρ' Os xs vs us Ol h e
    cases a with
    | v o =>
      cases vs with
      | nil => simp [VL.fill] at e
      | cons v vs =>
        simp only [VL.fill] at e
        cases hf : VL.fill as ρ vs with
        | none => rw [hf] at e; cases e
        | some p =>
          obtain ⟨us', ρ2⟩ := p
          rw [hf] at e
          simp only [Option.some.injEq, Prod.mk.injEq] at e
          obtain ⟨rfl, rfl⟩ := e
          obtain ⟨h1, h2, h3, h4⟩ := h
          cases h2 with
          | @cons x _ O xs' _ Ol' r t =>
            rw [List.flatten_cons] at h1 r t h3 h4
            have s1 : (fun a => R a ∨ a ∈ O ++ Ol'.flatten) = fun a => (R a ∨ a ∈ O) ∨ a ∈ Ol'.flatten := setEq fun a => by rw [List.mem_append]; exact or_assoc.symm
            obtain ⟨n1, n2, n3⟩ := List.nodup_append.mp h3
            rw [s1] at h1 r t
            have H' : Held G (fun a => R a ∨ a ∈ O) H σ ρ Os xs' vs Ol' := ⟨h1, t, n2, fun a ha z => z.elim (h4 a (List.mem_append_right _ ha)) fun z => n3 a z a ha rfl⟩
            obtain ⟨Os', Ul, g, eqv, nrf⟩ := ih df H' hf
            have s2 : (fun a => (R a ∨ a ∈ O) ∨ a ∈ Ul.flatten) = fun a => R a ∨ a ∈ (O :: Ul).flatten := setEq fun a => by rw [List.flatten_cons, List.mem_append]; exact or_assoc
            have s3 : WW (fun a => (R a ∨ a ∈ O) ∨ a ∈ Ol'.flatten) Os = WW (fun a => (R a ∨ a ∈ O) ∨ a ∈ Ul.flatten) Os' := setEq fun a => by
              unfold WW
              have := eqv a
              constructor
              · rintro ((z | z) | z)
                · exact .inl (.inl z)
                · exact (this.mpr (.inr z)).elim .inr fun z => .inl (.inr z)
                · exact (this.mpr (.inl z)).elim .inr fun z => .inl (.inr z)
              · rintro ((z | z) | z)
                · exact .inl (.inl z)
                · exact (this.mp (.inr z)).elim .inr fun z => .inl (.inr z)
                · exact (this.mp (.inl z)).elim .inr fun z => .inl (.inr z)
            rw [s3] at r
            obtain ⟨g1, g2, g3, g4⟩ := g
            rw [s2] at g1 g2 r
            refine ⟨Os', O :: Ul, ⟨g1, .cons r g2, ?_, fun a ha => ?_⟩, fun a => ?_, nrf⟩
            · rw [List.flatten_cons]
              exact List.nodup_append.mpr ⟨n1, g3, fun a ha b hb e => g4 b hb (.inr (e ▸ ha))⟩
            · rw [List.flatten_cons] at ha
              rcases List.mem_append.mp ha with z | z
              · exact h4 a (List.mem_append_left _ z)
              · exact fun q => g4 a z (.inl q)
            · rw [List.flatten_cons, List.flatten_cons, List.mem_append, List.mem_append]
              have := eqv a
              constructor
              · rintro (z | z | z)
                · exact (this.mp (.inl z)).imp id .inr
                · exact .inr (.inl z)
                · exact (this.mp (.inr z)).imp id .inr
              · rintro (z | z | z)
                · exact (this.mpr (.inl z)).imp id .inr
                · exact .inr (.inl z)
                · exact (this.mpr (.inr z)).imp id .inr
    | k x u =>
      simp only [VL.fill] at e
      cases hf : VL.fill as ρ vs with
      | none => rw [hf] at e; cases e
      | some p =>
        obtain ⟨us', ρ2⟩ := p
        rw [hf] at e
        simp only [Option.some.injEq, Prod.mk.injEq] at e
        obtain ⟨rfl, rfl⟩ := e
        obtain ⟨Os', Ul, g, eqv, nrf⟩ := ih df.2 h hf
        obtain ⟨g1, g2, g3, g4⟩ := g
        refine ⟨Os', [] :: Ul, ⟨by simpa using g1, by simpa [merge] using RepL.cons (df.1 _ _) g2, by simpa using g3, by simpa using g4⟩, by simpa using eqv, nrf⟩
    | r i =>
      simp only [VL.fill] at e
      cases hv : ρ[i]? with
      | none => rw [hv] at e; cases e
      | some q =>
        cases q with
        | none => rw [hv] at e; cases e
        | some v =>
          rw [hv] at e
          dsimp only at e
          cases hf : VL.fill as (ρ.set i none) vs with
          | none => rw [hf] at e; cases e
          | some p =>
            obtain ⟨us', ρ2⟩ := p
            rw [hf] at e
            simp only [Option.some.injEq, Prod.mk.injEq] at e
            obtain ⟨rfl, rfl⟩ := e
            obtain ⟨h1, h2, h3, h4⟩ := h
            obtain ⟨x, hx, rel', rep⟩ := h1.take hv
            have weq : ∀ a, (We (fun j => if j = i then [] else Os j) a ∨ a ∈ Os i) ↔ We Os a := fun a => by
              constructor
              · rintro (⟨j, z⟩ | z)
                · by_cases hj : j = i
                  · simp [hj] at z
                  · simp only [hj, if_false] at z; exact ⟨j, z⟩
                · exact ⟨i, z⟩
              · rintro ⟨j, z⟩
                by_cases hj : j = i
                · exact .inr (hj ▸ z)
                · exact .inl ⟨j, by simp only [hj, if_false]; exact z⟩
            have s1 : (fun a => (R a ∨ a ∈ Ol.flatten) ∨ a ∈ Os i) = fun a => (R a ∨ a ∈ Os i) ∨ a ∈ Ol.flatten := setEq fun a => by
              constructor
              · rintro ((z | z) | z)
                · exact .inl (.inl z)
                · exact .inr z
                · exact .inl (.inr z)
              · rintro ((z | z) | z)
                · exact .inl (.inl z)
                · exact .inr z
                · exact .inl (.inr z)
            have s0 : WW (fun a => R a ∨ a ∈ Ol.flatten) Os = WW (fun a => (R a ∨ a ∈ Os i) ∨ a ∈ Ol.flatten) (fun j => if j = i then [] else Os j) := setEq fun a => by
              unfold WW
              rw [← weq a]
              constructor
              · rintro ((z | z) | z | z)
                · exact .inl (.inl (.inl z))
                · exact .inl (.inr z)
                · exact .inr z
                · exact .inl (.inl (.inr z))
              · rintro (((z | z) | z) | z)
                · exact .inl (.inl z)
                · exact .inr (.inr z)
                · exact .inl (.inr z)
                · exact .inr (.inl z)
            rw [s1] at rel' rep
            rw [s0] at h2
            have H' : Held G (fun a => R a ∨ a ∈ Os i) H σ (ρ.set i none) (fun j => if j = i then [] else Os j) xs vs Ol := ⟨rel', h2, h3, fun a ha z => z.elim (h4 a ha) fun z => h1.dr i a z (.inr ha)⟩
            obtain ⟨Os', Ul, g, eqv, nrf⟩ := ih df H' hf
            obtain ⟨g1, g2, g3, g4⟩ := g
            have s2 : (fun a => (R a ∨ a ∈ Os i) ∨ a ∈ Ul.flatten) = fun a => R a ∨ a ∈ (Os i :: Ul).flatten := setEq fun a => by rw [List.flatten_cons, List.mem_append]; exact or_assoc
            have s3 : WW (fun a => (R a ∨ a ∈ Os i) ∨ a ∈ Ol.flatten) (fun j => if j = i then [] else Os j) = WW (fun a => (R a ∨ a ∈ Os i) ∨ a ∈ Ul.flatten) Os' := setEq fun a => by
              unfold WW
              have := eqv a
              constructor
              · rintro ((z | z) | z)
                · exact .inl (.inl z)
                · exact (this.mpr (.inr z)).elim .inr fun z => .inl (.inr z)
                · exact (this.mpr (.inl z)).elim .inr fun z => .inl (.inr z)
              · rintro ((z | z) | z)
                · exact .inl (.inl z)
                · exact (this.mp (.inr z)).elim .inr fun z => .inl (.inr z)
                · exact (this.mp (.inl z)).elim .inr fun z => .inl (.inr z)
            rw [s3] at rep
            rw [s2] at g1 g2 rep
            have ea : at0 σ i = x := by unfold at0; rw [hx]
            refine ⟨Os', Os i :: Ul, ⟨g1, ?_, ?_, fun a ha => ?_⟩, fun a => ?_, fun z => by cases z⟩
            · unfold merge
              rw [ea]
              exact .cons rep g2
            · rw [List.flatten_cons]
              exact List.nodup_append.mpr ⟨h1.nd i, g3, fun a ha b hb e => g4 b hb (.inr (e ▸ ha))⟩
            · rw [List.flatten_cons] at ha
              rcases List.mem_append.mp ha with z | z
              · exact fun q => h1.dr i a z (.inl q)
              · exact fun q => g4 a z (.inl q)
            · rw [List.flatten_cons, List.mem_append, ← weq a]
              have := eqv a
              constructor
              · rintro (z | z | z)
                · exact (this.mp (.inl z)).imp .inl id
                · exact .inl (.inr z)
                · exact (this.mp (.inr z)).imp .inl id
              · rintro ((z | z) | z)
                · exact (this.mpr (.inl z)).imp id .inr
                · exact .inr (.inl z)
                · exact (this.mpr (.inr z)).imp id .inr

theorem flat_get : ∀ {Ul : List (List Addr)} {i : Nat} {a : Addr}, a ∈ Ul.getD i [] → a ∈ Ul.flatten
  | [], i, a, h => by simp at h
  | O :: Ul, 0, a, h => by rw [List.flatten_cons]; exact List.mem_append_left _ (by simpa using h)
  | O :: Ul, i + 1, a, h => by rw [List.flatten_cons]; exact List.mem_append_right _ (flat_get (i := i) (by simpa using h))
theorem get_flat : ∀ {Ul : List (List Addr)} {a : Addr}, a ∈ Ul.flatten → ∃ i, a ∈ Ul.getD i []
  | [], a, h => by simp at h
  | O :: Ul, a, h => by
    rw [List.flatten_cons] at h
    rcases List.mem_append.mp h with z | z
    · exact ⟨0, by simpa using z⟩
    · obtain ⟨i, q⟩ := get_flat z
      exact ⟨i + 1, by simpa using q⟩
theorem flat_nd : ∀ {Ul : List (List Addr)} {i : Nat}, Ul.flatten.Nodup → (Ul.getD i []).Nodup
  | [], i, _ => by simp
  | O :: Ul, 0, h => by rw [List.flatten_cons] at h; simpa using (List.nodup_append.mp h).1
  | O :: Ul, i + 1, h => by rw [List.flatten_cons] at h; simpa using flat_nd (i := i) (List.nodup_append.mp h).2.1
theorem flat_dj : ∀ {Ul : List (List Addr)} {i j : Nat} {a : Addr}, Ul.flatten.Nodup → a ∈ Ul.getD i [] → a ∈ Ul.getD j [] → i = j
  | [], i, j, a, _, h, _ => by simp at h
  | O :: Ul, 0, 0, a, _, _, _ => rfl
  | O :: Ul, 0, j + 1, a, h, h1, h2 => by
    rw [List.flatten_cons] at h
    exact absurd rfl ((List.nodup_append.mp h).2.2 a (by simpa using h1) a (flat_get (i := j) (by simpa using h2)))
  | O :: Ul, i + 1, 0, a, h, h1, h2 => by
    rw [List.flatten_cons] at h
    exact absurd rfl ((List.nodup_append.mp h).2.2 a (by simpa using h2) a (flat_get (i := i) (by simpa using h1)))
  | O :: Ul, i + 1, j + 1, a, h, h1, h2 => by
    rw [List.flatten_cons] at h
    exact congrArg (· + 1) (flat_dj (i := i) (j := j) (List.nodup_append.mp h).2.1 (by simpa using h1) (by simpa using h2))
theorem RepL.get {W : Addr → Prop} {H : Hp} {xs : List V} {vs : List Val} {Ol : List (List Addr)} (r : RepL G W H xs vs Ol) : ∀ {i : Nat} {v : Val}, vs[i]? = some v → ∃ x, xs[i]? = some x ∧ Rep G W H x v (Ol.getD i []) := by
  induction r with
  | nil => intro i v h; simp at h
  | cons r t ih =>
    intro i v h
    cases i with
    | zero => simp at h; subst h; exact ⟨_, List.getElem?_cons_zero, by simpa using r⟩
    | succ i => obtain ⟨x, e, q⟩ := ih (i := i) (by simpa using h); exact ⟨x, by simpa using e, by simpa using q⟩
/-- the callee's view of what it was handed -/
theorem Held.view {R : Addr → Prop} {H : Hp} {ρ : VEnv} {Os : Nat → List Addr} {xs : List V} {us : List Val} {Ul : List (List Addr)} (h : Held G R H σ ρ Os xs us Ul) :
    Rel G (fun a => R a ∨ We Os a) H (xs.map some) (us.map some) (fun j => Ul.getD j []) := by
  have wf : ∀ a, We (fun j => Ul.getD j []) a ↔ a ∈ Ul.flatten := fun a => ⟨fun ⟨i, z⟩ => flat_get z, fun z => get_flat z⟩
  have hw : WW (fun a => R a ∨ a ∈ Ul.flatten) Os = WW (fun a => R a ∨ We Os a) (fun j => Ul.getD j []) := setEq fun a => by
    unfold WW
    rw [wf a]
    constructor
    · rintro ((z | z) | z)
      · exact .inl (.inl z)
      · exact .inr z
      · exact .inl (.inr z)
    · rintro ((z | z) | z)
      · exact .inl (.inl z)
      · exact .inr z
      · exact .inl (.inr z)
  obtain ⟨h1, h2, h3, h4⟩ := h
  rw [hw] at h2
  obtain ⟨l1, l2⟩ := h2.len
  refine ⟨by simp [l1], fun i v hv => ?_, fun i hi => ?_, fun i => flat_nd h3, fun i j a ha hb => flat_dj h3 ha hb, fun i a ha z => ?_, fun a z => ?_⟩
  · rw [List.getElem?_map] at hv
    cases e : us[i]? with
    | none => rw [e] at hv; cases hv
    | some u =>
      rw [e] at hv
      cases hv
      obtain ⟨x, e1, r⟩ := h2.get e
      exact ⟨x, by rw [List.getElem?_map, e1]; rfl, r⟩
  · have : us.length ≤ i := by
      by_cases q : i < us.length
      · exact absurd (by rw [List.getElem?_map, List.getElem?_eq_getElem q]; rfl) (hi us[i])
      · omega
    show Ul.getD i [] = []
    rw [List.getD_eq_getElem?_getD, List.getElem?_eq_none (by omega)]
    rfl
  · rcases z with z | z
    · exact h4 a (flat_get ha) z
    · exact h1.nr (.inr (flat_get ha)) z
  · exact z.elim (fun z => h1.rt a (.inl z)) fun z => h1.we z
/-- one more of the callee's names is not looked at -/
theorem Rel.tail {R : Addr → Prop} {H : Hp} {x : Option V} {xs : L2.St} {f : Option Val} {fs : VEnv} {Oa : Nat → List Addr} (r : Rel G R H (x :: xs) (f :: fs) Oa) : Rel G (fun a => R a ∨ a ∈ Oa 0) H xs fs (fun j => Oa (j + 1)) := by
  have we : ∀ a, WW R Oa a ↔ WW (fun a => R a ∨ a ∈ Oa 0) (fun j => Oa (j + 1)) a := fun a => by
    constructor
    · rintro (z | ⟨i, z⟩)
      · exact .inl (.inl z)
      · cases i with
        | zero => exact .inl (.inr z)
        | succ i => exact .inr ⟨i, z⟩
    · rintro ((z | z) | ⟨i, z⟩)
      · exact .inl z
      · exact .inr ⟨0, z⟩
      · exact .inr ⟨i + 1, z⟩
  have hw := setEq we
  refine ⟨by have := r.len; simpa using this, fun i v hv => ?_, fun i hi => r.nil (i + 1) fun v hv => hi v (by simpa using hv), fun i => r.nd (i + 1), fun i j a ha hb => by have := r.dj (i + 1) (j + 1) a ha hb; omega, fun i a ha z => ?_, fun a z => ?_⟩
  · obtain ⟨y, e, q⟩ := r.rep (i + 1) v (by simpa using hv)
    exact ⟨y, by simpa using e, by rw [← hw]; exact q⟩
  · rcases z with z | z
    · exact r.dr (i + 1) a ha z
    · have := r.dj (i + 1) 0 a ha z; omega
  · exact z.elim (r.rt a) fun z => r.there a z
/-- the names that the callee was given are the caller's again -/
theorem back_of {as : List Arg} : ∀ {R : Addr → Prop} {H : Hp} {ρ : VEnv} {Os Oa : Nat → List Addr} {xs : List V} {ys : L2.St} {fs : VEnv}, Rel G (fun a => R a ∨ We Oa a) H σ ρ Os → (∀ a, R a → ¬ We Oa a) → Rel G (fun a => R a ∨ We Os a) H ((merge σ as xs).map some ++ ys) fs Oa → refsOk (σ.map fun o => o.map fun _ => Val.non) as = true → (∀ i, Arg.r i ∈ as → i < ρ.length) →
    ∃ Os', Rel G R H σ (back as fs ρ) Os' ∧ (∀ a, We Os' a → We Os a ∨ We Oa a) ∧ (noRefs as = true → back as fs ρ = ρ ∧ Os' = Os) := by
  induction as with
  | nil => intro R H ρ Os Oa xs ys fs h hd c ok il; exact ⟨Os, h.weak fun a z => .inl z, fun a z => .inl z, fun _ => ⟨rfl, rfl⟩⟩
  | cons a as ih =>
    intro R H ρ Os Oa xs ys fs h hd c ok il
    cases fs with
    | nil => have := c.len; cases a <;> cases xs <;> simp [merge] at this
    | cons f fs =>
      obtain ⟨x, xs', e, ex⟩ : ∃ x xs', merge σ (a :: as) xs = x :: merge σ as xs' ∧ ∀ i, a = .r i → x = at0 σ i := by
        cases a with
        | v o => cases xs with
          | nil => exact ⟨_, [], rfl, fun i z => by cases z⟩
          | cons x xs => exact ⟨x, xs, rfl, fun i z => by cases z⟩
        | r i => exact ⟨_, xs, rfl, fun j z => by cases z; rfl⟩
        | k x u => exact ⟨x, xs, rfl, fun i z => by cases z⟩
      rw [e] at c
      have il' : ∀ i, Arg.r i ∈ as → i < ρ.length := fun i hi => il i (List.mem_cons_of_mem _ hi)
      have ok' : refsOk (σ.map fun o => o.map fun _ => Val.non) as = true := by
        cases a with
        | v o => exact ok
        | k x u => exact ok
        | r i => simp only [refsOk, Bool.and_eq_true] at ok; exact ok.2
      have sW : ∀ a, We Oa a ↔ (a ∈ Oa 0 ∨ We (fun j => Oa (j + 1)) a) := fun a => by
        constructor
        · rintro ⟨i, z⟩
          cases i with
          | zero => exact .inl z
          | succ i => exact .inr ⟨i, z⟩
        · rintro (z | ⟨i, z⟩)
          · exact ⟨0, z⟩
          · exact ⟨i + 1, z⟩
      have drop : ∃ Os', Rel G R H σ (back as fs ρ) Os' ∧ (∀ a, We Os' a → We Os a ∨ We Oa a) ∧ (noRefs as = true → back as fs ρ = ρ ∧ Os' = Os) := by
        obtain ⟨Os', h1, h2, h3⟩ := ih (R := R) (ρ := ρ) (Os := Os) (Oa := fun j => Oa (j + 1)) (h.weak fun a z => z.imp id fun z => (sW a).mpr (.inr z)) (fun a z q => hd a z ((sW a).mpr (.inr q))) (c.tail.weak fun a z => .inl z) ok' il'
        exact ⟨Os', h1, fun a z => (h2 a z).imp id fun z => (sW a).mpr (.inr z), h3⟩
      cases a with
      | v o => cases f <;> exact drop
      | k x u => cases f <;> exact drop
      | r i =>
        cases f with
        | none =>
          obtain ⟨Os', h1, h2, h3⟩ := drop
          exact ⟨Os', h1, h2, fun z => by cases z⟩
        | some u =>
          obtain ⟨y, ey, ru⟩ := c.rep 0 u rfl
          have ey' : x = y := by simpa using ey
          subst ey'
          have s1 : (fun a => R a ∨ We Oa a) = fun a => (R a ∨ We (fun j => Oa (j + 1)) a) ∨ a ∈ Oa 0 := setEq fun a => by
            rw [sW a]
            constructor
            · rintro (z | z | z)
              · exact .inl (.inl z)
              · exact .inr z
              · exact .inl (.inr z)
            · rintro ((z | z) | z)
              · exact .inl z
              · exact .inr (.inr z)
              · exact .inr (.inl z)
          rw [s1] at h
          have s2 : WW (fun a => R a ∨ We Os a) Oa = WW (fun a => (R a ∨ We (fun j => Oa (j + 1)) a) ∨ a ∈ Oa 0) Os := setEq fun a => by
            unfold WW
            rw [sW a]
            constructor
            · rintro ((z | z) | z | z)
              · exact .inl (.inl (.inl z))
              · exact .inr z
              · exact .inl (.inr z)
              · exact .inl (.inl (.inr z))
            · rintro (((z | z) | z) | z)
              · exact .inl (.inl z)
              · exact .inr (.inr z)
              · exact .inr (.inl z)
              · exact .inl (.inr z)
          rw [s2] at ru
          have hi := il i List.mem_cons_self
          have put := h.put ru (c.nd 0) hi (fun a ha z => z.elim (fun z => hd a z ⟨0, ha⟩) fun ⟨j, z⟩ => by have := c.dj 0 (j + 1) a ha z; omega)
          have es : σ.set i (some x) = σ := by
            have hx := ex i rfl
            have ok1 : slotOk (σ.map fun o => o.map fun _ => Val.non) i = true := by simp only [refsOk, Bool.and_eq_true] at ok; exact ok.1
            unfold slotOk at ok1
            unfold at0 at hx
            rw [List.getElem?_map] at ok1
            cases q : σ[i]? with
            | none => rw [q] at ok1; cases ok1
            | some o =>
              cases o with
              | none => rw [q] at ok1; cases ok1
              | some y =>
                rw [q] at hx
                simp only at hx
                subst hx
                apply List.ext_getElem?
                intro j
                by_cases hj : j = i
                · subst hj
                  rw [List.getElem?_set_self (by have := (List.getElem?_eq_some_iff.mp q).1; exact this), q]
                · rw [List.getElem?_set_ne (Ne.symm hj)]
          rw [es] at put
          have weq : ∀ a, We (fun j => if j = i then Oa 0 else Os j) a → We Os a ∨ a ∈ Oa 0 := fun a ⟨j, z⟩ => by
            by_cases hj : j = i
            · simp only [hj, if_true] at z; exact .inr z
            · simp only [hj, if_false] at z; exact .inl ⟨j, z⟩
          obtain ⟨Os', h1, h2, h3⟩ := ih (R := R) (ρ := ρ.set i (some u)) (Oa := fun j => Oa (j + 1)) put (fun a z q => hd a z ((sW a).mpr (.inr q))) (c.tail.weak fun a z => z.elim (fun z => .inl (.inl z)) fun z => (weq a z).elim (fun z => .inl (.inr z)) .inr) ok' (fun j hj => by rw [List.length_set]; exact il' j hj)
          refine ⟨Os', h1, fun a z => ?_, fun z => by cases z⟩
          rcases h2 a z with z | z
          · exact (weq a z).imp id fun z => (sW a).mpr (.inl z)
          · exact .inr ((sW a).mpr (.inr z))

theorem refs_some {as : List Arg} {ρ : VEnv} (hs : ∀ (i : Nat) (v : Val), ρ[i]? = some (some v) → ∃ x, σ[i]? = some (some x)) (ok : refsOk ρ as = true) : refsOk (σ.map fun o => o.map fun _ => Val.non) as = true := by
  induction as with
  | nil => rfl
  | cons a as ih =>
    cases a with
    | v o => exact ih ok
    | k x u => exact ih ok
    | r i =>
      simp only [refsOk, Bool.and_eq_true] at ok ⊢
      refine ⟨?_, ih ok.2⟩
      have o1 := ok.1
      unfold slotOk at o1 ⊢
      split at o1
      · rename_i v hv
        obtain ⟨x, hx⟩ := hs i v hv
        rw [List.getElem?_map, hx]
        rfl
      · cases o1
theorem refs_lt {as : List Arg} {ρ : VEnv} (ok : refsOk ρ as = true) : ∀ i, Arg.r i ∈ as → i < ρ.length := by
  induction as with
  | nil => intro i h; cases h
  | cons a as ih =>
    intro i h
    cases a with
    | v o => rcases List.mem_cons.mp h with z | z
             · cases z
             · exact ih ok i z
    | k x u => rcases List.mem_cons.mp h with z | z
               · cases z
               · exact ih ok i z
    | r j =>
      simp only [refsOk, Bool.and_eq_true] at ok
      rcases List.mem_cons.mp h with z | z
      · cases z
        have o1 := ok.1
        unfold slotOk at o1
        split at o1
        · rename_i v hv
          exact (List.getElem?_eq_some_iff.mp hv).1
        · cases o1
      · exact ih ok.2 i z
theorem fill_len : ∀ {as : List Arg} {ρ ρ' : VEnv} {vs us : List Val}, fill as ρ vs = some (us, ρ') → us.length = as.length ∧ ρ'.length = ρ.length
  | [], ρ, ρ', vs, us, h => by
    cases vs with
    | nil => simp only [fill, Option.some.injEq, Prod.mk.injEq] at h; obtain ⟨rfl, rfl⟩ := h; exact ⟨rfl, rfl⟩
    | cons v vs => simp [fill] at h
  | .v o :: as, ρ, ρ', vs, us, h => by
    cases vs with
    | nil => simp [fill] at h
    | cons v vs =>
      simp only [fill] at h
      cases hf : fill as ρ vs with
      | none => rw [hf] at h; cases h
      | some p => obtain ⟨a, b⟩ := p; rw [hf] at h; simp only [Option.some.injEq, Prod.mk.injEq] at h; obtain ⟨rfl, rfl⟩ := h; obtain ⟨h1, h2⟩ := fill_len hf; exact ⟨by simp [h1], h2⟩
  | .k x u :: as, ρ, ρ', vs, us, h => by
    simp only [fill] at h
    cases hf : fill as ρ vs with
    | none => rw [hf] at h; cases h
    | some p => obtain ⟨a, b⟩ := p; rw [hf] at h; simp only [Option.some.injEq, Prod.mk.injEq] at h; obtain ⟨rfl, rfl⟩ := h; obtain ⟨h1, h2⟩ := fill_len hf; exact ⟨by simp [h1], h2⟩
  | .r i :: as, ρ, ρ', vs, us, h => by
    simp only [fill] at h
    cases hv : ρ[i]? with
    | none => rw [hv] at h; cases h
    | some q =>
      cases q with
      | none => rw [hv] at h; cases h
      | some v =>
        rw [hv] at h
        dsimp only at h
        cases hf : fill as (ρ.set i none) vs with
        | none => rw [hf] at h; cases h
        | some p => obtain ⟨a, b⟩ := p; rw [hf] at h; simp only [Option.some.injEq, Prod.mk.injEq] at h; obtain ⟨rfl, rfl⟩ := h; obtain ⟨h1, h2⟩ := fill_len hf; exact ⟨by simp [h1], by simpa using h2⟩
theorem argsP_iff : ∀ {as : List Arg}, argsP as = true → noRefs as = true ∧ (vals as).all (·.p) = true
  | [], _ => ⟨rfl, rfl⟩
  | .v o :: as, h => by
    simp only [argsP, Bool.and_eq_true] at h
    obtain ⟨h1, h2⟩ := argsP_iff h.2
    exact ⟨h1, by simp [vals, h.1, h2]⟩
  | .k x u :: as, h => argsP_iff (as := as) h
  | .r i :: as, h => by cases h
/-- THE CALL -/
theorem call_of {as : List Arg} {mf : MF} (df : Dfl G as) (hs : (vals as).all (·.s) = true) {H : Hp} {Q : VK} {n : Nat} (hn : as.length = n) (h : rd G E (argsP as) true (mCall mf as) σ H Q) : nestG G E as σ H (fun xs H1 => spV G n mf xs H1 Q (WE E σ)) := by
  obtain ⟨R, ρ, Os, rel, post⟩ := h
  unfold mCall at post
  by_cases ok : refsOk ρ as = true
  rotate_left
  · rw [if_neg ok] at post; exact post.elim
  rw [if_pos ok] at post
  refine nestG_of (ρ := ρ) (fun i v hv => let ⟨x, hx, _⟩ := rel.rep i v hv; ⟨x, hx⟩) ok (nest_of (wf_all hs) rel ?_)
  rw [evalA_eq]
  cases he : evalM ((vals as).map Op.m) ρ with
  | bad => rw [he] at post; exact post
  | exc e ρ' => rw [he] at post; exact post
  | ok vs ρ1 =>
    rw [he] at post
    dsimp only at post
    cases hf : fill as ρ1 vs with
    | none => rw [hf] at post; exact post.elim
    | some q =>
      obtain ⟨us, ρ2⟩ := q
      rw [hf] at post
      dsimp only at post
      intro xs H1 Os1 Ol rel1 reps nd1 keep1 pure1
      have hlen := reps.len
      have hv := evalM_len he
      rw [List.length_map] at hv
      have es := stab_all hs (hv.symm.trans hlen.2)
      rw [es] at rel1 nd1 reps keep1
      have hnr : ∀ a ∈ Ol.flatten, ¬ R a := fun a ha z => by
        obtain ⟨o, e⟩ := rel.rt a z
        obtain ⟨_, _, n⟩ := keep1 a o e (rel.nr z)
        exact n ha
      obtain ⟨Os2, Ul, held, eqv, nrf⟩ := Held.fill df ⟨rel1, reps, nd1, hnr⟩ hf
      have view := held.view
      have wf : ∀ a, We (fun j => Ul.getD j []) a ↔ a ∈ Ul.flatten := fun a => ⟨fun ⟨i, z⟩ => flat_get z, fun z => get_flat z⟩
      have mlen : (merge σ as xs).length = n := by
        have := held.rep.len.1
        rw [this, (fill_len hf).1, hn]
      refine ⟨mlen, fun a => R a ∨ We Os2 a, us, fun j => Ul.getD j [], view, ?_⟩
      have okσ : refsOk (σ.map fun o => o.map fun _ => Val.non) as = true := refs_some (fun i v hv => let ⟨x, hx, _⟩ := rel.rep i v hv; ⟨x, hx⟩) ok
      have il : ∀ i, Arg.r i ∈ as → i < ρ2.length := fun i hi => by
        have l1 := rel.len
        have l2 := held.rel.len
        rw [← l2, l1]
        exact refs_lt ok i hi
      /- behind the callee: the caller's names, O what is left over -/
      have after : ∀ {O : List Addr} {s : Bool} {H2 : Hp} {Oa2 : Nat → List Addr} {fs : VEnv}, Rel G (Rp (fun a => R a ∨ We Os2 a) s O) H2 ((merge σ as xs).map some) fs Oa2 → KeepE H1 (fun j => Ul.getD j []) H2 Oa2 (fun a => s = true ∧ a ∈ O) →
          ∃ Os3, Rel G (Rp R s O) H2 σ (back as fs ρ2) Os3 ∧ (∀ a, We Os3 a → We Os2 a ∨ We Oa2 a) ∧ (noRefs as = true → back as fs ρ2 = ρ2 ∧ Os3 = Os2) ∧ KeepE H Os H2 Os3 (fun a => s = true ∧ a ∈ O) := by
        intro O s H2 Oa2 fs rel2 k2
        have nWe2 : ∀ a, We Os2 a → ¬ We (fun j => Ul.getD j []) a := fun a z q => view.nr (.inr z) q
        have kept : ∀ a o, H1 a = some o → ¬ a ∈ Ul.flatten → H2 a = some o ∧ ¬ We Oa2 a ∧ ¬ (s = true ∧ a ∈ O) := fun a o e nw => k2 a o e fun z => nw ((wf a).mp z)
        have relC : Rel G (fun a => Rp R s O a ∨ We Oa2 a) H2 σ ρ2 Os2 := by
          have hr := held.rel
          refine ⟨hr.len, fun i v hv => ?_, hr.nil, hr.nd, hr.dj, fun i a ha z => ?_, fun a z => ?_⟩
          · obtain ⟨x, hx, r⟩ := hr.rep i v hv
            refine ⟨x, hx, r.mono (fun a o e nw => ?_) fun a ha o e => (kept a o e fun z => hr.dr i a ha (.inr z)).1⟩
            obtain ⟨e2, n1, n2⟩ := kept a o e fun z => nw (.inl (.inr z))
            refine ⟨e2, fun z => ?_⟩
            rcases z with ((z | z) | z) | z
            · exact nw (.inl (.inl z))
            · exact n2 z
            · exact n1 z
            · exact nw (.inr z)
          · obtain ⟨o, e⟩ := hr.there a ha
            obtain ⟨_, n1, n2⟩ := kept a o e fun z => hr.dr i a ha (.inr z)
            rcases z with (z | z) | z
            · exact hr.dr i a ha (.inl z)
            · exact n2 z
            · exact n1 z
          · rcases z with (z | z) | z
            · exact rel2.rt a (.inl (.inl z))
            · exact rel2.rt a (.inr z)
            · exact rel2.we z
        have rel2' : Rel G (fun a => Rp R s O a ∨ We Os2 a) H2 ((merge σ as xs).map some ++ []) fs Oa2 := by
          rw [List.append_nil]
          exact rel2.weak fun a z => by
            rcases z with (z | z) | z
            · exact .inl (.inl z)
            · exact .inr z
            · exact .inl (.inr z)
        obtain ⟨Os3, r3, w3, n3⟩ := back_of (as := as) relC (fun a z q => by
          rcases z with z | z
          · exact rel2.nr (.inl (.inl z)) q
          · exact rel2.nr (.inr z) q) rel2' okσ il
        refine ⟨Os3, r3, w3, n3, fun a o e nw => ?_⟩
        obtain ⟨e1, m1, m2⟩ := keep1 a o e nw
        have m3 : ¬ (We Os2 a ∨ a ∈ Ul.flatten) := fun z => ((eqv a).mp z).elim m1 m2
        obtain ⟨e2, m4, m5⟩ := kept a o e1 fun z => m3 (.inr z)
        exact ⟨e2, fun z => (w3 a z).elim (fun z => m3 (.inl z)) m4, m5⟩
      cases hm : mf us with
      | bad => rw [hm] at post; exact post
      | exc e fs =>
        rw [hm] at post
        intro c d H2 Oa2 rel2 rx k2
        have e0 : Rp (fun a => R a ∨ We Os2 a) false [] = fun a => R a ∨ We Os2 a := setEq fun a => ⟨fun z => z.elim id (fun z => by cases z.1), .inl⟩
        have e1 : Rp R false [] = R := setEq fun a => ⟨fun z => z.elim id (fun z => by cases z.1), .inl⟩
        obtain ⟨Os3, r3, w3, n3, k3⟩ := after (s := false) (O := []) (by rw [e0]; exact rel2) (k2.imp fun a z => by cases z.1)
        rw [e1] at r3
        refine post c d H2 Os3 r3 (rx.mono fun a o e nw => ⟨e, fun z => nw ?_⟩) (k3.imp fun _ z => z.elim)
        rcases z with z | z
        · exact .inl (.inl z)
        · exact (w3 a z).elim (fun z => .inl (.inr z)) .inr
      | ok v fs =>
        rw [hm] at post
        intro x H2 Oa2 O rel2 rep2 nd2 k2 _
        obtain ⟨Os3, r3, w3, n3, k3⟩ := after rel2 k2
        refine post x H2 Os3 O r3 (rep2.mono (fun a o e nw => ⟨e, fun z => nw ?_⟩) fun _ _ _ e => e) nd2 k3 fun hp => ?_
        · rcases z with (z | z) | z
          · exact .inl (.inl (.inl z))
          · exact .inl (.inr z)
          · exact (w3 a z).elim (fun z => .inl (.inl (.inr z))) .inr
        · obtain ⟨p1, p2⟩ := argsP_iff hp
          obtain ⟨a1, a2, a3⟩ := pure1 p2
          obtain ⟨b1, b2⟩ := nrf p1
          obtain ⟨c1, c2⟩ := n3 p1
          refine ⟨c1.trans (b1.trans a1), c2.trans (b2.trans a2), fun a o e => ?_⟩
          have e1 := a3 a o e
          have hno : ¬ We (fun j => Ul.getD j []) a := fun z => by
            have z' := (wf a).mp z
            by_cases q : We Os a
            · exact held.rel.nr (.inr z') (by rw [b2, a2]; exact q)
            · obtain ⟨_, m1, m2⟩ := keep1 a o e q
              exact ((eqv a).mp (.inr z')).elim m1 m2
          exact (k2 a o e1 hno).1
end
end VL
/-! VL, part J: statements as functions on the names' trees; loops; targets. -/
namespace VL
open PySem L2

inductive RS where
  | nx (ρ : VEnv) | rt (v : Val) (ρ : VEnv) | bk (ρ : VEnv) | ct (ρ : VEnv) | exc (e : Exc) (ρ : VEnv) | bad
abbrev MS := VEnv → RS
/-- the parameters that a call hands over as names are never set anew -/
def PinB (bs : List Bool) (σ0 σ : L2.St) : Prop := ∀ j : Nat, bs[j]? = some true → σ[j]? = σ0[j]?
theorem PinB.set {bs : List Bool} {σ0 σ : L2.St} (p : PinB bs σ0 σ) {i : Nat} {x : Option V} (h : bs[i]? ≠ some true) : PinB bs σ0 (σ.set i x) := fun j hj => by
  by_cases e : i = j
  · subst e; exact absurd hj h
  · rw [List.getElem?_set_ne e]; exact p j hj
def PostS (G : Gam) (R : Addr → Prop) (E : WX) (D : Ends) (bs : List Bool) (σ0 : L2.St) (H : Hp) (Os : Nat → List Addr) : RS → Prop
  | .nx ρ' => ∀ σ' H' Os', PinB bs σ0 σ' → Rel G R H' σ' ρ' Os' → KeepE H Os H' Os' (fun _ => False) → D.nx σ' H'
  | .bk ρ' => ∀ σ' H' Os', PinB bs σ0 σ' → Rel G R H' σ' ρ' Os' → KeepE H Os H' Os' (fun _ => False) → D.bk σ' H'
  | .ct ρ' => ∀ σ' H' Os', PinB bs σ0 σ' → Rel G R H' σ' ρ' Os' → KeepE H Os H' Os' (fun _ => False) → D.ct σ' H'
  | .rt v ρ' => ∀ x σ' H' Os' O, PinB bs σ0 σ' → Rel G (Rp R true O) H' σ' ρ' Os' → Rep G (WW (Rp R true O) Os') H' x v O → O.Nodup → KeepE H Os H' Os' (fun a => true = true ∧ a ∈ O) → D.rt x H'
  | .exc e ρ' => ∀ c d σ' H' Os', PinB bs σ0 σ' → Rel G R H' σ' ρ' Os' → RepX G (WW R Os') H' c d e → KeepE H Os H' Os' (fun _ => False) → E c d σ' H'
  | .bad => False
def tS (G : Gam) (E : WX) (bs : List Bool) (σ0 : L2.St) (m : MS) : TS := fun D σ H => ∃ R ρ Os, Rel G R H σ ρ Os ∧ PinB bs σ0 σ ∧ PostS G R E D bs σ0 H Os (m ρ)
def VS (G : Gam) (X : Cx) (E : WX) (bs : List Bool) (σ0 : L2.St) (st : Stmt) (m : MS) : Prop := PS X st (tS G E bs σ0 m)
def VSs (G : Gam) (X : Cx) (E : WX) (bs : List Bool) (σ0 : L2.St) (st : List Stmt) (m : MS) : Prop := PSs X st (tS G E bs σ0 m)

def mNext : MS := fun ρ => .nx ρ
def mSeq (m1 m2 : MS) : MS := fun ρ => match m1 ρ with
  | .nx ρ' => m2 ρ'
  | r => r
def mDrop (m : ME) : MS := fun ρ => match m ρ with
  | .ok _ ρ' => .nx ρ'
  | .exc e ρ' => .exc e ρ'
  | .bad => .bad
def mRet (m : ME) : MS := fun ρ => match m ρ with
  | .ok v ρ' => .rt v ρ'
  | .exc e ρ' => .exc e ρ'
  | .bad => .bad
def mRetN : MS := fun ρ => .rt .non ρ
def mBrk : MS := fun ρ => .bk ρ
def mCnt : MS := fun ρ => .ct ρ
def mNever : MS := fun _ => .bad
def mIfS (c : ME) (a b : MS) : MS := fun ρ => match c ρ with
  | .ok (.bl t) ρ' => if t = true then a ρ' else b ρ'
  | .ok _ _ => .bad
  | .exc e ρ' => .exc e ρ'
  | .bad => .bad
def mSet (i : Nat) (m : ME) : MS := fun ρ => match m ρ with
  | .ok v ρ' => if i < ρ'.length then .nx (ρ'.set i (some v)) else .bad
  | .exc e ρ' => .exc e ρ'
  | .bad => .bad

section
variable {G : Gam} {R : Addr → Prop} {E : WX} {D : Ends} {bs : List Bool} {σ0 σ : L2.St} {H H1 : Hp} {Os Os1 : Nat → List Addr} {ρ ρ1 : VEnv}
theorem PostS.later {r : RS} (post : PostS G R E D bs σ0 H Os r) (k : KeepE H Os H1 Os1 fun _ => False) : PostS G R E D bs σ0 H1 Os1 r := by
  cases r with
  | bad => exact post
  | nx ρ' => exact fun σ' H' Os' p r q => post σ' H' Os' p r (k.trans q)
  | bk ρ' => exact fun σ' H' Os' p r q => post σ' H' Os' p r (k.trans q)
  | ct ρ' => exact fun σ' H' Os' p r q => post σ' H' Os' p r (k.trans q)
  | rt v ρ' => exact fun x σ' H' Os' O p r rx nd q => post x σ' H' Os' O p r rx nd (k.trans q)
  | exc e ρ' => exact fun c d σ' H' Os' p r rx q => post c d σ' H' Os' p r rx (k.trans q)
theorem PostS.ends {D' : Ends} {r : RS} (post : PostS G R E D bs σ0 H Os r) (h1 : ∀ ρ', r = .nx ρ' → PostS G R E D bs σ0 H Os (.nx ρ') → PostS G R E D' bs σ0 H Os (.nx ρ')) (h2 : D'.rt = D.rt) (h3 : ∀ ρ', r = .bk ρ' → PostS G R E D bs σ0 H Os (.bk ρ') → PostS G R E D' bs σ0 H Os (.bk ρ'))
    (h4 : ∀ ρ', r = .ct ρ' → PostS G R E D bs σ0 H Os (.ct ρ') → PostS G R E D' bs σ0 H Os (.ct ρ')) : PostS G R E D' bs σ0 H Os r := by
  cases r with
  | bad => exact post
  | nx ρ' => exact h1 _ rfl post
  | bk ρ' => exact h3 _ rfl post
  | ct ρ' => exact h4 _ rfl post
  | rt v ρ' => intro x σ' H' Os' O p r rx nd q; rw [h2]; exact post x σ' H' Os' O p r rx nd q
  | exc e ρ' => exact post
end
section
variable {G : Gam} {X : Cx} {E : WX} {bs : List Bool} {σ0 : L2.St} {e a b c : Expr} {st : Stmt} {rest s1 s2 : List Stmt} {pos : Pos} {p s : Bool} {m : ME} {m1 m2 : MS}
theorem vss_nil : VSs G X E bs σ0 [] mNext := PSs.pre pss_nil fun D σ H ⟨R, ρ, Os, rel, pin, post⟩ => post σ H Os pin rel KeepE.refl
theorem vss_one (h : VS G X E bs σ0 st m1) : VSs G X E bs σ0 [st] m1 := pss_one h
theorem vss_cons (h1 : VS G X E bs σ0 st m1) (h2 : VSs G X E bs σ0 rest m2) : VSs G X E bs σ0 (st :: rest) (mSeq m1 m2) := by
  refine PSs.pre (pss_cons h1 h2) fun D σ H ⟨R, ρ, Os, rel, pin, post⟩ => ⟨R, ρ, Os, rel, pin, ?_⟩
  unfold mSeq at post
  cases hm : m1 ρ with
  | nx ρ' => rw [hm] at post; exact fun σ' H' Os' p r k => ⟨R, ρ', Os', r, p, post.later k⟩
  | bad => rw [hm] at post; exact post
  | bk ρ' => rw [hm] at post; exact post
  | ct ρ' => rw [hm] at post; exact post
  | rt v ρ' => rw [hm] at post; exact post
  | exc e ρ' => rw [hm] at post; exact post
theorem vs_pass : VS G X E bs σ0 (.Pass pos) mNext := PS.pre ps_pass fun D σ H ⟨R, ρ, Os, rel, pin, post⟩ => post σ H Os pin rel KeepE.refl
theorem vs_doc {x j pos pos'} : VS G X E bs σ0 (.Expr (.Constant (.str x) j pos) pos') mNext := PS.pre ps_doc fun D σ H ⟨R, ρ, Os, rel, pin, post⟩ => post σ H Os pin rel KeepE.refl
theorem vs_break : VS G X E bs σ0 (.Break pos) mBrk := PS.pre ps_break fun D σ H ⟨R, ρ, Os, rel, pin, post⟩ => post σ H Os pin rel KeepE.refl
theorem vs_continue : VS G X E bs σ0 (.Continue pos) mCnt := PS.pre ps_continue fun D σ H ⟨R, ρ, Os, rel, pin, post⟩ => post σ H Os pin rel KeepE.refl
theorem vs_never : VS G X E bs σ0 st mNever := PS.pre ps_never fun D σ H ⟨R, ρ, Os, rel, pin, post⟩ => post
theorem vss_never : VSs G X E bs σ0 rest mNever := PSs.pre pss_never fun D σ H ⟨R, ρ, Os, rel, pin, post⟩ => post
theorem vs_retN : VS G X E bs σ0 (.Return none pos) mRetN := PS.pre ps_retN fun D σ H ⟨R, ρ, Os, rel, pin, post⟩ =>
  post .non σ H Os [] pin (rel.weak fun a z => z.elim id fun z => nomatch z.2) .non List.nodup_nil (KeepE.refl.imp fun a z => nomatch z.2)
/-- an expression's post, by what is wanted behind it -/
theorem PostS.post {R : Addr → Prop} {D : Ends} {σ : L2.St} {H : Hp} {Os : Nat → List Addr} {ρ : VEnv} {r : RE} {Q : VK} {f : Val → VEnv → RS} (pin : PinB bs σ0 σ)
    (post : PostS G R E D bs σ0 H Os (match (generalizing := false) r with | .ok v ρ' => f v ρ' | .exc e ρ' => .exc e ρ' | .bad => .bad))
    (h : ∀ v ρ' x H' Os' O, r = .ok v ρ' → PostS G R E D bs σ0 H Os (f v ρ') → Rel G (Rp R s O) H' σ ρ' Os' → Rep G (WW (Rp R s O) Os') H' x v O → (s = true → O.Nodup) → KeepE H Os H' Os' (fun a => s = true ∧ a ∈ O) → Q x H') : Post G R E σ H Os p s ρ Q r := by
  cases r with
  | bad => exact post
  | exc e ρ' => exact fun c d H' Os' rel rx k => post c d σ H' Os' pin rel rx k
  | ok v ρ' => exact fun x H' Os' O rel rep nd k _ => h v ρ' x H' Os' O rfl post rel rep nd k
theorem vs_expr (he : VE G X E p s e m) (hs : swapsWith e none pos.line X.env = pure false := by rfl) : VS G X E bs σ0 (.Expr e pos) (mDrop m) := by
  refine PS.pre (ps_expr he hs) fun D σ H ⟨R, ρ, Os, rel, pin, post⟩ => ⟨R, ρ, Os, rel, ?_⟩
  refine PostS.post (f := fun _ ρ' => .nx ρ') pin post fun v ρ' x H' Os' O _ post rel rep nd k => ?_
  exact post σ H' Os' pin (rel.weak fun a z => .inl z) (k.imp fun _ z => z.elim)
theorem vs_ret (he : VE G X E p true e m) : VS G X E bs σ0 (.Return (some e) pos) (mRet m) := by
  refine PS.pre (ps_ret he) fun D σ H ⟨R, ρ, Os, rel, pin, post⟩ => ⟨R, ρ, Os, rel, ?_⟩
  exact PostS.post (f := fun v ρ' => .rt v ρ') pin post fun v ρ' x H' Os' O _ post rel rep nd k => post x σ H' Os' O pin rel rep (nd rfl) k
theorem vs_if (hc : VT G X E p c m) (ha : VSs G X E bs σ0 s1 m1) (hb : VSs G X E bs σ0 s2 m2) : VS G X E bs σ0 (.If c s1 s2 pos) (mIfS m m1 m2) := by
  refine PS.pre (ps_if hc ha hb) fun D σ H ⟨R, ρ, Os, rel, pin, post⟩ => ⟨R, ρ, Os, rel, ?_⟩
  unfold mIfS at post
  cases hm : m ρ with
  | bad => rw [hm] at post; exact post
  | exc e ρ' => rw [hm] at post; exact fun c d H' Os' rel rx k => post c d σ H' Os' pin rel rx k
  | ok v ρ' =>
    rw [hm] at post
    cases v with
    | bl t =>
      intro H' Os' rel k _
      cases t with
      | true => exact ⟨R, ρ', Os', rel, pin, PostS.later post k⟩
      | false => exact ⟨R, ρ', Os', rel, pin, PostS.later post k⟩
    | _ => exact post.elim
/-- a name set: the names' trees -/
theorem set_of {R : Addr → Prop} {D : Ends} {σ : L2.St} {H H' : Hp} {Os Os' : Nat → List Addr} {ρ' : VEnv} {x : V} {v : Val} {O : List Addr} {i : Nat} (relH : Rel G R H σ ρ' Os ∨ True) (hr : ∀ a, R a → ∃ o, H a = some o ∧ ¬ We Os a) (rel : Rel G (Rp R true O) H' σ ρ' Os') (rep : Rep G (WW (Rp R true O) Os') H' x v O) (nd : O.Nodup) (k : KeepE H Os H' Os' (fun a => true = true ∧ a ∈ O)) (hi : i < ρ'.length) :
    ∃ Os2, Rel G R H' (σ.set i (some x)) (ρ'.set i (some v)) Os2 ∧ KeepE H Os H' Os2 (fun _ => False) := by
  have e0 : Rp R true O = fun a => R a ∨ a ∈ O := setEq fun a => ⟨fun z => z.imp id fun z => z.2, fun z => z.imp id fun z => ⟨rfl, z⟩⟩
  rw [e0] at rel rep
  refine ⟨_, rel.put rep nd hi (fun a ha z => ?_), fun a o e nw => ?_⟩
  · obtain ⟨o, e, nw⟩ := hr a z
    exact (k a o e nw).2.2 ⟨rfl, ha⟩
  · obtain ⟨e1, n1, n2⟩ := k a o e nw
    refine ⟨e1, fun ⟨j, z⟩ => ?_, id⟩
    by_cases hj : j = i
    · simp only [hj, if_true] at z; exact n2 ⟨rfl, z⟩
    · simp only [hj, if_false] at z; exact n1 ⟨j, z⟩
theorem Rel.hr {R : Addr → Prop} {σ : L2.St} {H : Hp} {Os : Nat → List Addr} {ρ : VEnv} (rel : Rel G R H σ ρ Os) : ∀ a, R a → ∃ o, H a = some o ∧ ¬ We Os a := fun a z => let ⟨o, e⟩ := rel.rt a z; ⟨o, e, rel.nr z⟩
theorem vs_set {i : Nat} {x : Str} {pos' : Pos} (hN : X.N.Nodup) (hi : X.N[i]? = some x) (hx : Loc X.env.scope x) (he : VE G X E p true e m) (hb : bs[i]? ≠ some true := by decide) (hs : swapsWith e (some (.Name x pos')) pos.line X.env = pure false := by rfl)
    (hf : X.fn x = true ∨ X.env.scope.names.lookup x = some .local := by first | exact .inl rfl | exact .inr rfl | assumption) : VS G X E bs σ0 (.Assign [.Name x pos'] e pos) (mSet i m) := by
  refine PS.pre (ps_set hN hi hx he hs hf) fun D σ H ⟨R, ρ, Os, rel, pin, post⟩ => ⟨R, ρ, Os, rel, ?_⟩
  refine PostS.post (s := true) (f := fun v ρ' => if i < ρ'.length then .nx (ρ'.set i (some v)) else .bad) pin post fun v ρ' x H' Os' O _ post rel' rep nd k => ?_
  by_cases hi' : i < ρ'.length
  · rw [if_pos hi'] at post
    obtain ⟨Os2, r2, k2⟩ := set_of (D := D) (.inr trivial) rel.hr rel' rep (nd rfl) k hi'
    exact post _ _ Os2 (pin.set hb) r2 k2
  · rw [if_neg hi'] at post
    exact post.elim

/-! ### targets -/
/-- a target: what it does to the names' trees -/
abbrev MG := Val → VEnv → Option VEnv
abbrev MGs := List Val → VEnv → Option VEnv
/-- what is there ahead of a store: v's own addresses O -/
def tG (G : Gam) (bs : List Bool) (σ0 : L2.St) (g : MG) : TG := fun x σ H Q => ∃ R ρ Os v O, Rel G (fun a => R a ∨ a ∈ O) H σ ρ Os ∧ Rep G (WW (fun a => R a ∨ a ∈ O) Os) H x v O ∧ O.Nodup ∧ (∀ a ∈ O, ¬ R a) ∧ PinB bs σ0 σ ∧
  (match g v ρ with
    | some ρ' => ∀ σ' Os', PinB bs σ0 σ' → σ'.length = σ.length → Rel G R H σ' ρ' Os' → (∀ a, We Os' a → We Os a ∨ a ∈ O) → Q σ' H
    | none => False)
def tGs (G : Gam) (bs : List Bool) (σ0 : L2.St) (g : MGs) : TGs := fun xs σ H Q => ∃ R ρ Os vs O, Rel G (fun a => R a ∨ a ∈ O) H σ ρ Os ∧ Reps G (WW (fun a => R a ∨ a ∈ O) Os) H xs vs O ∧ O.Nodup ∧ (∀ a ∈ O, ¬ R a) ∧ PinB bs σ0 σ ∧
  (match g vs ρ with
    | some ρ' => ∀ σ' Os', PinB bs σ0 σ' → σ'.length = σ.length → Rel G R H σ' ρ' Os' → (∀ a, We Os' a → We Os a ∨ a ∈ O) → Q σ' H
    | none => False)
def VG (G : Gam) (X : Cx) (bs : List Bool) (σ0 : L2.St) (tg : Expr) (g : MG) : Prop := PG X tg (tG G bs σ0 g)
def VGs (G : Gam) (X : Cx) (bs : List Bool) (σ0 : L2.St) (tg : List Expr) (g : MGs) : Prop := PGs X tg (tGs G bs σ0 g)
theorem PG.pre {X : Cx} {e : Expr} {t t' : TG} (h : PG X e t) (k : ∀ v σ H Q, t' v σ H Q → t v σ H Q) : PG X e t' := ⟨fun pins s σ H v u Q I r q => h.run pins s σ H v u Q I r (k v σ H Q q)⟩
theorem PGs.pre {X : Cx} {e : List Expr} {t t' : TGs} (h : PGs X e t) (k : ∀ v σ H Q, t' v σ H Q → t v σ H Q) : PGs X e t' := ⟨fun pins s σ H v u Q I r q => h.run pins s σ H v u Q I r (k v σ H Q q)⟩
def gV (i : Nat) : MG := fun v ρ => if i < ρ.length then some (ρ.set i (some v)) else none
def gTupV (g : MGs) (n : Nat) : MG := fun v ρ => match v with
  | .tup vs => if vs.length = n then g vs ρ else none
  | .wtp vs => if vs.length = n then g vs ρ else none
  | _ => none
def gNilV : MGs := fun vs ρ => match vs with
  | [] => some ρ
  | _ => none
def gConsV (g : MG) (gs : MGs) : MGs := fun vs ρ => match vs with
  | v :: vs => (match g v ρ with
    | some ρ' => gs vs ρ'
    | none => none)
  | [] => none
theorem vg_name {i : Nat} {x : Str} (hN : X.N.Nodup) (hi : X.N[i]? = some x) (hx : Loc X.env.scope x) (hb : bs[i]? ≠ some true := by decide) (hf : X.fn x = true ∨ X.env.scope.names.lookup x = some .local := by first | exact .inl rfl | exact .inr rfl | assumption) : VG G X bs σ0 (.Name x pos) (gV i) := by
  refine PG.pre (pg_name hN hi hx hf) fun x σ H Q ⟨R, ρ, Os, v, O, rel, rep, nd, nr, pin, post⟩ => ?_
  unfold gV at post
  by_cases hi' : i < ρ.length
  · rw [if_pos hi'] at post
    refine post _ _ (pin.set hb) (by rw [List.length_set]) (rel.put rep nd hi' nr) fun a ⟨j, z⟩ => ?_
    by_cases hj : j = i
    · simp only [hj, if_true] at z; exact .inr z
    · simp only [hj, if_false] at z; exact .inl ⟨j, z⟩
  · rw [if_neg hi'] at post
    exact post.elim
theorem vgs_nil : VGs G X bs σ0 [] gNilV := by
  refine PGs.pre pgs_nil fun xs σ H Q ⟨R, ρ, Os, vs, O, rel, reps, nd, nr, pin, post⟩ => ?_
  unfold gNilV at post
  cases vs with
  | cons v vs => exact post.elim
  | nil =>
    cases reps
    exact ⟨rfl, post σ Os pin rfl (rel.weak fun a z => .inl z) fun a z => .inl z⟩
theorem vgs_cons {es : List Expr} {g : MG} {gs : MGs} (h1 : VG G X bs σ0 e g) (h2 : VGs G X bs σ0 es gs) (hs : (assignEach (e :: es) X.env).map (·.2) = assign e X.env :: (assignEach es X.env).map (·.2) := by rfl) : VGs G X bs σ0 (e :: es) (gConsV g gs) := by
  refine PGs.pre (pgs_cons h1 h2 hs) fun xs σ H Q ⟨R, ρ, Os, vs, O, rel, reps, nd, nr, pin, post⟩ => ?_
  unfold gConsV at post
  cases vs with
  | nil => exact post.elim
  | cons v vs =>
    dsimp only at post
    cases reps with
    | @cons x _ xs' _ O1 O2 r t =>
      obtain ⟨n1, n2, n3⟩ := List.nodup_append.mp nd
      have s1 : (fun a => R a ∨ a ∈ O1 ++ O2) = fun a => (R a ∨ a ∈ O2) ∨ a ∈ O1 := setEq fun a => by
        rw [List.mem_append]
        constructor
        · rintro (z | z | z)
          · exact .inl (.inl z)
          · exact .inr z
          · exact .inl (.inr z)
        · rintro ((z | z) | z)
          · exact .inl z
          · exact .inr (.inr z)
          · exact .inr (.inl z)
      rw [s1] at rel r t
      refine ⟨x, xs', rfl, fun a => R a ∨ a ∈ O2, ρ, Os, v, O1, rel, r, n1, fun a ha z => z.elim (nr a (List.mem_append_left _ ha)) fun z => n3 a ha a z rfl, pin, ?_⟩
      cases hg : g v ρ with
      | none => rw [hg] at post; exact post
      | some ρ' =>
        rw [hg] at post
        dsimp only at post
        intro σ' Os' pin' hl' rel' we'
        have hw : ∀ a, WW (fun a => R a ∨ a ∈ O2) Os' a → WW (fun a => (R a ∨ a ∈ O2) ∨ a ∈ O1) Os a := fun a z => by
          rcases z with z | z
          · exact .inl (.inl z)
          · exact (we' a z).elim .inr fun z => .inl (.inr z)
        refine ⟨R, ρ', Os', vs, O2, rel', t.mono (fun a o e nw => ⟨e, fun z => nw (hw a z)⟩) fun _ _ _ e => e, n2, fun a ha => nr a (List.mem_append_right _ ha), pin', ?_⟩
        cases hgs : gs vs ρ' with
        | none => rw [hgs] at post; exact post
        | some ρ2 =>
          rw [hgs] at post
          intro σ2 Os2 p2 l2 r2 w2
          refine post σ2 Os2 p2 (l2.trans hl') r2 fun a z => ?_
          rcases w2 a z with z | z
          · exact (we' a z).imp id fun z => List.mem_append_left _ z
          · exact .inr (List.mem_append_right _ z)
theorem vg_tup {es : List Expr} {k : Nat} {gs : MGs} {n : Nat} (hK : X.K = G.K) (hc : X.calm = true) (h : VGs G X bs σ0 es gs) (hn : (assignEach es X.env).length = n := by rfl) (hst : (assignEach es X.env).findIdx? (·.1) = none := by rfl) :
    VG G X bs σ0 (.Tuple es k pos) (gTupV gs n) := by
  refine PG.pre (pg_tup hc h hn hst) fun x σ H Q ⟨R, ρ, Os, v, O, rel, rep, nd, nr, pin, post⟩ => ?_
  unfold gTupV at post
  rw [hK]
  cases v with
  | tup vs =>
    dsimp only at post
    by_cases hl : vs.length = n
    · rw [if_pos hl] at post
      obtain ⟨a, xs, rfl, hq, reps⟩ := rep_tupT rep
      exact ⟨a, xs, rfl, hq, by rw [reps.length]; exact hl, R, ρ, Os, vs, O, rel, reps, nd, nr, pin, post⟩
    · rw [if_neg hl] at post
      exact post.elim
  | wtp vs =>
    dsimp only at post
    by_cases hl : vs.length = n
    · rw [if_pos hl] at post
      obtain ⟨a, xs, rfl, hq, reps⟩ := rep_wtp rep
      cases rep
      exact ⟨a, xs, rfl, hq, by rw [reps.length]; exact hl, R, ρ, Os, vs, [], rel, reps, nd, nr, pin, post⟩
    · rw [if_neg hl] at post
      exact post.elim
  | _ => exact post.elim
/-- target = value -/
def mAsg (m : ME) (g : MG) : MS := fun ρ => match m ρ with
  | .ok v ρ' => (match g v ρ' with
    | some ρ2 => .nx ρ2
    | none => .bad)
  | .exc e ρ' => .exc e ρ'
  | .bad => .bad
theorem tG_of {R : Addr → Prop} {σ : L2.St} {H H' : Hp} {Os Os' : Nat → List Addr} {ρ' : VEnv} {x : V} {v : Val} {O : List Addr} {g : MG} {Q : L2.St → Hp → Prop} (hr : ∀ a, R a → ∃ o, H a = some o ∧ ¬ We Os a) (rel : Rel G (Rp R true O) H' σ ρ' Os') (rep : Rep G (WW (Rp R true O) Os') H' x v O) (nd : O.Nodup)
    (k : KeepE H Os H' Os' (fun a => true = true ∧ a ∈ O)) (pin : PinB bs σ0 σ)
    (h : match g v ρ' with
      | some ρ2 => ∀ σ' Os2, PinB bs σ0 σ' → Rel G R H' σ' ρ2 Os2 → KeepE H Os H' Os2 (fun _ => False) → Q σ' H'
      | none => False) : tG G bs σ0 g x σ H' Q := by
  have e0 : Rp R true O = fun a => R a ∨ a ∈ O := setEq fun a => ⟨fun z => z.imp id fun z => z.2, fun z => z.imp id fun z => ⟨rfl, z⟩⟩
  rw [e0] at rel rep
  refine ⟨R, ρ', Os', v, O, rel, rep, nd, fun a ha z => let ⟨o, e, nw⟩ := hr a z; (k a o e nw).2.2 ⟨rfl, ha⟩, pin, ?_⟩
  cases hg : g v ρ' with
  | none => rw [hg] at h; exact h
  | some ρ2 =>
    rw [hg] at h
    exact fun σ' Os2 p _ r w => h σ' Os2 p r fun a o e nw => let ⟨e1, n1, n2⟩ := k a o e nw; ⟨e1, fun z => (w a z).elim n1 fun z => n2 ⟨rfl, z⟩, id⟩
theorem vs_asg {tg : Expr} {g : MG} (he : VE G X E p true e m) (hg : VG G X bs σ0 tg g) (hs : swapsWithSole [tg] e pos.line X.env = pure false := by rfl) (hw : swappedStores [tg] e X.env = pure none := by rfl) (h1 : (assignEach [tg] X.env).map (·.2) = [assign tg X.env] := by rfl) :
    VS G X E bs σ0 (.Assign [tg] e pos) (mAsg m g) := by
  refine PS.pre (ps_asg he hg hs hw h1) fun D σ H ⟨R, ρ, Os, rel, pin, post⟩ => ⟨R, ρ, Os, rel, ?_⟩
  refine PostS.post (s := true) (f := fun v ρ' => match g v ρ' with
    | some ρ2 => .nx ρ2
    | none => .bad) pin post fun v ρ' x H' Os' O _ post rel' rep nd k => ?_
  refine tG_of rel.hr rel' rep (nd rfl) k pin ?_
  cases hg : g v ρ' with
  | none => rw [hg] at post; exact post
  | some ρ2 => rw [hg] at post; exact fun σ' Os2 p r k => post σ' H' Os2 p r k
end
end VL
/-! VL, part K: a, b = x, y; for, while. -/
namespace VL
open PySem L2

def mPar (i j : Nat) (m1 m2 : ME) : MS := fun ρ => match evalM [m1, m2] ρ with
  | .ok [v, w] ρ' => if i < ρ'.length ∧ j < ρ'.length then .nx ((ρ'.set i (some v)).set j (some w)) else .bad
  | .ok _ _ => .bad
  | .exc e ρ' => .exc e ρ'
  | .bad => .bad
section
variable {G : Gam} {X : Cx} {E : WX} {bs : List Bool} {σ0 : L2.St} {e a b c : Expr} {st : Stmt} {rest s1 s2 : List Stmt} {pos : Pos} {p p1 p2 s : Bool} {m m1' m2' : ME} {m1 m2 : MS}
theorem vs_par {i j : Nat} {x y : Str} {px py pt : Pos} {kt k2 : Nat} {pt2 : Pos} (hc : X.calm = true) (hN : X.N.Nodup) (hi : X.N[i]? = some x) (hj : X.N[j]? = some y) (hij : i ≠ j) (hx : X.env.scope.names.lookup x = some .local) (hy : X.env.scope.names.lookup y = some .local)
    (ha : VE G X E p1 true a m1') (hb : VE G X E p2 true b m2') (hw : swappedStores [.Tuple [.Name x px, .Name y py] kt pt] (.Tuple [a, b] k2 pt2) X.env = pure (some [x, y])) (b1 : bs[i]? ≠ some true := by decide) (b2 : bs[j]? ≠ some true := by decide)
    (hs : swapsWithSole [.Tuple [.Name x px, .Name y py] kt pt] (.Tuple [a, b] k2 pt2) pos.line X.env = pure false := by rfl) (hst : starEach [a, b] X.env = (false, eval a X.env) :: starEach [b] X.env := by rfl) (hst2 : starEach [b] X.env = (false, eval b X.env) :: starEach [] X.env := by rfl) :
    VS G X E bs σ0 (.Assign [.Tuple [.Name x px, .Name y py] kt pt] (.Tuple [a, b] k2 pt2) pos) (mPar i j m1' m2') := by
  refine PS.pre (ps_par hc hN hi hj hij hx hy (pa_cons ha (pa_cons hb pa_nil hst2) hst) hw hs) fun D σ H ⟨R, ρ, Os, rel, pin, post⟩ => ?_
  have key := nest_of (G := G) (E := E) (σ := σ) (os := [⟨p1, true, m1'⟩, ⟨p2, true, m2'⟩]) rfl rel (K := fun vs H1 => ∃ v w, vs = [v, w] ∧ D.nx ((σ.set i (some v)).set j (some w)) H1) ?_
  · exact key
  rw [evalA_eq]
  unfold mPar at post
  simp only [List.map_cons, List.map_nil]
  cases he : evalM [m1', m2'] ρ with
  | bad => rw [he] at post; exact post
  | exc e ρ' => rw [he] at post; exact fun c d H' Os' rel rx k => post c d σ H' Os' pin rel rx k
  | ok vs ρ' =>
    rw [he] at post
    intro xs H1 Os1 Ol rel1 reps nd keep _
    match vs, reps, post with
    | [v, w], reps, post =>
      dsimp only at post
      by_cases hl : i < ρ'.length ∧ j < ρ'.length
      rotate_left
      · rw [if_neg hl] at post; exact post.elim
      rw [if_pos hl] at post
      cases reps with
      | @cons x1 _ O1 _ _ _ r1 t =>
        cases t with
        | @cons x2 _ O2 _ _ _ r2 t2 =>
          cases t2
          refine ⟨x1, x2, rfl, ?_⟩
          have es : stab [⟨p1, true, m1'⟩, ⟨p2, true, m2'⟩] [O1, O2] = O1 ++ (O2 ++ []) := rfl
          rw [es, List.append_nil] at rel1 r1 r2 nd keep
          obtain ⟨n1, n2, n3⟩ := List.nodup_append.mp nd
          have nr : ∀ a ∈ O1 ++ O2, ¬ R a := fun a ha z => let ⟨o, e, nw⟩ := rel.hr a z; (keep a o e nw).2.2 ha
          have s1 : (fun a => R a ∨ a ∈ O1 ++ O2) = fun a => (R a ∨ a ∈ O2) ∨ a ∈ O1 := setEq fun a => by
            rw [List.mem_append]
            constructor
            · rintro (z | z | z)
              · exact .inl (.inl z)
              · exact .inr z
              · exact .inl (.inr z)
            · rintro ((z | z) | z)
              · exact .inl z
              · exact .inr (.inr z)
              · exact .inr (.inl z)
          rw [s1] at rel1 r1 r2
          have q1 := rel1.put r1 n1 hl.1 fun a ha z => z.elim (nr a (List.mem_append_left _ ha)) fun z => n3 a ha a z rfl
          have r2' : Rep G (WW (fun a => R a ∨ a ∈ O2) fun j => if j = i then O1 else Os1 j) H1 x2 w O2 := r2.mono (fun a o e nw => ⟨e, fun z => nw (by
            rcases z with z | ⟨j', z⟩
            · exact .inl (.inl z)
            · by_cases hj' : j' = i
              · simp only [hj', if_true] at z; exact .inl (.inr z)
              · simp only [hj', if_false] at z; exact .inr ⟨j', z⟩)⟩) fun _ _ _ e => e
          have q2 := q1.put r2' n2 (i := j) (by rw [List.length_set]; exact hl.2) fun a ha => nr a (List.mem_append_right _ ha)
          refine post _ H1 _ ((pin.set b1).set b2) q2 fun a o e nw => ?_
          obtain ⟨e1, m1, m2⟩ := keep a o e nw
          refine ⟨e1, fun ⟨j', z⟩ => ?_, id⟩
          by_cases h1 : j' = j
          · simp only [h1, if_true] at z; exact m2 (List.mem_append_right _ z)
          · simp only [h1, if_false] at z
            by_cases h2 : j' = i
            · simp only [h2, if_true] at z; exact m2 (List.mem_append_left _ z)
            · simp only [h2, if_false] at z; exact m1 ⟨j', z⟩

/-! ### what is walked -/
/-- the iterator gives these trees, as long as nothing that nobody may change changes -/
def Walk (G : Gam) (W : Addr → Prop) (H : Hp) (J : It) (us : List Val) : Prop :=
  ∀ W' H', Keep W H W' H' → ∀ i, (us.length ≤ i → J.stop i H') ∧ ∀ u, us[i]? = some u → J.go i H' ∧ ∀ x H'', J.yld i H' x H'' → Same H' H'' ∧ ((∀ p, W' p → ∃ o, H' p = some o) → Rep G W' H'' x u [])
inductive RI where
  | ok (us : List Val) (ρ : VEnv) | exc (e : Exc) (ρ : VEnv) | bad
abbrev MI := VEnv → RI
def tI (G : Gam) (E : WX) (m : MI) : TI := fun σ H K => ∃ R ρ Os, Rel G R H σ ρ Os ∧ (match m ρ with
  | .ok us ρ' => ∀ J H' Os', Rel G R H' σ ρ' Os' → Walk G (WW R Os') H' J us → KeepE H Os H' Os' (fun _ => False) → K J H'
  | .exc e ρ' => ∀ c d H' Os', Rel G R H' σ ρ' Os' → RepX G (WW R Os') H' c d e → KeepE H Os H' Os' (fun _ => False) → E c d σ H'
  | .bad => False)
def VI (G : Gam) (X : Cx) (E : WX) (tg iter : Expr) (m : MI) : Prop := PI X tg iter (tI G E m)
theorem PI.pre {tg iter : Expr} {t t' : TI} (h : PI X tg iter t) (k : ∀ σ H K, t' σ H K → t σ H K) : PI X tg iter t' := ⟨fun pins s σ H K I q => h.run pins s σ H K I (k σ H K q)⟩

def forL (g : MG) (body : MS) : List Val → VEnv → RS
  | [], ρ => .nx ρ
  | u :: us, ρ => match g u ρ with
    | none => .bad
    | some ρ1 => match body ρ1 with
      | .nx ρ2 => forL g body us ρ2
      | .ct ρ2 => forL g body us ρ2
      | .bk ρ2 => .nx ρ2
      | .rt v ρ2 => .rt v ρ2
      | .exc e ρ2 => .exc e ρ2
      | .bad => .bad
def mFor (mi : MI) (g : MG) (body : MS) : MS := fun ρ => match mi ρ with
  | .ok us ρ' => forL g body us ρ'
  | .exc e ρ' => .exc e ρ'
  | .bad => .bad
theorem keep_of {R : Addr → Prop} {σ : L2.St} {H H' : Hp} {Os Os' : Nat → List Addr} {ρ : VEnv} (rel : Rel G R H σ ρ Os) (k : KeepE H Os H' Os' fun _ => False) : Keep (WW R Os) H (WW R Os') H' := fun a o e nw =>
  let ⟨e1, n1, _⟩ := k a o e fun z => nw (.inr z)
  ⟨e1, fun z => z.elim (fun z => nw (.inl z)) n1⟩
theorem vs_for {tg iter : Expr} {body : List Stmt} {mi : MI} {g : MG} {mb : MS} (hp : PassesOwn (model X.prog X.w) X.A X.env X.xe) (hc : X.calm = true) (hi : VI G X E tg iter mi) (hg : VG G X bs σ0 tg g) (hb : VSs G X E bs σ0 body mb) (hs : ∀ x, foldedSetIterable iter X.env x = pure x := by intro _; rfl) :
    VS G X E bs σ0 (.For tg iter body [] pos) (mFor mi g mb) := by
  refine PS.pre (ps_for hp hc hi hg hb hs) fun D σ H ⟨R, ρ, Os, rel, pin, post⟩ => ⟨R, ρ, Os, rel, ?_⟩
  unfold mFor at post
  cases hm : mi ρ with
  | bad => rw [hm] at post; exact post
  | exc e ρ' => rw [hm] at post; exact fun c d H' Os' rel rx k => post c d σ H' Os' pin rel rx k
  | ok us ρ' =>
    rw [hm] at post
    dsimp only at post
    intro J H1 Os1 rel1 walk keep1
    have post1 := PostS.later post keep1
    refine ⟨fun i n σ' H' => n = us.length - i ∧ i ≤ us.length ∧ ∃ ρ2 Os2, Rel G R H' σ' ρ2 Os2 ∧ PinB bs σ0 σ' ∧ KeepE H1 Os1 H' Os2 (fun _ => False) ∧ PostS G R E D bs σ0 H1 Os1 (forL g mb (us.drop i) ρ2), ⟨us.length, by simp, Nat.zero_le _, ρ', Os1, rel1, pin, KeepE.refl, by simpa using post1⟩, ?_⟩
    rintro i n σ' H' ⟨rfl, hile, ρ2, Os2, rel2, pin2, keep2, post2⟩
    obtain ⟨hstop, hgo⟩ := walk _ _ (keep_of rel1 keep2) i
    by_cases hlt : i < us.length
    · refine .inr ?_
      obtain ⟨go, yld⟩ := hgo us[i] (List.getElem?_eq_getElem hlt)
      refine ⟨go, fun σ3 H3 => i + 1 ≤ us.length ∧ ∃ ρ3 Os3, Rel G R H3 σ3 ρ3 Os3 ∧ PinB bs σ0 σ3 ∧ KeepE H1 Os1 H3 Os3 (fun _ => False) ∧ PostS G R E D bs σ0 H1 Os1 (forL g mb (us.drop (i + 1)) ρ3), fun σ3 H3 ⟨h1, h2⟩ => ⟨us.length - (i + 1), by omega, rfl, h1, h2⟩, fun x H'' y => ?_⟩
      obtain ⟨same, repw⟩ := yld x H'' y
      have rep := repw fun p hp => rel2.ww hp
      have rel2' : Rel G R H'' σ' ρ2 Os2 := rel2.grow same (fun a z => .inl z) fun a z => let ⟨o, e⟩ := rel2.rt a z; ⟨o, same a o e⟩
      have keep2' : KeepE H1 Os1 H'' Os2 fun _ => False := keep2.grow same fun a z => z.elim
      rw [List.drop_eq_getElem_cons hlt] at post2
      unfold forL at post2
      have e0 : R = fun a => R a ∨ a ∈ ([] : List Addr) := setEq fun a => ⟨.inl, fun z => z.elim id fun z => nomatch z⟩
      have relE : Rel G (fun a => R a ∨ a ∈ ([] : List Addr)) H'' σ' ρ2 Os2 := e0 ▸ rel2'
      have repE : Rep G (WW (fun a => R a ∨ a ∈ ([] : List Addr)) Os2) H'' x us[i] [] := e0 ▸ rep
      refine ⟨R, ρ2, Os2, us[i], [], relE, repE, List.nodup_nil, fun a z => (nomatch z), pin2, ?_⟩
      cases hg : g us[i] ρ2 with
      | none => rw [hg] at post2; exact post2
      | some ρ3 =>
        rw [hg] at post2
        dsimp only at post2
        intro σ3 Os3 pin3 _ rel3 we3
        have keep3 : KeepE H1 Os1 H'' Os3 fun _ => False := fun a o e nw => let ⟨e1, n1, n2⟩ := keep2' a o e nw; ⟨e1, fun z => (we3 a z).elim n1 (fun z => nomatch z), n2⟩
        refine ⟨R, ρ3, Os3, rel3, pin3, ?_⟩
        refine PostS.later (H := H1) (Os := Os1) ?_ keep3
        cases hbm : mb ρ3 with
        | bad => rw [hbm] at post2; exact post2
        | exc e ρ4 => rw [hbm] at post2; exact post2
        | rt v ρ4 => rw [hbm] at post2; exact post2
        | bk ρ4 => rw [hbm] at post2; exact post2
        | nx ρ4 => rw [hbm] at post2; exact fun σ4 H4 Os4 p4 r4 k4 => ⟨hlt, ρ4, Os4, r4, p4, k4, post2⟩
        | ct ρ4 => rw [hbm] at post2; exact fun σ4 H4 Os4 p4 r4 k4 => ⟨hlt, ρ4, Os4, r4, p4, k4, post2⟩
    · refine .inl ⟨hstop (by omega), ?_⟩
      have e : us.drop i = [] := List.drop_eq_nil_of_le (by omega)
      rw [e] at post2
      exact post2 σ' H' Os2 pin2 rel2 keep2

/-! ### while: with a bound on the turns -/
def whileN (c : ME) (body : MS) : Nat → VEnv → RS
  | 0, _ => .bad
  | n + 1, ρ => match c ρ with
    | .ok (.bl t) ρ1 => if t = true then (match body ρ1 with
      | .nx ρ2 => whileN c body n ρ2
      | .ct ρ2 => whileN c body n ρ2
      | .bk ρ2 => .nx ρ2
      | .rt v ρ2 => .rt v ρ2
      | .exc e ρ2 => .exc e ρ2
      | .bad => .bad) else .nx ρ1
    | .ok _ _ => .bad
    | .exc e ρ1 => .exc e ρ1
    | .bad => .bad
def mWhile (fuel : VEnv → Nat) (c : ME) (body : MS) : MS := fun ρ => whileN c body (fuel ρ) ρ
theorem vs_while {body : List Stmt} {mb : MS} (fuel : VEnv → Nat) (hp : PassesOwn (model X.prog X.w) X.A X.env X.xe) (hc : VT G X E p c m) (hb : VSs G X E bs σ0 body mb) : VS G X E bs σ0 (.While c body [] pos) (mWhile fuel m mb) := by
  refine PS.pre (ps_while hp hc hb) fun D σ H ⟨R, ρ, Os, rel, pin, post⟩ => ?_
  unfold mWhile at post
  refine ⟨fun n σ' H' => ∃ ρ2 Os2, Rel G R H' σ' ρ2 Os2 ∧ PinB bs σ0 σ' ∧ KeepE H Os H' Os2 (fun _ => False) ∧ PostS G R E D bs σ0 H Os (whileN m mb n ρ2), ⟨fuel ρ, ρ, Os, rel, pin, KeepE.refl, post⟩, ?_⟩
  rintro n σ' H' ⟨ρ2, Os2, rel2, pin2, keep2, post2⟩
  refine ⟨R, ρ2, Os2, rel2, ?_⟩
  cases n with
  | zero => exact post2.elim
  | succ n =>
    unfold whileN at post2
    cases hm : m ρ2 with
    | bad => rw [hm] at post2; exact post2
    | exc e ρ3 => rw [hm] at post2; exact fun c d H3 Os3 rel3 rx k => post2 c d σ' H3 Os3 pin2 rel3 rx (keep2.trans k)
    | ok v ρ3 =>
      rw [hm] at post2
      cases v with
      | bl t =>
        intro H3 Os3 rel3 k3 _
        have keep3 := keep2.trans k3
        cases t with
        | false => exact post2 σ' H3 Os3 pin2 rel3 keep3
        | true =>
          simp only [if_true] at post2
          refine ⟨fun σ4 H4 => ∃ ρ4 Os4, Rel G R H4 σ4 ρ4 Os4 ∧ PinB bs σ0 σ4 ∧ KeepE H Os H4 Os4 (fun _ => False) ∧ PostS G R E D bs σ0 H Os (whileN m mb n ρ4), fun σ4 H4 h4 => ⟨n, by omega, h4⟩, R, ρ3, Os3, rel3, pin2, ?_⟩
          refine PostS.later (H := H) (Os := Os) ?_ keep3
          cases hbm : mb ρ3 with
          | bad => rw [hbm] at post2; exact post2
          | exc e ρ4 => rw [hbm] at post2; exact post2
          | rt v ρ4 => rw [hbm] at post2; exact post2
          | bk ρ4 => rw [hbm] at post2; exact post2
          | nx ρ4 => rw [hbm] at post2; exact fun σ4 H4 Os4 p4 r4 k4 => ⟨ρ4, Os4, r4, p4, k4, post2⟩
          | ct ρ4 => rw [hbm] at post2; exact fun σ4 H4 Os4 p4 r4 k4 => ⟨ρ4, Os4, r4, p4, k4, post2⟩
      | _ => exact post2.elim

/-! ### ranges, frozen lists and tuples -/
def mRng1 (m : ME) : MI := fun ρ => match m ρ with
  | .ok (.int j) ρ' => if -(2 ^ 62) ≤ j ∧ j < 2 ^ 62 then .ok ((List.range j.toNat).map fun (i : Nat) => Val.int i) ρ' else .bad
  | .ok _ _ => .bad
  | .exc e ρ' => .exc e ρ'
  | .bad => .bad
def mRng2 (m1 m2 : ME) : MI := fun ρ => match evalM [m1, m2] ρ with
  | .ok [.int i, .int j] ρ' => if -(2 ^ 62) ≤ i ∧ i < 2 ^ 62 ∧ -(2 ^ 62) ≤ j ∧ j < 2 ^ 62 then .ok ((List.range (j - i).toNat).map fun (k : Nat) => Val.int (i + k)) ρ' else .bad
  | .ok _ _ => .bad
  | .exc e ρ' => .exc e ρ'
  | .bad => .bad
/-- the items of a frozen thing -/
def mItems (m : ME) : MI := fun ρ => match m ρ with
  | .ok (.lst false us) ρ' => if fzs us = true then .ok us ρ' else .bad
  | .ok (.tup us) ρ' => if fzs us = true then .ok us ρ' else .bad
  | .ok (.wtp us) ρ' => .ok us ρ'
  | .ok (.scr ns) ρ' => .ok (ns.map .int) ρ'
  | .ok _ _ => .bad
  | .exc e ρ' => .exc e ρ'
  | .bad => .bad
theorem walk_rng {W : Addr → Prop} {H : Hp} (i : Int) (n : Nat) : Walk G W H (Itr i n) ((List.range n).map fun (k : Nat) => Val.int (i + k)) := by
  intro W' H' _ j
  refine ⟨fun h => (show n ≤ j from by simpa using h), fun u hu => ?_⟩
  rw [List.getElem?_map] at hu
  have hj : j < n := by
    by_cases h : j < n
    · exact h
    · rw [List.getElem?_eq_none (by simpa using h)] at hu; cases hu
  rw [List.getElem?_range hj] at hu
  cases hu
  exact ⟨hj, fun x H'' ⟨e1, e2⟩ => by subst e1 e2; exact ⟨fun _ _ e => e, fun _ => .int _⟩⟩
theorem vi_rng1 {tg a : Expr} {x1 : Pos} (hg : Gl X "range") (hm : X.mg "range" = none) (ha : VE G X E p s a m) (hs : starEach [a] X.env = [(false, eval a X.env)] := by rfl) (hs2 : starEach [a] X.env = (false, eval a X.env) :: starEach [] X.env := by rfl) : VI G X E tg (.Call (.Name "range" x1) [a] [] pos) (mRng1 m) := by
  refine PI.pre (pi_range1 hg hm (pa_cons ha pa_nil hs2) hs) fun σ H K ⟨R, ρ, Os, rel, post⟩ => ⟨R, ρ, Os, rel, ?_⟩
  unfold mRng1 at post
  cases hm : m ρ with
  | bad => rw [hm] at post; exact post
  | exc e ρ' => rw [hm] at post; exact post
  | ok v ρ' =>
    rw [hm] at post
    cases v with
    | int j =>
      dsimp only at post
      intro x H' Os' O rel' rep nd k _
      cases rep
      by_cases h : -(2 ^ 62) ≤ j ∧ j < 2 ^ 62
      · rw [if_pos h] at post
        refine ⟨j, rfl, h.1, h.2, post _ H' Os' (rel'.weak fun a z => .inl z) ?_ (k.imp fun _ z => z.elim)⟩
        have := walk_rng (G := G) (W := WW R Os') (H := H') 0 j.toNat
        simpa using this
      · rw [if_neg h] at post; exact post.elim
    | _ => exact post.elim
theorem walk_lst {W : Addr → Prop} {H : Hp} {a : Addr} {xs : List V} {us : List Val} (h : (Fz W H a (.lst xs)) ∨ (∃ o, H a = some (.frz o (.lst xs)) ∧ ¬ W a) ∨ SqL G.K (fun _ => none) a xs) (r : Reps G W H xs us []) : Walk G W H (Itl G.K a) us := by
  intro W' H' kp i
  have hl := r.length
  have h' : H' a = some (.lst xs) ∨ (∃ o, H' a = some (.frz o (.lst xs))) ∨ SqL G.K (fun _ => none) a xs := h.imp (fun z => (kp _ _ z.1 z.2).1) fun z => z.imp (fun ⟨o, e, nw⟩ => ⟨o, (kp _ _ e nw).1⟩) id
  have hq : SqL G.K H' a xs := h'.elim (fun e => Or.inl (Or.inl e)) fun z => z.elim (fun ⟨o, e⟩ => Or.inl (Or.inr ⟨o, e⟩)) fun z => z.elim (fun q => by rcases q with q | ⟨o, q⟩ <;> cases q) .inr
  refine ⟨fun h => ⟨xs, hq, by omega⟩, fun u hu => ?_⟩
  obtain ⟨x, O1, Oi, O2, e1, e2, q⟩ := r.split hu
  have eO : Oi = [] := by
    have := e2.symm
    simp at this
    exact this.2.1
  subst eO
  refine ⟨⟨xs, x, hq, e1⟩, fun y H'' ⟨e3, e4⟩ => ?_⟩
  subst e3
  have := e4 xs hq
  rw [e1] at this
  cases this
  exact ⟨fun _ _ e => e, fun _ => q.mono kp fun _ z => nomatch z⟩

theorem Reps.one {W : Addr → Prop} {H : Hp} {xs : List V} {us : List Val} (r : Reps G W H xs us []) {i : Nat} {u : Val} (hu : us[i]? = some u) : ∃ x, xs[i]? = some x ∧ Rep G W H x u [] := by
  obtain ⟨x, O1, Oi, O2, e1, e2, q⟩ := r.split hu
  have eO : Oi = [] := by
    have := e2.symm
    simp at this
    exact this.2.1
  subst eO
  exact ⟨x, e1, q⟩
theorem walk_tup {W : Addr → Prop} {H : Hp} {a : Addr} {xs : List V} {us : List Val} (h : Fz W H a (.tup xs) ∨ SqT G.K (fun _ => none) a xs) (r : Reps G W H xs us []) : Walk G W H (Itt G.K a) us := by
  intro W' H' kp i
  have hl := r.length
  have hq : SqT G.K H' a xs := h.elim (fun z => .inl (.inl (kp _ _ z.1 z.2).1)) fun z => z.elim (fun q => by rcases q with q | ⟨o, q⟩ <;> cases q) .inr
  refine ⟨fun h => ⟨xs, hq, by omega⟩, fun u hu => ?_⟩
  obtain ⟨x, e1, q⟩ := r.one hu
  refine ⟨⟨xs, x, hq, e1⟩, fun y H'' ⟨e3, e4⟩ => ?_⟩
  subst e3
  have := e4 xs hq
  rw [e1] at this
  cases this
  exact ⟨fun _ _ e => e, fun _ => q.mono kp fun _ z => nomatch z⟩
/-- over a list or a tuple, whatever expression gives it; the items' trees; L: it is a list -/
def mItemsL (m : ME) : MI := fun ρ => match m ρ with
  | .ok (.lst false us) ρ' => .ok us ρ'
  | .ok (.scr ns) ρ' => .ok (ns.map .int) ρ'
  | .ok _ _ => .bad
  | .exc e ρ' => .exc e ρ'
  | .bad => .bad
def mItemsT (m : ME) : MI := fun ρ => match m ρ with
  | .ok (.tup us) ρ' => if fzs us = true then .ok us ρ' else .bad
  | .ok (.wtp us) ρ' => .ok us ρ'
  | .ok _ _ => .bad
  | .exc e ρ' => .exc e ρ'
  | .bad => .bad
theorem Rep.weakW {W W' : Addr → Prop} {H : Hp} {x : V} {v : Val} {O : List Addr} (r : Rep G W H x v O) (h : ∀ a, W' a → W a) : Rep G W' H x v O := r.mono (fun a o e nw => ⟨e, fun z => nw (h a z)⟩) fun _ _ _ e => e
theorem Reps.weakW {W W' : Addr → Prop} {H : Hp} {x : List V} {v : List Val} {O : List Addr} (r : Reps G W H x v O) (h : ∀ a, W' a → W a) : Reps G W' H x v O := r.mono (fun a o e nw => ⟨e, fun z => nw (h a z)⟩) fun _ _ _ e => e
theorem WW.up {R : Addr → Prop} {Os : Nat → List Addr} {s : Bool} {O : List Addr} : ∀ a, WW R Os a → WW (Rp R s O) Os a := fun a z => z.imp .inl id
theorem vi_list {tg : Expr} (hK : X.K = G.K) (ha : VE G X E p s a m) : VI G X E tg a (mItemsL m) := by
  refine PI.pre (pi_list ha) fun σ H K ⟨R, ρ, Os, rel, post⟩ => ⟨R, ρ, Os, rel, ?_⟩
  unfold mItemsL at post
  cases hm : m ρ with
  | bad => rw [hm] at post; exact post
  | exc e ρ' => rw [hm] at post; exact post
  | ok v ρ' =>
    rw [hm] at post
    intro x H' Os' O rel' rep nd k _
    rw [hK]
    have rl : Rel G R H' σ ρ' Os' := rel'.weak fun a z => .inl z
    have kl : KeepE H Os H' Os' fun _ => False := k.imp fun _ z => z.elim
    cases v with
    | lst o us =>
      cases o with
      | true => exact post.elim
      | false =>
        cases rep with
        | @lstF b xs _ h r => exact ⟨b, rfl, ⟨xs, .inl (.inl h.1)⟩, post _ H' Os' rl (walk_lst (xs := xs) (.inl ⟨h.1, fun z => h.2 (WW.up _ z)⟩) (r.weakW WW.up)) kl⟩
    | scr ns =>
      cases rep with
      | @scr b _ h =>
        refine ⟨b, rfl, ⟨ns.map .int, h.elim (fun ⟨o, e, _⟩ => Or.inl (Or.inr ⟨o, e⟩)) (fun z => z.elim (fun q => by rcases q with q | ⟨o, q⟩ <;> cases q) .inr)⟩, post _ H' Os' rl (walk_lst (xs := ns.map .int) (.inr (h.imp (fun ⟨o, e, nw⟩ => ⟨o, e, fun z => nw (WW.up _ z)⟩) id)) (Reps.of_ints ns)) kl⟩
    | _ => exact post.elim
theorem vi_tup {tg : Expr} (hK : X.K = G.K) (ha : VE G X E p s a m) : VI G X E tg a (mItemsT m) := by
  refine PI.pre (pi_tup ha) fun σ H K ⟨R, ρ, Os, rel, post⟩ => ⟨R, ρ, Os, rel, ?_⟩
  unfold mItemsT at post
  cases hm : m ρ with
  | bad => rw [hm] at post; exact post
  | exc e ρ' => rw [hm] at post; exact post
  | ok v ρ' =>
    rw [hm] at post
    intro x H' Os' O rel' rep nd k _
    rw [hK]
    have rl : Rel G R H' σ ρ' Os' := rel'.weak fun a z => .inl z
    have kl : KeepE H Os H' Os' fun _ => False := k.imp fun _ z => z.elim
    cases v with
    | tup us =>
      cases rep with
      | @tup b xs _ O h r =>
        dsimp only at post
        by_cases hf : fzs us = true
        · rw [if_pos hf] at post
          exact ⟨b, rfl, ⟨xs, .inl (.inl h.1)⟩, post _ H' Os' rl (walk_tup (xs := xs) (.inl ⟨h.1, fun z => h.2 (WW.up _ z)⟩) ((r.fz hf).weakW WW.up)) kl⟩
        · rw [if_neg hf] at post; exact post.elim
    | wtp us =>
      cases rep with
      | @wtp b xs _ h r =>
        exact ⟨b, rfl, ⟨xs, h.elim (fun q => by rcases q with q | ⟨o, q⟩ <;> cases q) .inr⟩, post _ H' Os' rl (walk_tup (xs := xs) (.inr h) (r.weakW WW.up)) kl⟩
    | _ => exact post.elim
/-- nobody changes the result any more -/
def mFz (m : ME) : ME := fun ρ => match m ρ with
  | .ok v ρ' => .ok v.frz ρ'
  | .exc e ρ' => .exc e ρ'
  | .bad => .bad
theorem Post.fz {R : Addr → Prop} {σ : L2.St} {H : Hp} {Os : Nat → List Addr} {ρ : VEnv} {Q : VK} {r : RE} (rel0 : ∀ a, R a → ∃ o, H a = some o ∧ ¬ We Os a)
    (post : Post G R E σ H Os p true ρ Q (match (generalizing := false) r with | .ok v ρ' => .ok v.frz ρ' | .exc e ρ' => .exc e ρ' | .bad => .bad)) : Post G R E σ H Os p true ρ Q r := by
  cases r with
  | bad => exact post
  | exc e ρ' => exact post
  | ok v ρ' =>
    intro x H' Os' O rel rep nd k pure
    have hw : ∀ a, Rp R true [] a → Rp R true O a := fun a z => .inl (z.elim id fun z => nomatch z.2)
    refine post x H' Os' [] (rel.weak hw) (rep.freeze (fun a nw z => nw (z.imp (hw a) id)) fun a ha z => ?_) (fun _ => List.nodup_nil) (k.imp fun a z => nomatch z.2) pure
    rcases z with z | z
    · obtain ⟨o, e, nw⟩ := rel0 a (z.elim id fun z => nomatch z.2)
      exact (k a o e nw).2.2 ⟨rfl, ha⟩
    · exact rel.nr (.inr ⟨rfl, ha⟩) z
theorem ve_fz (h : VE G X E p true e m) : VE G X E p true e (mFz m) := PE.pre h fun σ H Q ⟨R, ρ, Os, rel, post⟩ => ⟨R, ρ, Os, rel, post.fz rel.hr⟩
end
end VL
/-! VL, part M: calls by name, of methods, of classes; properties; attributes; a def by its body. -/
namespace VL
open PySem L2

/-- a callee that is known: what it promises of the values that it is called with -/
def CalR (X : Cx) (f : Value) (r : L2.St → List V → Hp → VK → Prop) : Prop :=
  ∀ (pins : List (Addr × Obj)) (s : Shared) (σ : L2.St) (H : Hp) (xs : List V) (us : List Value) (Q : VK), Inv X pins σ H s → Vals xs us → r σ xs H Q → wpAny (model X.prog X.w) X.A (call f us) (EP X pins σ Q) X.xe s
/-- .. and is an MF -/
def CalV (G : Gam) (X : Cx) (E : WX) (f : Value) (n : Nat) (mf : MF) (dks : List (V × Val)) : Prop := CalR X f fun σ xs H Q => spV G n mf (xs ++ dks.map (·.1)) H Q (WE E σ)
def VAg (G : Gam) (X : Cx) (E : WX) (es : List Expr) (as : List Arg) : Prop := PA X es fun σ H K => nestG G E as σ H K
section
variable {G : Gam} {X : Cx} {E : WX} {es : List Expr} {e o : Expr} {as : List Arg} {p s : Bool} {m : ME} {pos apos px : Pos}
theorem vg_nil : VAg G X E [] [] := pa_nil
theorem vg_v (h : VE G X E p s e m) (t : VAg G X E es as) (hs : starEach (e :: es) X.env = (false, eval e X.env) :: starEach es X.env := by rfl) : VAg G X E (e :: es) (.v ⟨p, s, m⟩ :: as) := pa_cons h t hs
theorem vg_r {i : Nat} (h : PE X e (tVar i)) (t : VAg G X E es as) (hs : starEach (e :: es) X.env = (false, eval e X.env) :: starEach es X.env := by rfl) : VAg G X E (e :: es) (.r i :: as) := pa_cons h t hs

/-- the defaults as arguments -/
def dArgs (dks : List (V × Val)) : List Arg := dks.map fun q => Arg.k q.1 q.2
def DflL (G : Gam) (dks : List (V × Val)) : Prop := ∀ q ∈ dks, ∀ W H, Rep G W H q.1 q.2 []
theorem dfl_of {dks : List (V × Val)} (h : DflL G dks) : Dfl G (dArgs dks) := by
  induction dks with
  | nil => trivial
  | cons q t ih => exact ⟨h q List.mem_cons_self, ih fun z hz => h z (List.mem_cons_of_mem _ hz)⟩
def noK : List Arg → Bool
  | [] => true
  | .k _ _ :: _ => false
  | _ :: as => noK as
theorem dfl_app {dks : List (V × Val)} (h : DflL G dks) : ∀ {as : List Arg}, noK as = true → Dfl G (as ++ dArgs dks)
  | [], _ => dfl_of h
  | .v o :: as, z => dfl_app h (as := as) z
  | .r i :: as, z => dfl_app h (as := as) z
  | .k _ _ :: as, z => by cases z
theorem vals_k (dks : List (V × Val)) : vals (dArgs dks) = [] := by
  induction dks with
  | nil => rfl
  | cons q t ih => exact ih
theorem vals_app {dks : List (V × Val)} : ∀ {as : List Arg}, vals (as ++ dArgs dks) = vals as
  | [] => vals_k dks
  | .v o :: as => congrArg (o :: ·) (vals_app (as := as))
  | .r i :: as => vals_app (as := as)
  | .k _ _ :: as => vals_app (as := as)
/-- what any call comes to -/
theorem call_dk {mf : MF} {n : Nat} {dks : List (V × Val)} {σ : L2.St} {H : Hp} {Q : VK} (hd : DflL G dks) (hk : noK as = true) (hs : (vals as).all (·.s) = true) (hn : as.length + dks.length = n) (h : rd G E (argsP (as ++ dArgs dks)) true (mCall mf (as ++ dArgs dks)) σ H Q) :
    nestG G E as σ H (fun xs H1 => spV G n mf (xs ++ dks.map (·.1)) H1 Q (WE E σ)) := by
  have := call_of (n := n) (dfl_app hd hk) (by rw [vals_app]; exact hs) (by simp [dArgs, hn]) h
  exact nestG_app (K := fun xs H1 => spV G n mf xs H1 Q (WE E σ)) this
/-- f(e, ..) -/
theorem ve_call {x : Str} {u : Value} {n : Nat} {mf : MF} {dks : List (V × Val)} (hc : CalV G X E u n mf dks) (hg : Gl X x) (hm : X.mg x = some u) (hk : PySem.W.keepIn X.K u = true) (ha : VAg G X E (e :: es) as) (hd : DflL G dks) (hs : (vals as).all (·.s) = true := by rfl) (hnk : noK as = true := by rfl) (hn : as.length + dks.length = n := by rfl)
    (hdb : (x == ("__debug__" : Str)) = false := by decide) (he : starEach (e :: es) X.env = (false, eval e X.env) :: starEach es X.env := by rfl) (hpl : (backTo pos (starEach es X.env)).any (·.1) = false := by rfl) :
    VE G X E (argsP (as ++ dArgs dks)) true (.Call (.Name x px) (e :: es) [] pos) (mCall mf (as ++ dArgs dks)) := by
  refine ⟨fun pins s1 σ H Q I h => wpAny_Call_Name_kw (ld_glob I hg hm (PySem.W.callWith_K (h₀ := X.base) I.ok.mod.kin hk ?_ he hpl) hdb)⟩
  exact thn (ha.run pos pins s1 σ H _ I (call_dk hd hnk hs hn h)) fun us s2 ⟨xs, H1, I1, r, q⟩ => ⟨I1.kIn, hc pins s2 σ H1 xs us Q I1 r q⟩
/-- f() -/
theorem ve_call0 {x : Str} {u : Value} {n : Nat} {mf : MF} {dks : List (V × Val)} (hc : CalV G X E u n mf dks) (hg : Gl X x) (hm : X.mg x = some u) (hk : PySem.W.keepIn X.K u = true) (hd : DflL G dks) (hn : dks.length = n := by rfl) (hdb : (x == ("__debug__" : Str)) = false := by decide) :
    VE G X E (argsP (dArgs dks)) true (.Call (.Name x px) [] [] pos) (mCall mf (dArgs dks)) := by
  refine ⟨fun pins s1 σ H Q I h => wpAny_Call_Name_kw (ld_glob I hg hm (PySem.W.callWith_K0 I.kIn hk ?_) hdb)⟩
  exact hc pins s1 σ H [] [] Q I .nil (call_dk (as := []) (n := n) hd rfl rfl (by simpa using hn) h)

/-! ### a def, a class -/
theorem cal_fn {k : Nat} {f : Addr} {fd : FuncData} {ps : List Str} {n : Nat} {mf : MF} {dks : List (V × Val)} {ds : List Value} (F : FnOk X.prog X.w X.K X.mg X.base (L2.CX X.prog X.w) k f fd ps (spV G n mf)) (hr : Room k X.A) (hb : Binds X.K fd ps ds) (hd : Vals (dks.map (·.1)) ds) (tk : Takes X E) : CalV G X E (.ref f) n mf dks :=
  fun pins s1 σ H xs us Q I r h => run_fnSD (E := WE E) F hr hb hd (passAt tk σ) I r h
/-- a new object: what __init__ makes of an empty one -/
def mMake (c : Nat) (mf : MF) : MF := fun vs => match mf (.obj true c [] [] :: vs) with
  | .ok .non (some self :: fs) => .ok self fs
  | .exc e (_ :: fs) => .exc e fs
  | _ => .bad
theorem rel_obj {R : Addr → Prop} {H : Hp} {xs : List V} {vs : List Val} {Oa : Nat → List Addr} (rel : Rel G R H (xs.map some) (vs.map some) Oa) {c : Nat} {C x dx : Addr} (hc : G.cn c = some C) (hx : H x = none) (hdx : H dx = none) (hne : dx ≠ x) :
    Rel G R (upd (upd H dx (.own x)) x (.ins C dx [])) ((V.ref x :: xs).map some) ((Val.obj true c [] [] :: vs).map some) (fun j => match j with | 0 => [x] | j + 1 => Oa j) := by
  have same : Same H (upd (upd H dx (.own x)) x (.ins C dx [])) := (same_upd hdx).trans (same_upd (by rw [upd_ne hne.symm]; exact hx))
  have we : ∀ a, WW R (fun j => match j with | 0 => [x] | j + 1 => Oa j) a → WW R Oa a ∨ H a = none := fun a z => by
    rcases z with z | ⟨j, z⟩
    · exact .inl (.inl z)
    · cases j with
      | zero => exact .inr (by rw [List.mem_singleton.mp z]; exact hx)
      | succ j => exact .inl (.inr ⟨j, z⟩)
  have hx0 : ∀ i, x ∉ Oa i := fun i hm => by obtain ⟨o, e⟩ := rel.there x hm; rw [hx] at e; cases e
  refine ⟨by simpa using rel.len, fun i v hv => ?_, fun i hi => ?_, fun i => ?_, fun i j a ha hb => ?_, fun i a ha z => ?_, fun a z => let ⟨o, e⟩ := rel.rt a z; ⟨o, same a o e⟩⟩
  · cases i with
    | zero =>
      simp at hv
      subst hv
      exact ⟨.ref x, rfl, .objO (fs := []) upd_same hc rfl .nil⟩
    | succ i =>
      obtain ⟨y, e, r⟩ := rel.rep i v (by simpa using hv)
      exact ⟨y, by simpa using e, r.mono (fun a o e nw => ⟨same a o e, fun z => (we a z).elim nw fun z => by rw [e] at z; cases z⟩) fun a _ o e => same a o e⟩
  · cases i with
    | zero => exact absurd rfl (hi (.obj true c [] []))
    | succ i => exact rel.nil i fun v hv => hi v (by simpa using hv)
  · cases i with
    | zero => simp
    | succ i => exact rel.nd i
  · cases i with
    | zero =>
      cases j with
      | zero => rfl
      | succ j => exact absurd ((List.mem_singleton.mp ha) ▸ hb) (hx0 j)
    | succ i =>
      cases j with
      | zero => exact absurd ((List.mem_singleton.mp hb) ▸ ha) (hx0 i)
      | succ j => exact congrArg (· + 1) (rel.dj i j a ha hb)
  · cases i with
    | zero =>
      obtain ⟨o, e⟩ := rel.rt a z
      rw [List.mem_singleton.mp ha, hx] at e; cases e
    | succ i => exact rel.dr i a ha z
/-- behind __init__: the object is the result -/
theorem rel_made {R : Addr → Prop} {H : Hp} {x : V} {xs : List V} {self : Val} {fs : VEnv} {Oa : Nat → List Addr} {s : Bool} {O : List Addr} (rel : Rel G (Rp R s O) H ((x :: xs).map some) (some self :: fs) Oa) :
    Rel G (Rp R true (Oa 0)) H (xs.map some) fs (fun j => Oa (j + 1)) ∧ Rep G (WW (Rp R true (Oa 0)) (fun j => Oa (j + 1))) H x self (Oa 0) ∧ (Oa 0).Nodup := by
  have t := Rel.tail rel
  have t1 : Rel G (Rp R true (Oa 0)) H (xs.map some) fs (fun j => Oa (j + 1)) := t.weak fun a z => z.elim (fun z => .inl (.inl z)) fun z => .inr z.2
  obtain ⟨y, e, r⟩ := rel.rep 0 self rfl
  have e' : x = y := by simpa using e
  subst e'
  refine ⟨t1, r.weakW fun a z => ?_, rel.nd 0⟩
  rcases z with (z | z) | ⟨j, z⟩
  · exact .inl (.inl z)
  · exact .inr ⟨0, z.2⟩
  · exact .inr ⟨j + 1, z⟩
theorem sp_make {n c : Nat} {C : Addr} {mf : MF} {xs : List V} {H : Hp} {Q : VK} {E0 : XK} (hc : G.cn c = some C) (h : spV G n (mMake c mf) xs H Q E0) {x dx : Addr} (hx : H x = none) (hdx : H dx = none) (hne : dx ≠ x) :
    spV G (n + 1) mf (.ref x :: xs) (upd (upd H dx (.own x)) x (.ins C dx [])) (fun v H2 => v = .non ∧ Q (.ref x) H2) E0 := by
  obtain ⟨hl, R, vs, Oa, rel, post⟩ := h
  refine ⟨by simp [hl], R, _, _, rel_obj rel hc hx hdx hne, ?_⟩
  have same : Same H (upd (upd H dx (.own x)) x (.ins C dx [])) := (same_upd hdx).trans (same_upd (by rw [upd_ne hne.symm]; exact hx))
  have k0 : ∀ {H2 : Hp} {Os2 : Nat → List Addr} {O : Addr → Prop}, KeepE (upd (upd H dx (.own x)) x (.ins C dx [])) (fun j => match j with | 0 => [x] | j + 1 => Oa j) H2 Os2 O → ∀ a o, H a = some o → ¬ We Oa a → H2 a = some o ∧ ¬ We Os2 a ∧ ¬ O a := fun k a o e nw => k a o (same a o e) fun ⟨j, z⟩ => by
    cases j with
    | zero => rw [List.mem_singleton.mp z, hx] at e; cases e
    | succ j => exact nw ⟨j, z⟩
  unfold mMake at post
  cases hm : mf (.obj true c [] [] :: vs) with
  | bad => rw [hm] at post; exact post
  | exc e fs =>
    rw [hm] at post
    cases fs with
    | nil => exact post.elim
    | cons f fs =>
      intro cc d H2 Os2 rel2 rx k
      have rel2' : Rel G R H2 (some (V.ref x) :: xs.map some) (f :: fs) Os2 := rel2
      have t := Rel.tail rel2'
      refine post cc d H2 (fun j => Os2 (j + 1)) (t.weak fun a z => .inl z) (rx.mono fun a o e nw => ⟨e, fun z => nw (z.imp id fun ⟨j, z⟩ => ⟨j + 1, z⟩)⟩) fun a o e nw => ?_
      obtain ⟨e1, n1, n2⟩ := k0 k a o e nw
      exact ⟨e1, fun ⟨j, z⟩ => n1 ⟨j + 1, z⟩, n2⟩
  | ok v fs =>
    rw [hm] at post
    cases v with
    | non =>
      cases fs with
      | nil => exact post.elim
      | cons f fs =>
        cases f with
        | none => exact post.elim
        | some self =>
          intro y H2 Os2 O rel2 rep2 nd2 k _
          cases rep2
          refine ⟨rfl, ?_⟩
          obtain ⟨r1, r2, r3⟩ := rel_made rel2
          refine post (.ref x) H2 (fun j => Os2 (j + 1)) (Os2 0) r1 r2 (fun _ => r3) (fun a o e nw => ?_) fun z => by cases z
          obtain ⟨e1, n1, n2⟩ := k0 k a o e nw
          exact ⟨e1, fun ⟨j, z⟩ => n1 ⟨j + 1, z⟩, fun z => n1 ⟨0, z.2⟩⟩
    | _ => exact post.elim
theorem cal_make {k : Nat} {f C : Addr} {fd : FuncData} {ps : List Str} {n c : Nat} {mf : MF} {dks : List (V × Val)} {ds : List Value} (hC : G.cn c = some C) (M : Mk X.K C f) (F : FnOk X.prog X.w X.K X.mg X.base (L2.CX X.prog X.w) k f fd ps (spV G (n + 1) mf)) (hr : Room (k + 1) X.A) (hb : Binds X.K fd ps ds)
    (hd : Vals (dks.map (·.1)) ds) (tk : Takes X E) : CalV G X E (.ref C) n (mMake c mf) dks := by
  intro pins s1 σ H xs us Q I r h
  have hx := I.hok.fresh (Nat.le_succ s1.heap.objs.size)
  have hdx := I.hok.fresh (Nat.le_refl s1.heap.objs.size)
  have hq := sp_make (x := s1.heap.objs.size + 1) (dx := s1.heap.objs.size) hC h hx hdx (Nat.ne_of_lt (Nat.lt_succ_self _))
  have I2 := Inv.made (C := C) I
  have rv : Vals (V.ref (s1.heap.objs.size + 1) :: (xs ++ dks.map (·.1))) (Value.ref (s1.heap.objs.size + 1) :: (us ++ ds)) := .cons rfl (r.append hd)
  have hl : (Value.ref (s1.heap.objs.size + 1) :: us ++ ds).length = ps.length := by
    rw [← F.len _ _ _ _ hq]
    exact rv.length.symm
  refine wpAny_call (make_map (f := f) I.kIn M.makes M.init (beq_iff_eq.mp M.fn) ?_)
  have run := F.run (X.A.under (.builtin "type.__call__" ⟨.ref C :: us, []⟩)) X.stack _ _ ⟨Value.ref (s1.heap.objs.size + 1) :: us, []⟩ (Value.ref (s1.heap.objs.size + 1) :: (us ++ ds)) _ _ (WE E σ) (hr.make C us []) (I2.env0.make C us []) (hb _ (Value.ref (s1.heap.objs.size + 1) :: us) I2.kIn hl) rv hq
  refine codeAny_mono run fun res s2 hq2 => ?_
  cases res with
  | error er => exact passAt tk σ pins _ _ er s2 I2 hq2
  | ok fl =>
    cases fl with
    | ret u =>
      obtain ⟨v, H', I3, rv3, ev, q3⟩ := I2.after hq2
      subst ev
      exact ⟨rv3, ⟨V.ref (s1.heap.objs.size + 1), H', I3, rfl, q3⟩⟩
    | next => exact hq2.elim
    | brk => exact hq2.elim
    | cont => exact hq2.elim
end
end VL
/-! VL, part N: methods, properties, attributes; a def by its body; stores into what a name holds. -/
namespace VL
open PySem L2

section
variable {G : Gam} {X : Cx} {E : WX} {es : List Expr} {e o : Expr} {as : List Arg} {p s : Bool} {m : ME} {pos apos px : Pos}
abbrev mcTree (o : Expr) (mn : Str) (apos pos : Pos) (es : List Expr) (pl : Sem Bool) (env : Env) : Sem Value := do
  let ov ← eval o env
  standAt apos.atName
  let (f, first) ← holding [ov] (getMethod ov mn pl)
  callWith pos f first (backTo pos (starEach es env)) (backToKw pos (keywordEach [] env))
/-- o.m(..), read -/
theorem pe_calm {pl : Sem Bool} {C f : Addr} {mn : Str} {ta : TE} {t : TA} {r : L2.St → List V → Hp → VK → Prop} (he : PE X o ta) (c : Cls X.K C) (hm : Meth X.K C mn f) (hc : CalR X (.ref f) r) (ha : PA X (e :: es) t)
    (hst : starEach (e :: es) X.env = (false, eval e X.env) :: starEach es X.env) (hpl : (backTo pos (starEach es X.env)).any (·.1) = false) (ht : eval (.Call (.Attribute o mn apos) (e :: es) [] pos) X.env = mcTree o mn apos pos (e :: es) pl X.env) :
    PE X (.Call (.Attribute o mn apos) (e :: es) [] pos) (fun σ H Q => ta σ H fun x H1 => ∃ a dx fs, x = .ref a ∧ H1 a = some (.ins C dx fs) ∧ fs.lookup mn = none ∧ t σ H1 fun xs H2 => r σ (x :: xs) H2 Q) := by
  refine ⟨fun pins s1 σ H Q I h => PySem.W.methodCall_KW (pl := pl) (thn (he.run pins s1 σ H _ I h) fun u s2 hx => ?_) ht⟩
  obtain ⟨x, H1, I1, rx, a, dx, fs, ex, ea, l, q⟩ := hx
  subst ex
  obtain rfl : u = Value.ref a := rx
  refine getmeth_ok I1 ea c hm l (PySem.W.callWith_K (first := [.ref a]) (h₀ := X.base) I1.ok.mod.kin hm.kp ?_ hst hpl)
  exact thn (ha.run pos pins s2 σ H1 _ I1 q) fun us s3 ⟨xs, H2, I2, r2, q2⟩ => ⟨I2.kIn, hc pins s3 σ H2 (.ref a :: xs) (.ref a :: us) Q I2 (.cons rfl r2) q2⟩
theorem pe_calm0 {pl : Sem Bool} {C f : Addr} {mn : Str} {ta : TE} {r : L2.St → List V → Hp → VK → Prop} (he : PE X o ta) (c : Cls X.K C) (hm : Meth X.K C mn f) (hc : CalR X (.ref f) r)
    (ht : eval (.Call (.Attribute o mn apos) [] [] pos) X.env = mcTree o mn apos pos [] pl X.env) :
    PE X (.Call (.Attribute o mn apos) [] [] pos) (fun σ H Q => ta σ H fun x H1 => ∃ a dx fs, x = .ref a ∧ H1 a = some (.ins C dx fs) ∧ fs.lookup mn = none ∧ r σ [x] H1 Q) := by
  refine ⟨fun pins s1 σ H Q I h => PySem.W.methodCall_KW (pl := pl) (thn (he.run pins s1 σ H _ I h) fun u s2 hx => ?_) ht⟩
  obtain ⟨x, H1, I1, rx, a, dx, fs, ex, ea, l, q⟩ := hx
  subst ex
  obtain rfl : u = Value.ref a := rx
  exact getmeth_ok I1 ea c hm l (PySem.W.callWith_K0 (first := [.ref a]) I1.kIn hm.kp (hc pins s2 σ H1 [.ref a] [.ref a] Q I1 (.cons rfl .nil) q))

/-- an object of the class c that has no attribute of that name -/
def objC (c : Nat) (mn : Str) : Val → Bool
  | .obj _ n fs _ => n == c && !(fs.contains mn)
  | _ => false
def mMethR (c : Nat) (mn : Str) (mf : MF) (i : Nat) (as : List Arg) : ME := fun ρ => match ρ[i]? with
  | some (some v) => if objC c mn v = true then mCall mf (.r i :: as) ρ else .bad
  | _ => .bad
/-- a value that must be an object of the class c -/
def mObjC (c : Nat) (mn : Str) (m : ME) : ME := fun ρ => match m ρ with
  | .ok v ρ' => if objC c mn v = true then .ok v ρ' else .bad
  | .exc e ρ' => .exc e ρ'
  | .bad => .bad
theorem look_none {mn : Str} : ∀ {fs : List (Str × V)}, (fs.map (·.1)).contains mn = false → fs.lookup mn = none
  | [], _ => rfl
  | (f, x) :: fs, h => by
    simp only [List.map_cons, List.contains_cons, Bool.or_eq_false_iff] at h
    show (match mn == f with | true => some x | false => fs.lookup mn) = none
    rw [h.1]
    exact look_none h.2
theorem objC_ok {c : Nat} {mn : Str} {C : Addr} (hc : G.cn c = some C) {W : Addr → Prop} {H : Hp} {x : V} {v : Val} {O : List Addr} (r : Rep G W H x v O) (h : objC c mn v = true) : ∃ a dx fs, x = .ref a ∧ H a = some (.ins C dx fs) ∧ fs.lookup mn = none := by
  cases v with
  | obj ow n ns vs =>
    unfold objC at h
    simp only [Bool.and_eq_true, beq_iff_eq, Bool.not_eq_true'] at h
    obtain ⟨rfl, h2⟩ := h
    obtain ⟨a, C', dx, fs, rfl, e, hC, hn⟩ := rep_obj r
    rw [hc] at hC
    cases hC
    exact ⟨a, dx, fs, rfl, e, look_none (by rw [← hn]; exact h2)⟩
  | _ => exact absurd h (by simp [objC])
theorem rd_obj {c : Nat} {mn : Str} {C : Addr} (hc : G.cn c = some C) {σ : L2.St} {H : Hp} {P : V → Hp → Prop} (h : rd G E p s (mObjC c mn m) σ H P) : rd G E p s m σ H fun x H1 => ∃ a dx fs, x = .ref a ∧ H1 a = some (.ins C dx fs) ∧ fs.lookup mn = none ∧ P x H1 := by
  obtain ⟨R, ρ, Os, rel, post⟩ := h
  refine ⟨R, ρ, Os, rel, ?_⟩
  unfold mObjC at post
  cases hm : m ρ with
  | bad => rw [hm] at post; exact post
  | exc e ρ' => rw [hm] at post; exact post
  | ok v ρ' =>
    rw [hm] at post
    dsimp only at post
    by_cases ho : objC c mn v = true
    · rw [if_pos ho] at post
      intro x H' Os' O rel' rep nd k pu
      obtain ⟨a, dx, fs, e1, e2, e3⟩ := objC_ok hc rep ho
      exact ⟨a, dx, fs, e1, e2, e3, post x H' Os' O rel' rep nd k pu⟩
    · rw [if_neg ho] at post; exact post.elim
/-- name.m(e, ..) -/
theorem ve_methR {pl : Sem Bool} {C f : Addr} {mn : Str} {i c n : Nat} {mf : MF} {dks : List (V × Val)} (he : PE X o (tVar i)) (hcn : G.cn c = some C) (cl : Cls X.K C) (hm : Meth X.K C mn f) (hc : CalV G X E (.ref f) n mf dks) (ha : VAg G X E (e :: es) as) (hd : DflL G dks)
    (hs : (vals as).all (·.s) = true := by rfl) (hnk : noK as = true := by rfl) (hn : as.length + 1 + dks.length = n := by rfl) (hst : starEach (e :: es) X.env = (false, eval e X.env) :: starEach es X.env := by rfl) (hpl : (backTo pos (starEach es X.env)).any (·.1) = false := by rfl)
    (ht : eval (.Call (.Attribute o mn apos) (e :: es) [] pos) X.env = mcTree o mn apos pos (e :: es) pl X.env := by rfl) : VE G X E false true (.Call (.Attribute o mn apos) (e :: es) [] pos) (mMethR c mn mf i (as ++ dArgs dks)) := by
  refine PE.pre (pe_calm he cl hm hc ha hst hpl ht) fun σ H Q ⟨R, ρ, Os, rel, post⟩ => ?_
  unfold mMethR at post
  split at post
  · rename_i v hv
    by_cases ho : objC c mn v = true
    · rw [if_pos ho] at post
      obtain ⟨x, hx, rep⟩ := rel.rep i v hv
      obtain ⟨a, dx, fs, e1, e2, e3⟩ := objC_ok hcn rep ho
      obtain ⟨y, hy, q⟩ := call_dk (as := .r i :: as) (n := n) hd hnk hs hn (σ := σ) ⟨R, ρ, Os, rel, post⟩
      rw [hx] at hy
      cases hy
      exact ⟨x, hx, a, dx, fs, e1, e2, e3, q⟩
    · rw [if_neg ho] at post; exact post.elim
  · exact post.elim
theorem ve_methR0 {pl : Sem Bool} {C f : Addr} {mn : Str} {i c n : Nat} {mf : MF} {dks : List (V × Val)} (he : PE X o (tVar i)) (hcn : G.cn c = some C) (cl : Cls X.K C) (hm : Meth X.K C mn f) (hc : CalV G X E (.ref f) n mf dks) (hd : DflL G dks) (hn : 1 + dks.length = n := by rfl)
    (ht : eval (.Call (.Attribute o mn apos) [] [] pos) X.env = mcTree o mn apos pos [] pl X.env := by rfl) : VE G X E false true (.Call (.Attribute o mn apos) [] [] pos) (mMethR c mn mf i (dArgs dks)) := by
  refine PE.pre (pe_calm0 he cl hm hc ht) fun σ H Q ⟨R, ρ, Os, rel, post⟩ => ?_
  unfold mMethR at post
  split at post
  · rename_i v hv
    by_cases ho : objC c mn v = true
    · rw [if_pos ho] at post
      obtain ⟨x, hx, rep⟩ := rel.rep i v hv
      obtain ⟨a, dx, fs, e1, e2, e3⟩ := objC_ok hcn rep ho
      obtain ⟨y, hy, q⟩ := call_dk (as := [.r i]) (n := n) hd rfl rfl (by simpa using hn) (σ := σ) ⟨R, ρ, Os, rel, post⟩
      rw [hx] at hy
      cases hy
      exact ⟨x, hx, a, dx, fs, e1, e2, e3, q⟩
    · rw [if_neg ho] at post; exact post.elim
  · exact post.elim
/-- o.m(e, ..), o a value -/
theorem ve_methV {pl : Sem Bool} {C f : Addr} {mn : Str} {c n : Nat} {mf : MF} {dks : List (V × Val)} (he : VE G X E p true o m) (hcn : G.cn c = some C) (cl : Cls X.K C) (hm : Meth X.K C mn f) (hc : CalV G X E (.ref f) n mf dks) (ha : VAg G X E (e :: es) as) (hd : DflL G dks)
    (hs : (vals as).all (·.s) = true := by rfl) (hnk : noK as = true := by rfl) (hn : as.length + 1 + dks.length = n := by rfl) (hst : starEach (e :: es) X.env = (false, eval e X.env) :: starEach es X.env := by rfl) (hpl : (backTo pos (starEach es X.env)).any (·.1) = false := by rfl)
    (ht : eval (.Call (.Attribute o mn apos) (e :: es) [] pos) X.env = mcTree o mn apos pos (e :: es) pl X.env := by rfl) : VE G X E (p && argsP (as ++ dArgs dks)) true (.Call (.Attribute o mn apos) (e :: es) [] pos) (mCall mf (.v ⟨p, true, mObjC c mn m⟩ :: (as ++ dArgs dks))) := by
  refine PE.pre (pe_calm he cl hm hc ha hst hpl ht) fun σ H Q h => ?_
  have := call_dk (E := E) (as := .v ⟨p, true, mObjC c mn m⟩ :: as) (n := n) hd hnk (by simpa [vals] using hs) hn (σ := σ) h
  exact rd_obj hcn this
theorem ve_methV0 {pl : Sem Bool} {C f : Addr} {mn : Str} {c n : Nat} {mf : MF} {dks : List (V × Val)} (he : VE G X E p true o m) (hcn : G.cn c = some C) (cl : Cls X.K C) (hm : Meth X.K C mn f) (hc : CalV G X E (.ref f) n mf dks) (hd : DflL G dks) (hn : 1 + dks.length = n := by rfl)
    (ht : eval (.Call (.Attribute o mn apos) [] [] pos) X.env = mcTree o mn apos pos [] pl X.env := by rfl) : VE G X E (p && argsP (dArgs dks)) true (.Call (.Attribute o mn apos) [] [] pos) (mCall mf (.v ⟨p, true, mObjC c mn m⟩ :: dArgs dks)) := by
  refine PE.pre (pe_calm0 he cl hm hc ht) fun σ H Q h => ?_
  have := call_dk (E := E) (as := [.v ⟨p, true, mObjC c mn m⟩]) (n := n) hd rfl rfl (by simpa using hn) (σ := σ) h
  exact rd_obj hcn this

/-! ### properties: the getter raises nothing -/
def mfNoX (mf : MF) : MF := fun vs => match mf vs with
  | .exc _ _ => .bad
  | r => r
theorem sp_nox {n : Nat} {mf : MF} {xs : List V} {H : Hp} {Q : VK} {E0 E1 : XK} (h : spV G n (mfNoX mf) xs H Q E0) : spV G n mf xs H Q E1 := by
  obtain ⟨hl, R, vs, Oa, rel, post⟩ := h
  refine ⟨hl, R, vs, Oa, rel, ?_⟩
  unfold mfNoX at post
  cases hm : mf vs with
  | bad => rw [hm] at post; exact post
  | exc e fs => rw [hm] at post; exact post.elim
  | ok v fs => rw [hm] at post; exact post
theorem pass_none {Y : Cx} : Passes (L2.CX Y.prog Y.w) Y (fun _ _ _ => False) := fun _ _ _ _ _ _ _ ⟨_, _, _, _, _, _, _, _, _, _, _, _, z⟩ => z.elim
def mPropR (c : Nat) (mf : MF) (i : Nat) : ME := fun ρ => match ρ[i]? with
  | some (some (.obj o n fs xs)) => if n = c then mCall (mfNoX mf) [.r i] ρ else .bad
  | _ => .bad
theorem ve_propR {C f : Addr} {q : Addr} {mn : Str} {i c k : Nat} {mf : MF} {fd : FuncData} {ps : List Str} (he : PE X o (tVar i)) (hcn : G.cn c = some C) (cl : Cls X.K C) (hp : PropOf X.K C mn q f) (F : FnOk X.prog X.w X.K X.mg X.base (L2.CX X.prog X.w) k f fd ps (spV G 1 mf)) (hr : Room (k + 1) X.A) (hb : Binds X.K fd ps [])
    (hab : attributeBase o mn X.env (eval o X.env) = eval o X.env := by rfl) : VE G X E false true (.Attribute o mn pos) (mPropR c mf i) := by
  refine PE.pre (pe_prop (dvs := []) he cl hp F hr hb .nil (pass_none (Y := X.nox)) hab) fun σ H Q ⟨R, ρ, Os, rel, post⟩ => ?_
  unfold mPropR at post
  split at post
  · rename_i ow n fs xs hv
    by_cases hn : n = c
    · rw [if_pos hn] at post
      subst hn
      obtain ⟨x, hx, rep⟩ := rel.rep i _ hv
      obtain ⟨a, C', dx, fs', rfl, ea, hC, _⟩ := rep_obj rep
      rw [hcn] at hC
      cases hC
      obtain ⟨y, hy, q⟩ := call_of (as := [.r i]) (n := 1) trivial rfl rfl (σ := σ) ⟨R, ρ, Os, rel, post⟩
      rw [hx] at hy
      cases hy
      exact ⟨.ref a, hx, a, dx, fs', rfl, ea, sp_nox q⟩
    · rw [if_neg hn] at post; exact post.elim
  · exact post.elim
def mPropV (c : Nat) (mf : MF) (p : Bool) (m : ME) : ME := mCall (mfNoX mf) [.v ⟨p, true, mObjC c "" m⟩]
theorem ve_propV {C f : Addr} {q : Addr} {mn : Str} {c k : Nat} {mf : MF} {fd : FuncData} {ps : List Str} (he : VE G X E p true o m) (hcn : G.cn c = some C) (cl : Cls X.K C) (hp : PropOf X.K C mn q f) (F : FnOk X.prog X.w X.K X.mg X.base (L2.CX X.prog X.w) k f fd ps (spV G 1 mf)) (hr : Room (k + 1) X.A) (hb : Binds X.K fd ps [])
    (hab : attributeBase o mn X.env (eval o X.env) = eval o X.env := by rfl) : VE G X E p true (.Attribute o mn pos) (mPropV c mf p m) := by
  refine PE.pre (pe_prop (dvs := []) he cl hp F hr hb .nil (pass_none (Y := X.nox)) hab) fun σ H Q h => ?_
  have h' : rd G E (argsP [.v ⟨p, true, mObjC c "" m⟩]) true (mCall (mfNoX mf) [.v ⟨p, true, mObjC c "" m⟩]) σ H Q := by simpa [argsP, mPropV] using h
  have q := call_of (E := E) (as := [.v ⟨p, true, mObjC c "" m⟩]) (n := 1) trivial rfl rfl (σ := σ) h'
  exact rd_mono (rd_obj hcn q) fun x H1 ⟨a, dx, fs, e1, e2, _, e4⟩ => ⟨a, dx, fs, e1, e2, by subst e1; exact sp_nox e4⟩

/-! ### attributes -/
def lookF (f : Str) : List Str → List Val → Option Val
  | n :: ns, v :: vs => if n = f then some v else lookF f ns vs
  | _, _ => none
def semFld (cs : List Nat) (f : Str) : List Val → Option Val
  | [.obj _ n fs xs] => if n ∈ cs then (match lookF f fs xs with
    | some v => if v.fz = true then some v else none
    | none => none) else none
  | _ => none
def FldF (G : Gam) (K : PySem.W.Frag) (cs : List Nat) (f : Str) : Prop := ∀ n ∈ cs, ∀ C, G.cn n = some C → Cls K C ∧ NoAttr K C f
theorem look_fld {W : Addr → Prop} {H : Hp} {f : Str} : ∀ {fs : List (Str × V)} {vs : List Val} {O : List Addr} {v : Val}, Reps G W H (fs.map (·.2)) vs O → lookF f (fs.map (·.1)) vs = some v → ∃ x O', fs.lookup f = some x ∧ Rep G W H x v O' ∧ ∀ a ∈ O', a ∈ O
  | [], vs, O, v, r, h => by cases r; simp [lookF] at h
  | (g, y) :: fs, vs, O, v, r, h => by
    cases r with
    | @cons _ w _ ws O1 O2 r t =>
      simp only [List.map_cons, lookF] at h
      by_cases e : g = f
      · rw [if_pos e] at h
        cases h
        subst e
        exact ⟨y, O1, by simp [List.lookup], r, fun a ha => List.mem_append_left _ ha⟩
      · rw [if_neg e] at h
        obtain ⟨x, O', e1, r', s'⟩ := look_fld t h
        refine ⟨x, O', ?_, r', fun a ha => List.mem_append_right _ (s' a ha)⟩
        show (match f == g with | true => some y | false => fs.lookup f) = some x
        rw [beq_false_of_ne fun z => e z.symm]
        exact e1
theorem rep_objR {W : Addr → Prop} {H : Hp} {x : V} {ow : Bool} {n : Nat} {ns : List Str} {vs : List Val} {O : List Addr} (r : Rep G W H x (.obj ow n ns vs) O) : ∃ a C dx fs O', x = .ref a ∧ H a = some (.ins C dx fs) ∧ G.cn n = some C ∧ ns = fs.map (·.1) ∧ Reps G W H (fs.map (·.2)) vs O' := by
  cases r with
  | objO h hc hn r => exact ⟨_, _, _, _, _, rfl, h, hc, hn, r⟩
  | objF h hc hn r => exact ⟨_, _, _, _, _, rfl, h.1, hc, hn, r⟩
theorem ve_fld {cs : List Nat} {f : Str} (F : FldF G X.K cs f) (he : VE G X E p s o m) (hb : attributeBase o f X.env (eval o X.env) = eval o X.env := by rfl) : VE G X E p true (.Attribute o f pos) (mFun (semFld cs f) [m]) := by
  have := ve_fun (G := G) (E := E) (os := [⟨p, s, m⟩]) (pe_fld (pos := pos) he hb) (r := fun xs H Q => match xs with
    | [x] => ∃ a C dx fs v, x = .ref a ∧ H a = some (.ins C dx fs) ∧ Cls X.K C ∧ NoAttr X.K C f ∧ fs.lookup f = some v ∧ Q v H
    | _ => False) (fun σ H Q z => z) (sem := semFld cs f) (fun W H xs vs Ol v Q w r hs mk => by
      unfold semFld at hs
      split at hs
      · obtain ⟨x, O, rfl, r1⟩ := r.inv1
        split at hs
        · rename_i hn
          split at hs
          · rename_i u hu
            split at hs
            · rename_i hf
              cases hs
              obtain ⟨a, C, dx, fs', O', rfl, ea, hC, rfl, q⟩ := rep_objR r1
              obtain ⟨c1, c2⟩ := F _ hn C hC
              obtain ⟨y, O2, e1, r2, _⟩ := look_fld q hu
              exact ⟨a, C, dx, fs', y, rfl, ea, c1, c2, e1, mk.same (r2.fz' hf)⟩
            · cases hs
          · cases hs
        · cases hs
      · cases hs) (by simp [wfA])
  simpa using this

/-! ### a def by its body -/
def outs : List Bool → VEnv → VEnv
  | [], _ => []
  | _ :: bs, [] => none :: outs bs []
  | b :: bs, v :: ρ => (if b = true then v else none) :: outs bs ρ
def mBody (bs : List Bool) (N : Nat) (m : MS) : MF := fun vs => match m (vs.map some ++ List.replicate (N - bs.length) none) with
  | .nx ρ => .ok .non (outs bs ρ)
  | .rt v ρ => .ok v (outs bs ρ)
  | .exc e ρ => .exc e (outs bs ρ)
  | _ => .bad
theorem outs_len : ∀ (bs : List Bool) (ρ : VEnv), (outs bs ρ).length = bs.length
  | [], _ => rfl
  | _ :: bs, [] => by simp [outs, outs_len bs]
  | _ :: bs, _ :: ρ => by simp [outs, outs_len bs]
theorem outs_get : ∀ {bs : List Bool} {ρ : VEnv} {i : Nat} {v : Val}, (outs bs ρ)[i]? = some (some v) → bs[i]? = some true ∧ ρ[i]? = some (some v)
  | [], ρ, i, v, h => by simp [outs] at h
  | b :: bs, [], i, v, h => by
    cases i with
    | zero => simp [outs] at h
    | succ i => have := outs_get (bs := bs) (ρ := []) (i := i) (by simpa [outs] using h); simp at this
  | b :: bs, u :: ρ, i, v, h => by
    cases i with
    | zero =>
      simp only [outs, List.getElem?_cons_zero, Option.some.injEq] at h
      cases b with
      | true => simp only [if_true] at h; simp [h]
      | false => simp at h
    | succ i => simpa using outs_get (bs := bs) (ρ := ρ) (i := i) (by simpa [outs] using h)
theorem get_outs : ∀ {bs : List Bool} {ρ : VEnv} {i : Nat} {v : Val}, bs[i]? = some true → ρ[i]? = some (some v) → (outs bs ρ)[i]? = some (some v)
  | [], ρ, i, v, h, _ => by simp at h
  | b :: bs, [], i, v, _, h => by simp at h
  | b :: bs, u :: ρ, i, v, h, h2 => by
    cases i with
    | zero => simp only [List.getElem?_cons_zero, Option.some.injEq] at h h2; simp [outs, h, h2]
    | succ i => simpa [outs] using get_outs (bs := bs) (ρ := ρ) (i := i) (by simpa using h) (by simpa using h2)
theorem rel_start {R : Addr → Prop} {H : Hp} {xs : List V} {vs : List Val} {Oa : Nat → List Addr} {N : List Str} (rel : Rel G R H (xs.map some) (vs.map some) Oa) : Rel G R H (start N xs) (vs.map some ++ List.replicate (N.length - vs.length) none) Oa := by
  have hl : xs.length = vs.length := by simpa using rel.len
  have key : ∀ (i : Nat) (v : Val), (vs.map some ++ List.replicate (N.length - vs.length) none)[i]? = some (some v) → (vs.map some)[i]? = some (some v) := fun i v h => by
    by_cases hi : i < vs.length
    · rwa [List.getElem?_append_left (by simpa using hi)] at h
    · rw [List.getElem?_append_right (by simpa using hi), List.getElem?_replicate] at h
      split at h <;> cases h
  refine ⟨by simp [L2.start, hl], fun i v hv => ?_, fun i hi => rel.nil i fun v hv => hi v ?_, rel.nd, rel.dj, rel.dr, rel.rt⟩
  · obtain ⟨x, e, r⟩ := rel.rep i v (key i v hv)
    have hi : i < (xs.map some).length := (List.getElem?_eq_some_iff.mp e).1
    exact ⟨x, by unfold L2.start; rw [List.getElem?_append_left hi]; exact e, r⟩
  · have hi : i < (vs.map some).length := (List.getElem?_eq_some_iff.mp hv).1
    rw [List.getElem?_append_left hi]; exact hv
/-- what is left of the names when the def ends -/
theorem rel_outs {R : Addr → Prop} {H : Hp} {bs : List Bool} {N : List Str} {xs : List V} {σ : L2.St} {ρ : VEnv} {Os : Nat → List Addr} (hl : xs.length = bs.length) (pin : PinB bs (start N xs) σ) (rel : Rel G R H σ ρ Os) :
    ∃ Os', Rel G R H (xs.map some) (outs bs ρ) Os' ∧ ∀ a, We Os' a → We Os a := by
  have sub : ∀ i a, a ∈ (if bs[i]? = some true then Os i else []) → bs[i]? = some true ∧ a ∈ Os i := fun i a h => by
    by_cases e : bs[i]? = some true
    · rw [if_pos e] at h; exact ⟨e, h⟩
    · rw [if_neg e] at h; cases h
  have we : ∀ a, We (fun i => if bs[i]? = some true then Os i else []) a → We Os a := fun a ⟨i, z⟩ => ⟨i, (sub i a z).2⟩
  refine ⟨fun i => if bs[i]? = some true then Os i else [], ⟨by simp [outs_len, hl], fun i v hv => ?_, fun i hi => ?_, fun i => ?_, fun i j a ha hb => rel.dj i j a (sub i a ha).2 (sub j a hb).2, fun i a ha => rel.dr i a (sub i a ha).2, rel.rt⟩, we⟩
  · obtain ⟨h1, h2⟩ := outs_get hv
    obtain ⟨x, e, r⟩ := rel.rep i v h2
    rw [pin i h1] at e
    have hi : i < (xs.map some).length := by
      have := (List.getElem?_eq_some_iff.mp h1).1
      simpa [hl] using this
    unfold L2.start at e
    rw [List.getElem?_append_left hi] at e
    refine ⟨x, e, ?_⟩
    show Rep G _ H x v (if bs[i]? = some true then Os i else [])
    rw [if_pos h1]
    exact r.weakW fun a z => z.imp id (we a)
  · show (if bs[i]? = some true then Os i else []) = []
    by_cases e : bs[i]? = some true
    · rw [if_pos e]
      exact rel.nil i fun v hv => hi v (get_outs e hv)
    · rw [if_neg e]
  · show (if bs[i]? = some true then Os i else []).Nodup
    by_cases e : bs[i]? = some true
    · rw [if_pos e]; exact rel.nd i
    · rw [if_neg e]; exact List.nodup_nil
/-- THE DEF -/
theorem body_of {Y : Cx} {E0 : XK} {bs : List Bool} {N ps : List Str} {m : MS} {body : List Stmt} {xs : List V} {H : Hp} {Q : VK} (hn : bs.length = ps.length) (hN : ps.length ≤ N.length) (hb : ∀ σ0, VSs G Y (fun c d _ H => E0 c d H) bs σ0 body m) (h : spV G ps.length (mBody bs N.length m) xs H Q E0) :
    ∃ t, PSs Y body t ∧ t { nx := fun _ H' => Q .non H', rt := Q } (start N xs) H := by
  obtain ⟨hl, R, vs, Oa, rel, post⟩ := h
  refine ⟨_, hb (start N xs), ?_⟩
  have hv : xs.length = vs.length := by simpa using rel.len
  have rs := rel_start (N := N) rel
  have hlb : xs.length = bs.length := by omega
  refine ⟨R, _, Oa, rs, fun _ _ => rfl, ?_⟩
  unfold mBody at post
  rw [show N.length - bs.length = N.length - vs.length by omega] at post
  have ret : ∀ {v : Val} {ρ' : VEnv}, Post G R (fun c d _ H => E0 c d H) (xs.map some) H Oa false true (vs.map some) Q (.ok v (outs bs ρ')) → ∀ x σ' H' Os' O, PinB bs (start N xs) σ' → Rel G (Rp R true O) H' σ' ρ' Os' → Rep G (WW (Rp R true O) Os') H' x v O → O.Nodup → KeepE H Oa H' Os' (fun a => true = true ∧ a ∈ O) → Q x H' := by
    intro v ρ' post x σ' H' Os' O pin rel' rep nd k
    obtain ⟨Os2, r2, w2⟩ := rel_outs hlb pin rel'
    exact post x H' Os2 O r2 (rep.weakW fun a z => z.imp id (w2 a)) (fun _ => nd) (fun a o e nw => let ⟨e1, n1, n2⟩ := k a o e nw; ⟨e1, fun z => n1 (w2 a z), n2⟩) fun z => by cases z
  cases hm : m (vs.map some ++ List.replicate (N.length - vs.length) none) with
  | bad => rw [hm] at post; exact post
  | bk ρ' => rw [hm] at post; exact post.elim
  | ct ρ' => rw [hm] at post; exact post.elim
  | nx ρ' =>
    rw [hm] at post
    intro σ' H' Os' pin rel' k
    exact ret post .non σ' H' Os' [] pin (rel'.weak fun a z => z.elim id fun z => nomatch z.2) .non List.nodup_nil (k.imp fun a z => nomatch z.2)
  | rt v ρ' => rw [hm] at post; exact ret post
  | exc e ρ' =>
    rw [hm] at post
    intro c d σ' H' Os' pin rel' rx k
    obtain ⟨Os2, r2, w2⟩ := rel_outs hlb pin rel'
    exact post c d H' Os2 r2 (rx.mono fun a o e nw => ⟨e, fun z => nw (z.imp id (w2 a))⟩) fun a o e nw => let ⟨e1, n1, n2⟩ := k a o e nw; ⟨e1, fun z => n1 (w2 a z), n2⟩
theorem fnv_of {P : Program} {w : World} {K : PySem.W.Frag} {mg : Str → Option Value} {base : Heap} {k : Nat} {f : Addr} {name qual : Str} {params : Arguments} {body : List Stmt} {scope : Scope} {dV kV doc pm cdv ct oc : Value} {an od : Option Addr}
    {osl : Array (Option Value)} {N ps : List Str} {bs : List Bool} {mb : MS} (lk : K.lookup f = some ⟨oc, od, .func (PySem.W.fnOf name qual params body scope dV kV doc pm an cdv ct), osl⟩) (hcd : PySem.W.codeIn K cdv qual = true) (S : FnScope N ps scope) (hn : bs.length = ps.length)
    (hbody : ∀ (A : Around) (outer : List Env) (s : Shared) (H : Hp) (E : XK), Room k (A.deeper (PyProof.Rows.envOfC qual scope s.heap.objs.size f cdv)) → ∀ σ0, VSs G (cxOf (L2.CX P w) P w K mg base N qual scope f cdv A outer s H E) (fun c d _ H => E c d H) bs σ0 body mb) :
    FnOk P w K mg base (L2.CX P w) (k + 1) f (PySem.W.fnOf name qual params body scope dV kV doc pm an cdv ct) ps (spV G ps.length (mBody bs N.length mb)) := by
  refine fn_of lk hcd S (fun vs H Q E h => h.1) fun A outer s H vs Q E hr h => body_of hn ?_ (hbody A outer s H E hr) h
  have := congrArg List.length S.pre
  rw [List.length_take] at this
  omega
end
end VL
/-! VL, part O: list comprehensions; stores into what a name holds. -/
namespace VL
open PySem L2

def wipeV (ρ : VEnv) : List Nat → VEnv
  | [] => ρ
  | i :: is => (wipeV ρ is).set i none
theorem wipeV_len (ρ : VEnv) : ∀ is : List Nat, (wipeV ρ is).length = ρ.length
  | [] => rfl
  | i :: is => by unfold wipeV; rw [List.length_set, wipeV_len ρ is]
section
variable {G : Gam} {R : Addr → Prop} {H : Hp} {σ : L2.St} {ρ : VEnv} {Os : Nat → List Addr}
theorem Rel.drop1 (rel : Rel G R H σ ρ Os) (i : Nat) : Rel G R H (σ.set i none) (ρ.set i none) (fun j => if j = i then [] else Os j) := by
  have we : ∀ a, We (fun j => if j = i then [] else Os j) a → We Os a := fun a ⟨j, z⟩ => by
    by_cases hj : j = i
    · simp only [hj, if_true] at z; cases z
    · simp only [hj, if_false] at z; exact ⟨j, z⟩
  refine ⟨by rw [List.length_set, List.length_set]; exact rel.len, fun j v hv => ?_, fun j hj => ?_, fun j => ?_, fun j k a ha hb => ?_, fun j a ha => ?_, rel.rt⟩
  · by_cases h : j = i
    · subst h
      by_cases hi : j < ρ.length
      · rw [List.getElem?_set_self hi] at hv; cases hv
      · rw [List.getElem?_eq_none (by rw [List.length_set]; omega)] at hv; cases hv
    · rw [List.getElem?_set_ne (Ne.symm h)] at hv
      obtain ⟨x, e, r⟩ := rel.rep j v hv
      refine ⟨x, by rw [List.getElem?_set_ne (Ne.symm h)]; exact e, ?_⟩
      show Rep G _ H x v (if j = i then [] else Os j)
      rw [if_neg h]
      exact r.weakW fun a z => z.imp id (we a)
  · by_cases h : j = i
    · simp [h]
    · simp only [h, if_false]
      exact rel.nil j fun v hv => hj v (by rw [List.getElem?_set_ne (Ne.symm h)]; exact hv)
  · by_cases h : j = i
    · simp [h]
    · simp only [h, if_false]; exact rel.nd j
  · by_cases h : j = i
    · simp [h] at ha
    · by_cases h2 : k = i
      · simp [h2] at hb
      · simp only [h, h2, if_false] at ha hb; exact rel.dj j k a ha hb
  · by_cases h : j = i
    · simp [h] at ha
    · simp only [h, if_false] at ha; exact rel.dr j a ha
theorem Rel.wipe (rel : Rel G R H σ ρ Os) : ∀ is : List Nat, ∃ Os', Rel G R H (L2.wipe σ is) (wipeV ρ is) Os' ∧ ∀ a, We Os' a → We Os a
  | [] => ⟨Os, rel, fun _ z => z⟩
  | i :: is => by
    obtain ⟨Os', r, w⟩ := Rel.wipe rel is
    refine ⟨_, r.drop1 i, fun a ⟨j, z⟩ => ?_⟩
    by_cases hj : j = i
    · simp only [hj, if_true] at z; cases z
    · simp only [hj, if_false] at z; exact w a ⟨j, z⟩
/-- the names themselves stay -/
theorem Rel.unwipe {is : List Nat} (rel : Rel G R H (L2.wipe σ is) ρ Os) : Rel G R H σ ρ Os := by
  refine ⟨by rw [← rel.len, wipe_length], fun i v hv => ?_, rel.nil, rel.nd, rel.dj, rel.dr, rel.rt⟩
  obtain ⟨x, e, r⟩ := rel.rep i v hv
  exact ⟨x, (wipe_some e).1, r⟩
end
def pinsBut (n : Nat) (own : List Nat) : List Bool := (List.range n).map fun j => !own.contains j
theorem wipe_get {σ : L2.St} {j : Nat} : ∀ {is : List Nat}, j ∉ is → (L2.wipe σ is)[j]? = σ[j]?
  | [], _ => rfl
  | i :: is, h => by
    unfold L2.wipe
    rw [List.getElem?_set_ne (fun e => h (by simp [e])), wipe_get fun z => h (List.mem_cons_of_mem _ z)]
theorem wipe_none {σ : L2.St} {j : Nat} : ∀ {is : List Nat}, j ∈ is → j < σ.length → (L2.wipe σ is)[j]? = some none
  | [], h, _ => by cases h
  | i :: is, h, hl => by
    unfold L2.wipe
    by_cases e : i = j
    · subst e
      exact List.getElem?_set_self (by rw [wipe_length]; exact hl)
    · rw [List.getElem?_set_ne e]
      exact wipe_none ((List.mem_cons.mp h).resolve_left fun z => e z.symm) hl
theorem wipe_eq {σ σ2 : L2.St} {own : List Nat} {n : Nat} (hn : σ.length = n) (hl : σ2.length = σ.length) (pin : PinB (pinsBut n own) (L2.wipe σ own) σ2) : L2.wipe σ2 own = L2.wipe σ own := by
  apply List.ext_getElem?
  intro j
  by_cases hj : j < σ.length
  · by_cases ho : j ∈ own
    · rw [wipe_none ho (by rw [hl]; exact hj), wipe_none ho hj]
    · rw [wipe_get ho]
      have h1 : (pinsBut n own)[j]? = some true := by
        unfold pinsBut
        rw [List.getElem?_map, List.getElem?_range (by omega)]
        simp [ho]
      rw [pin j h1]
  · rw [List.getElem?_eq_none (by rw [wipe_length, hl]; omega), List.getElem?_eq_none (by rw [wipe_length]; omega)]

def lcL (g : MG) (tt me : ME) (own : List Nat) : List Val → List Val → VEnv → RE
  | [], acc, ρ => .ok (.lst true acc) ρ
  | u :: us, acc, ρ => match g u ρ with
    | none => .bad
    | some ρ1 => match tt ρ1 with
      | .ok (.bl b) ρ2 => if b = true then (match me ρ2 with
        | .ok v ρ3 => if acc.length < 16777216 then lcL g tt me own us (acc ++ [v]) (wipeV ρ3 own) else .bad
        | _ => .bad) else lcL g tt me own us acc (wipeV ρ2 own)
      | _ => .bad
def mLc (mi : MI) (g : MG) (tt me : ME) (own : List Nat) : ME := fun ρ => match mi ρ with
  | .ok us ρ1 => lcL g tt me own us [] (wipeV ρ1 own)
  | .exc e ρ' => .exc e ρ'
  | .bad => .bad
def mYes : ME := fun ρ => .ok (.bl true) ρ
abbrev WF : WX := fun _ _ _ _ => False
def VTs (G : Gam) (X : Cx) (ifs : List Expr) (m : ME) : Prop := ∃ p, PTs X ifs (tT G WF p m)
theorem PTs.pre {X : Cx} {ifs : List Expr} {t t' : TT} (h : PTs X ifs t) (k : ∀ σ H Q, t' σ H Q → t σ H Q) : PTs X ifs t' := ⟨fun pins s σ H Q I q => h.run pins s σ H Q I (k σ H Q q)⟩
section
variable {G : Gam} {X : Cx} {E : WX} {p s : Bool} {m : ME} {pos : Pos}
theorem vts_nil : VTs G X [] mYes := ⟨true, PTs.pre pts_nil fun σ H Q ⟨R, ρ, Os, rel, post⟩ => post H Os rel KeepE.refl fun _ => ⟨rfl, rfl, fun _ _ e => e⟩⟩
theorem vts_one {c : Expr} (h : VT G X WF p c m) : VTs G X [c] m := ⟨p, pts_one h⟩

/-- what others hold is changed -/
theorem Rel.chg {R : Addr → Prop} {H : Hp} {σ : L2.St} {ρ : VEnv} {Os : Nat → List Addr} {D : Addr} {o : HO} (rel : Rel G R H σ ρ Os) (hD : R D) : Rel G R (upd H D o) σ ρ Os := by
  refine ⟨rel.len, fun i v hv => ?_, rel.nil, rel.nd, rel.dj, rel.dr, fun a z => ?_⟩
  · obtain ⟨x, e, r⟩ := rel.rep i v hv
    refine ⟨x, e, r.mono (fun a o e nw => ⟨(upd_ne (show a ≠ D from fun z => nw (.inl (by rw [z]; exact hD)))).trans e, nw⟩) fun a ha o e => (upd_ne (show a ≠ D from fun z => rel.dr i a ha (by rw [z]; exact hD))).trans e⟩
  · by_cases h : a = D
    · subst h; exact ⟨_, upd_same⟩
    · rw [upd_ne h]; exact rel.rt a z
/-- what the comprehension's reading asks -/
theorem lc_reading {tg iter elt : Expr} {ow : List Nat} {n : Nat} {wi : TI} {sb : Bool} {mi : MI} {g : MG} {tt me : ME} {σ : L2.St} {H : Hp} {Q : VK} (hwi : wi = tI G E mi) (hlen : σ.length = n) (h : rd G E false true (mLc mi g tt me ow) σ H Q) :
    tLc wi (fun x σ H Q => ∃ σ0, tG G (pinsBut n ow) σ0 g x σ H Q) (tT G WF p tt) (rd G WF sb true me) ow σ H Q := by
  subst hwi
  obtain ⟨R, ρ, Os, rel, post⟩ := h
  refine ⟨R, ρ, Os, rel, ?_⟩
  unfold mLc at post
  cases hm : mi ρ with
  | bad => rw [hm] at post; exact post
  | exc e ρ' => rw [hm] at post; exact post
  | ok us ρ1 =>
    rw [hm] at post
    dsimp only at post
    intro J H1 Os1 rel1 walk keep1 D hD
    obtain ⟨Osw, relw, wew⟩ := rel1.wipe ow
    refine ⟨fun i n H' => n = us.length - i ∧ i ≤ us.length ∧ ∃ ρ2 Os2 acc xs O, Rel G (fun a => R a ∨ a ∈ D :: O) H' (L2.wipe σ ow) ρ2 Os2 ∧ H' D = some (.lst xs) ∧ Reps G (WW (fun a => R a ∨ a ∈ D :: O) Os2) H' xs acc O ∧ (D :: O).Nodup ∧ KeepE H1 Os1 H' Os2 (fun a => a ∈ D :: O) ∧
      Post G R E σ H Os false true ρ Q (lcL g tt me ow (us.drop i) acc ρ2), ⟨us.length, by simp, Nat.zero_le _, wipeV ρ1 ow, Osw, [], [], [], ?_, upd_same, .nil, by simp, fun a o e nw => ?_, by simpa using post⟩, ?_⟩
    · exact relw.grow (same_upd hD) (fun a z => z.imp id fun z => by rw [List.mem_singleton.mp z]; exact hD) fun a z => by
        rcases z with z | z
        · obtain ⟨o, e⟩ := relw.rt a z
          exact ⟨o, same_upd hD a o e⟩
        · rw [List.mem_singleton.mp z]; exact ⟨_, upd_same⟩
    · exact ⟨same_upd hD a o e, fun z => nw (wew a z), fun z => by rw [List.mem_singleton.mp z, hD] at e; cases e⟩
    · rintro i n H' ⟨rfl, hile, ρ2, Os2, acc, xs, O, rel2, hDx, reps, nd, keep2, post2⟩
      have kw : Keep (WW R Os1) H1 (WW (fun a => R a ∨ a ∈ D :: O) Os2) H' := fun a o e nw => by
        obtain ⟨e1, n1, n2⟩ := keep2 a o e fun z => nw (.inr z)
        refine ⟨e1, fun z => ?_⟩
        rcases z with (z | z) | z
        · exact nw (.inl z)
        · exact n2 z
        · exact n1 z
      obtain ⟨hstop, hgo⟩ := walk _ _ kw i
      by_cases hlt : i < us.length
      rotate_left
      · refine .inl ⟨hstop (by omega), ?_⟩
        rw [List.drop_eq_nil_of_le (by omega)] at post2
        unfold lcL at post2
        have e0 : (fun a => R a ∨ a ∈ D :: O) = Rp R true (D :: O) := setEq fun a => ⟨fun z => z.imp id fun z => ⟨rfl, z⟩, fun z => z.imp id fun z => z.2⟩
        rw [e0] at rel2 reps
        refine post2 (.ref D) H' Os2 (D :: O) rel2.unwipe (.lstO hDx reps) (fun _ => nd) (fun a o e nw => ?_) fun z => by cases z
        obtain ⟨e1, n1, _⟩ := keep1 a o e nw
        obtain ⟨e2, n2, n3⟩ := keep2 a o e1 n1
        exact ⟨e2, n2, fun z => n3 z.2⟩
      refine .inr ?_
      obtain ⟨go, yld⟩ := hgo us[i] (List.getElem?_eq_getElem hlt)
      refine ⟨go, fun H3 => i + 1 ≤ us.length ∧ ∃ ρ2 Os2 acc xs O, Rel G (fun a => R a ∨ a ∈ D :: O) H3 (L2.wipe σ ow) ρ2 Os2 ∧ H3 D = some (.lst xs) ∧ Reps G (WW (fun a => R a ∨ a ∈ D :: O) Os2) H3 xs acc O ∧ (D :: O).Nodup ∧ KeepE H1 Os1 H3 Os2 (fun a => a ∈ D :: O) ∧
        Post G R E σ H Os false true ρ Q (lcL g tt me ow (us.drop (i + 1)) acc ρ2), fun H3 ⟨h1, h2⟩ => ⟨us.length - (i + 1), by omega, rfl, h1, h2⟩, fun x H'' y => ?_⟩
      obtain ⟨same, repw⟩ := yld x H'' y
      have rep := repw fun p hp => rel2.ww hp
      have rel3 : Rel G (fun a => R a ∨ a ∈ D :: O) H'' (L2.wipe σ ow) ρ2 Os2 := rel2.grow same (fun a z => .inl z) fun a z => let ⟨o, e⟩ := rel2.rt a z; ⟨o, same a o e⟩
      have keep3 : KeepE H1 Os1 H'' Os2 fun a => a ∈ D :: O := keep2.grow same fun a z => .inl z
      have hD3 := same D _ hDx
      have reps3 : Reps G (WW (fun a => R a ∨ a ∈ D :: O) Os2) H'' xs acc O := reps.mono (fun a o e nw => ⟨same a o e, nw⟩) fun a _ o e => same a o e
      rw [List.drop_eq_getElem_cons hlt] at post2
      unfold lcL at post2
      have e0 : (fun a => R a ∨ a ∈ D :: O) = fun a => (R a ∨ a ∈ D :: O) ∨ a ∈ ([] : List Addr) := setEq fun a => ⟨.inl, fun z => z.elim id fun z => nomatch z⟩
      refine ⟨L2.wipe σ ow, fun a => R a ∨ a ∈ D :: O, ρ2, Os2, us[i], [], e0 ▸ rel3, e0 ▸ rep, List.nodup_nil, fun a z => (nomatch z), fun _ _ => rfl, ?_⟩
      cases hgu : g us[i] ρ2 with
      | none => rw [hgu] at post2; exact post2
      | some ρ3 =>
        rw [hgu] at post2
        dsimp only at post2
        intro σ3 Os3 pin3 hl3 rel4 we4
        have hw : L2.wipe σ3 ow = L2.wipe σ ow := wipe_eq hlen (by rw [hl3, wipe_length]) pin3
        have keep4 : KeepE H1 Os1 H'' Os3 fun a => a ∈ D :: O := fun a o e nw => let ⟨e1, n1, n2⟩ := keep3 a o e nw; ⟨e1, fun z => (we4 a z).elim n1 (fun z => nomatch z), n2⟩
        have reps4 : Reps G (WW (fun a => R a ∨ a ∈ D :: O) Os3) H'' xs acc O := reps3.weakW fun a z => z.imp id fun z => (we4 a z).elim id fun z => nomatch z
        refine ⟨hw, fun a => R a ∨ a ∈ D :: O, ρ3, Os3, rel4, ?_⟩
        /- what a step within the block leaves -/
        have step : ∀ {H5 : Hp} {Os5 : Nat → List Addr} {ρ5 : VEnv} {Oy : List Addr}, Rel G (fun a => (R a ∨ a ∈ D :: O) ∨ a ∈ Oy) H5 σ3 ρ5 Os5 → KeepE H'' Os3 H5 Os5 (fun a => a ∈ Oy) → H5 D = some (.lst xs) ∧ Reps G (WW (fun a => (R a ∨ a ∈ D :: O) ∨ a ∈ Oy) Os5) H5 xs acc O ∧ KeepE H1 Os1 H5 Os5 (fun a => a ∈ D :: O ∨ a ∈ Oy) ∧ (∀ a ∈ D :: O, a ∉ Oy) := by
          intro H5 Os5 ρ5 Oy rel5 k5
          have fix : ∀ a ∈ D :: O, ∀ o, H'' a = some o → H5 a = some o ∧ a ∉ Oy := fun a ha o e => let ⟨e1, _, n2⟩ := k5 a o e (rel4.nr (.inr ha)); ⟨e1, n2⟩
          refine ⟨(fix D List.mem_cons_self _ hD3).1, reps4.mono (fun a o e nw => ?_) (fun a ha o e => (fix a (List.mem_cons_of_mem _ ha) o e).1), fun a o e nw => ?_, fun a ha => ?_⟩
          · obtain ⟨e1, n1, n2⟩ := k5 a o e fun z => nw (.inr z)
            refine ⟨e1, fun z => ?_⟩
            rcases z with (z | z) | z
            · exact nw (.inl z)
            · exact n2 z
            · exact n1 z
          · obtain ⟨e1, n1, n2⟩ := keep4 a o e nw
            obtain ⟨e2, n3, n4⟩ := k5 a o e1 n1
            exact ⟨e2, n3, fun z => z.elim n2 n4⟩
          · obtain ⟨o, e⟩ := rel4.rt a (.inr ha)
            exact (fix a ha o e).2
        cases htt : tt ρ3 with
        | bad => rw [htt] at post2; exact post2.elim
        | exc e ρ4 => rw [htt] at post2; exact post2.elim
        | ok tv ρ4 =>
          rw [htt] at post2
          cases tv with
          | bl b =>
            intro H5 Os5 rel5 k5 _
            have r5 : Rel G (fun a => (R a ∨ a ∈ D :: O) ∨ a ∈ ([] : List Addr)) H5 σ3 ρ4 Os5 := e0 ▸ rel5
            obtain ⟨hD5, reps5, keep5, _⟩ := step r5 (k5.imp fun a z => nomatch z)
            rw [← e0] at reps5
            cases b with
            | false =>
              simp only [Bool.false_eq_true, if_false] at post2 ⊢
              obtain ⟨Os6, rel6, we6⟩ := rel5.wipe ow
              rw [hw] at rel6
              exact ⟨hlt, wipeV ρ4 ow, Os6, acc, xs, O, rel6, hD5, reps5.weakW fun a z => z.imp id (we6 a), nd, fun a o e nw => let ⟨e1, n1, n2⟩ := keep5 a o e nw; ⟨e1, fun z => n1 (we6 a z), fun z => n2 (.inl z)⟩, post2⟩
            | true =>
              simp only [if_true] at post2 ⊢
              refine ⟨fun a => R a ∨ a ∈ D :: O, ρ4, Os5, rel5, ?_⟩
              cases hme : me ρ4 with
              | bad => rw [hme] at post2; exact post2.elim
              | exc e ρ6 => rw [hme] at post2; exact post2.elim
              | ok v ρ6 =>
                rw [hme] at post2
                dsimp only at post2
                intro yv H6 Os6 Oy rel6 rep6 nd6 k6 _
                by_cases hacc : acc.length < 16777216
                rotate_left
                · rw [if_neg hacc] at post2; exact post2.elim
                rw [if_pos hacc] at post2
                have e1 : Rp (fun a => R a ∨ a ∈ D :: O) true Oy = fun a => (R a ∨ a ∈ D :: O) ∨ a ∈ Oy := setEq fun a => ⟨fun z => z.imp id fun z => z.2, fun z => z.imp id fun z => ⟨rfl, z⟩⟩
                rw [e1] at rel6 rep6
                have k56 : KeepE H'' Os3 H6 Os6 fun a => a ∈ Oy := fun a o e nw => by
                  obtain ⟨e2, n2, _⟩ := k5 a o e nw
                  obtain ⟨e3, n3, n4⟩ := k6 a o e2 n2
                  exact ⟨e3, n3, fun z => n4 ⟨rfl, z⟩⟩
                obtain ⟨hD6, reps6, keep6, dis⟩ := step rel6 k56
                have hxl : xs.length = acc.length := reps6.length
                refine ⟨xs, hD6, by rw [hxl]; exact (sizeLine_eq ▸ hacc), hlt, ?_⟩
                have e2 : (fun a => (R a ∨ a ∈ D :: O) ∨ a ∈ Oy) = fun a => R a ∨ a ∈ D :: (O ++ Oy) := setEq fun a => by
                  rw [List.mem_cons, List.mem_cons, List.mem_append]
                  constructor
                  · rintro ((z | z | z) | z)
                    · exact .inl z
                    · exact .inr (.inl z)
                    · exact .inr (.inr (.inl z))
                    · exact .inr (.inr (.inr z))
                  · rintro (z | z | z | z)
                    · exact .inl (.inl z)
                    · exact .inl (.inr (.inl z))
                    · exact .inl (.inr (.inr z))
                    · exact .inr z
                rw [e2] at rel6 rep6 reps6
                have rel7 := Rel.chg (D := D) (o := .lst (xs ++ [yv])) rel6 (.inr List.mem_cons_self)
                obtain ⟨Os8, rel8, we8⟩ := rel7.wipe ow
                rw [hw] at rel8
                obtain ⟨nd1, nd2⟩ := List.nodup_cons.mp nd
                have dOy : D ∉ Oy := dis D List.mem_cons_self
                have all : Reps G (WW (fun a => R a ∨ a ∈ D :: (O ++ Oy)) Os6) H6 (xs ++ [yv]) (acc ++ [v]) (O ++ (Oy ++ [])) := reps6.append (.cons rep6 .nil)
                rw [List.append_nil] at all
                have all2 : Reps G (WW (fun a => R a ∨ a ∈ D :: (O ++ Oy)) Os6) (upd H6 D (.lst (xs ++ [yv]))) (xs ++ [yv]) (acc ++ [v]) (O ++ Oy) := all.mono (fun a o e nw => ⟨by rw [upd_ne fun z => nw (.inl (.inr (by rw [z]; exact List.mem_cons_self)))]; exact e, nw⟩) fun a ha o e => by
                  rw [upd_ne fun z => ?_]; exact e
                  subst z
                  exact (List.mem_append.mp ha).elim nd1 dOy
                refine ⟨wipeV ρ6 ow, Os8, acc ++ [v], xs ++ [yv], O ++ Oy, rel8, upd_same, all2.weakW fun a z => z.imp id (we8 a), ?_, fun a o e nw => ?_, post2⟩
                · refine List.nodup_cons.mpr ⟨fun z => (List.mem_append.mp z).elim nd1 dOy, List.nodup_append.mpr ⟨nd2, nd6 rfl, fun a ha b hb e => dis a (List.mem_cons_of_mem _ ha) (e ▸ hb)⟩⟩
                · obtain ⟨e3, n3, n4⟩ := keep6 a o e nw
                  refine ⟨by rw [upd_ne fun z => n4 (.inl (by rw [z]; exact List.mem_cons_self))]; exact e3, fun z => n3 (we8 a z), fun z => n4 ?_⟩
                  rcases List.mem_cons.mp z with z | z
                  · exact .inl (by rw [z]; exact List.mem_cons_self)
                  · exact (List.mem_append.mp z).imp (List.mem_cons_of_mem _) id
          | _ => exact post2.elim
/-- [elt for target in iter if ..] -/
theorem ve_lc {sb : Bool} {elt tg iter : Expr} {ifs : List Expr} {scope : Scope} {own : List (Str × Nat)} {mi : MI} {g : MG} {tt me : ME} (hc : X.calm = true) (hN : X.N.Nodup) (hi : VI G X E tg iter mi) (ok : BlkOk X.N X.env.scope scope own)
    (hg : ∀ (s : Shared) (H : Hp) (C : Addr) (cl : List (Str × Addr)) (fp : List Addr) (σ0 : L2.St), VG G (X.blk s H scope (compEnvC scope cl C X.env) fp) (pinsBut X.N.length (own.map (·.2))) σ0 tg g)
    (ht : ∀ (s : Shared) (H : Hp) (C : Addr) (cl : List (Str × Addr)) (fp : List Addr), PTs (X.blk s H scope (compEnvC scope cl C X.env) fp) ifs (tT G WF p tt))
    (he : ∀ (s : Shared) (H : Hp) (C : Addr) (cl : List (Str × Addr)) (fp : List Addr), VE G (X.blk s H scope (compEnvC scope cl C X.env) fp) WF sb true elt me) (hs : ∀ x, foldedSetIterable iter X.env x = pure x := by intro _; rfl) :
    VE G X E false true (.ListComp elt [⟨tg, iter, ifs, 0⟩] scope pos) (mLc mi g tt me (own.map (·.2))) := by
  have hg2 : ∀ (s : Shared) (H : Hp) (C : Addr) (cl : List (Str × Addr)) (fp : List Addr), PG (X.blk s H scope (compEnvC scope cl C X.env) fp) tg (fun x σ H Q => ∃ σ0, tG G (pinsBut X.N.length (own.map (·.2))) σ0 g x σ H Q) := fun s H C cl fp =>
    ⟨fun pins st σ H' v u Q I r ⟨σ0, q⟩ => (hg s H C cl fp σ0).run pins st σ H' v u Q I r q⟩
  exact ⟨fun pins s1 σ H Q I h => (pe_lc hc hN hi ok hg2 ht he hs).run pins s1 σ H Q I (lc_reading (tg := tg) (iter := iter) (elt := elt) rfl I.len h)⟩
/-- name = [elt for target in iter if ..] -/
theorem vs_setLc {sb : Bool} {bs : List Bool} {σ0' : L2.St} {i : Nat} {y : Str} {py spos : Pos} {elt tg iter : Expr} {ifs : List Expr} {scope : Scope} {own : List (Str × Nat)} {mi : MI} {g : MG} {tt me m2 : ME} (hm2 : ∀ σ H Q, rd G E false true m2 σ H Q → rd G E false true (mLc mi g tt me (own.map (·.2))) σ H Q) (hc : X.calm = true) (hN : X.N.Nodup) (hy : X.N[i]? = some y) (hyl : X.env.scope.names.lookup y = some .local)
    (hsw : swapsWith (.ListComp elt [⟨tg, iter, ifs, 0⟩] scope pos) (some (.Name y py)) spos.line X.env = pure true)
    (hi : VI G X E tg iter mi) (ok : BlkOk X.N X.env.scope scope own)
    (hg : ∀ (s : Shared) (H : Hp) (C : Addr) (cl : List (Str × Addr)) (fp : List Addr) (σ0 : L2.St), VG G (X.blk s H scope (compEnvC scope cl C X.env) fp) (pinsBut X.N.length (own.map (·.2))) σ0 tg g)
    (ht : ∀ (s : Shared) (H : Hp) (C : Addr) (cl : List (Str × Addr)) (fp : List Addr), PTs (X.blk s H scope (compEnvC scope cl C X.env) fp) ifs (tT G WF p tt))
    (he : ∀ (s : Shared) (H : Hp) (C : Addr) (cl : List (Str × Addr)) (fp : List Addr), VE G (X.blk s H scope (compEnvC scope cl C X.env) fp) WF sb true elt me) (hb : bs[i]? ≠ some true := by decide) (hs : ∀ x, foldedSetIterable iter X.env x = pure x := by intro _; rfl) :
    VS G X E bs σ0' (.Assign [.Name y py] (.ListComp elt [⟨tg, iter, ifs, 0⟩] scope pos) spos) (mSet i m2) := by
  have hg2 : ∀ (s : Shared) (H : Hp) (C : Addr) (cl : List (Str × Addr)) (fp : List Addr), PG (X.blk s H scope (compEnvC scope cl C X.env) fp) tg (fun x σ H Q => ∃ σ0, tG G (pinsBut X.N.length (own.map (·.2))) σ0 g x σ H Q) := fun s H C cl fp =>
    ⟨fun pins st σ H' v u Q I r ⟨σ0, q⟩ => (hg s H C cl fp σ0).run pins st σ H' v u Q I r q⟩
  refine ⟨fun pins s1 σ H D I h => (ps_setLc hc hN hy hyl hsw hi ok hg2 ht he hs).run pins s1 σ H D I (lc_reading (tg := tg) (iter := iter) (elt := elt) rfl I.len (hm2 σ H _ ?_))⟩
  obtain ⟨R, ρ, Os, rel, pin, post⟩ := h
  refine ⟨R, ρ, Os, rel, ?_⟩
  refine PostS.post (s := true) (f := fun v ρ' => if i < ρ'.length then .nx (ρ'.set i (some v)) else .bad) pin post fun v ρ' x H' Os' O _ post rel' rep nd k => ?_
  by_cases hi' : i < ρ'.length
  · rw [if_pos hi'] at post
    obtain ⟨Os2, r2, k2⟩ := set_of (D := D) (.inr trivial) rel.hr rel' rep (nd rfl) k hi'
    exact post _ _ Os2 (pin.set hb) r2 k2
  · rw [if_neg hi'] at post
    exact post.elim
theorem rd_fz {m : ME} : ∀ σ H Q, rd G E false true (mFz m) σ H Q → rd G E false true m σ H Q := fun σ H Q ⟨R, ρ, Os, rel, post⟩ => ⟨R, ρ, Os, rel, post.fz rel.hr⟩
theorem rd_id {m : ME} : ∀ σ H Q, rd G E false true m σ H Q → rd G E false true m σ H Q := fun _ _ _ h => h
end
end VL
/-! VL, part P: stores into what a name holds: x.f = v, x[i] = v, x.append(v). -/
namespace VL
open PySem L2

section
variable {G : Gam} {X : Cx} {E : WX} {bs : List Bool} {σ0 : L2.St} {p s : Bool} {m : ME} {pos pos' apos : Pos}
/-- the object at the root of what a name holds is written anew -/
theorem Rel.root {R : Addr → Prop} {H : Hp} {σ : L2.St} {ρ : VEnv} {Os : Nat → List Addr} {O P P' : List Addr} {i : Nat} {v w : Val} {a : Addr} {ob ob' : HO} (rel : Rel G (fun a => R a ∨ a ∈ O) H σ ρ Os) (nO : ∀ a ∈ O, ¬ R a) (hv : ρ[i]? = some (some v)) (hx : σ[i]? = some (some (.ref a))) (hO : Os i = a :: P)
    (ha : H a = some ob) (hP : ∀ b ∈ P', b ∈ P ∨ b ∈ O) (nd : P'.Nodup)
    (mk : (∀ z u Oz, (∀ b ∈ Oz, b ∈ P ∨ b ∈ O) → Rep G (WW (fun a => R a ∨ a ∈ O) Os) H z u Oz → Rep G (WW R (fun j => if j = i then a :: P' else Os j)) (upd H a ob') z u Oz) → upd H a ob' a = some ob' → Rep G (WW R (fun j => if j = i then a :: P' else Os j)) (upd H a ob') (.ref a) w (a :: P')) :
    Rel G R (upd H a ob') σ (ρ.set i (some w)) (fun j => if j = i then a :: P' else Os j) ∧ ∀ b o, H b = some o → ¬ We Os b → ¬ b ∈ O → upd H a ob' b = some o ∧ ¬ We (fun j => if j = i then a :: P' else Os j) b := by
  have ain : a ∈ Os i := by rw [hO]; exact List.mem_cons_self
  have hnd := rel.nd i
  rw [hO] at hnd
  obtain ⟨nd1, nd2⟩ := List.nodup_cons.mp hnd
  have aO : a ∉ O := fun z => rel.dr i a ain (.inr z)
  have ne : ∀ b, b ∈ P ∨ b ∈ O → b ≠ a := fun b h e => h.elim (fun z => nd1 (e ▸ z)) fun z => aO (e ▸ z)
  have old : ∀ b ∈ a :: P', b ∈ Os i ∨ b ∈ O := fun b h => by
    rcases List.mem_cons.mp h with z | z
    · exact .inl (z ▸ ain)
    · exact (hP b z).imp (fun z => by rw [hO]; exact List.mem_cons_of_mem _ z) id
  have we : ∀ b, We (fun j => if j = i then a :: P' else Os j) b → We Os b ∨ b ∈ O := fun b ⟨j, z⟩ => by
    by_cases hj : j = i
    · simp only [hj, if_true] at z; exact (old b z).imp (fun z => ⟨i, z⟩) id
    · simp only [hj, if_false] at z; exact .inl ⟨j, z⟩
  have kp : Keep (WW (fun a => R a ∨ a ∈ O) Os) H (WW R (fun j => if j = i then a :: P' else Os j)) (upd H a ob') := fun b o e nw => by
    refine ⟨(upd_ne (show b ≠ a from fun z => nw (.inr ⟨i, by rw [z]; exact ain⟩))).trans e, fun z => ?_⟩
    rcases z with z | z
    · exact nw (.inl (.inl z))
    · exact (we b z).elim (fun z => nw (.inr z)) fun z => nw (.inl (.inr z))
  have hi : i < ρ.length := (List.getElem?_eq_some_iff.mp hv).1
  refine ⟨⟨by rw [List.length_set]; exact rel.len, fun j u hu => ?_, fun j hj => ?_, fun j => ?_, fun j k b hb hb' => ?_, fun j b hb z => ?_, fun b z => ?_⟩, fun b o e nw nO => ⟨(upd_ne (show b ≠ a from fun z => nw ⟨i, by rw [z]; exact ain⟩)).trans e, fun z => (we b z).elim nw nO⟩⟩
  · by_cases h : j = i
    · subst h
      rw [List.getElem?_set_self hi] at hu
      cases hu
      refine ⟨.ref a, hx, ?_⟩
      show Rep G _ _ _ _ (if j = j then a :: P' else Os j)
      rw [if_pos rfl]
      exact mk (fun z u Oz hz r => r.mono kp fun b hb o e => by rw [upd_ne (ne b (hz b hb))]; exact e) upd_same
    · rw [List.getElem?_set_ne (Ne.symm h)] at hu
      obtain ⟨x, e, r⟩ := rel.rep j u hu
      refine ⟨x, e, ?_⟩
      show Rep G _ _ _ _ (if j = i then a :: P' else Os j)
      rw [if_neg h]
      exact r.mono kp fun b hb o e => (upd_ne (show b ≠ a from fun z => h (rel.dj j i a (by rw [← z]; exact hb) ain))).trans e
  · by_cases h : j = i
    · subst h; exact absurd (List.getElem?_set_self hi) (hj w)
    · simp only [h, if_false]
      exact rel.nil j fun u hu => hj u (by rw [List.getElem?_set_ne (Ne.symm h)]; exact hu)
  · by_cases h : j = i
    · simp only [h, if_true]
      exact List.nodup_cons.mpr ⟨fun z => ne a (hP a z) rfl, nd⟩
    · simp only [h, if_false]; exact rel.nd j
  · by_cases h : j = i <;> by_cases h' : k = i
    · rw [h, h']
    · simp only [h, h', if_true, if_false] at hb hb'
      exact (old b hb).elim (fun z => absurd (rel.dj k i b hb' z) h') fun z => absurd (.inr z) (rel.dr k b hb')
    · simp only [h, h', if_true, if_false] at hb hb'
      exact (old b hb').elim (fun z => absurd (rel.dj j i b hb z) h) fun z => absurd (.inr z) (rel.dr j b hb)
    · simp only [h, h', if_false] at hb hb'; exact rel.dj j k b hb hb'
  · by_cases h : j = i
    · simp only [h, if_true] at hb
      exact (old b hb).elim (fun q => rel.dr i b q (.inl z)) fun q => nO b q z
    · simp only [h, if_false] at hb; exact rel.dr j b hb (.inl z)
  · by_cases h : b = a
    · subst h; exact ⟨_, upd_same⟩
    · rw [upd_ne h]; exact rel.rt b (.inl z)

/-! ### x.f = value -/
def putFn (f : Str) (ns : List Str) : List Str := if f ∈ ns then ns else ns ++ [f]
def putFv (f : Str) (v : Val) : List Str → List Val → List Val
  | n :: ns, x :: xs => if n = f then v :: xs else x :: putFv f v ns xs
  | _, _ => [v]
theorem putFn_map {f : Str} {y : V} : ∀ fs : List (Str × V), (putF f y fs).map (·.1) = putFn f (fs.map (·.1))
  | [] => by simp [putF, putFn]
  | (g, x) :: r => by
    have ih := putFn_map (f := f) (y := y) r
    unfold putF
    by_cases h : g = f
    · rw [if_pos h]; simp [putFn, h]
    · rw [if_neg h]
      simp only [List.map_cons, ih]
      unfold putFn
      by_cases h2 : f ∈ r.map (·.1)
      · rw [if_pos h2, if_pos (List.mem_cons_of_mem _ h2)]
      · rw [if_neg h2, if_neg (fun z => (List.mem_cons.mp z).elim (fun z => h z.symm) h2)]
        rfl
theorem reps_putF {W W' : Addr → Prop} {H H' : Hp} {P0 O : List Addr} {f : Str} {y : V} {v : Val} (tr : ∀ z u Oz, (∀ b ∈ Oz, b ∈ P0 ∨ b ∈ O) → Rep G W H z u Oz → Rep G W' H' z u Oz) (ry : Rep G W H y v O) (ndO : O.Nodup) :
    ∀ {fs : List (Str × V)} {vs : List Val} {P : List Addr}, Reps G W H (fs.map (·.2)) vs P → (∀ b ∈ P, b ∈ P0) → P.Nodup → (∀ b ∈ P, b ∉ O) →
      ∃ P', Reps G W' H' ((putF f y fs).map (·.2)) (putFv f v (fs.map (·.1)) vs) P' ∧ (∀ b ∈ P', b ∈ P ∨ b ∈ O) ∧ P'.Nodup
  | [], vs, P, r, hs, nd, dj => by
    cases r
    refine ⟨O ++ [], .cons (tr _ _ _ (fun b hb => .inr hb) ry) .nil, fun b hb => .inr (by simpa using hb), by simpa using ndO⟩
  | (g, x) :: fs, vs, P, r, hs, nd, dj => by
    cases r with
    | @cons _ w _ ws O1 O2 r t =>
      obtain ⟨n1, n2, n3⟩ := List.nodup_append.mp nd
      have h2 : ∀ b ∈ O2, b ∈ P0 := fun b hb => hs b (List.mem_append_right _ hb)
      simp only [List.map_cons]
      unfold putF putFv
      by_cases h : g = f
      · rw [if_pos h, if_pos h]
        have t' : Reps G W' H' (fs.map (·.2)) ws O2 := by
          clear r n3 n1 nd dj hs
          generalize fs.map (·.2) = xs at t
          induction ws generalizing xs O2 with
          | nil => cases t; exact .nil
          | cons u us ih =>
            cases t with
            | @cons _ _ _ _ Oa Ob r t =>
              obtain ⟨m1, m2, m3⟩ := List.nodup_append.mp n2
              exact .cons (tr _ _ _ (fun b hb => .inl (h2 b (List.mem_append_left _ hb))) r) (ih m2 (fun b hb => h2 b (List.mem_append_right _ hb)) _ t)
        refine ⟨O ++ O2, .cons (tr _ _ _ (fun b hb => .inr hb) ry) t', fun b hb => ?_, List.nodup_append.mpr ⟨ndO, n2, fun a ha b hb e => dj b (List.mem_append_right _ hb) (e ▸ ha)⟩⟩
        rcases List.mem_append.mp hb with z | z
        · exact .inr z
        · exact .inl (List.mem_append_right _ z)
      · rw [if_neg h, if_neg h]
        obtain ⟨P', q1, q2, q3⟩ := reps_putF tr ry ndO t h2 n2 fun b hb => dj b (List.mem_append_right _ hb)
        refine ⟨O1 ++ P', .cons (tr _ _ _ (fun b hb => .inl (hs b (List.mem_append_left _ hb))) r) q1, fun b hb => ?_, List.nodup_append.mpr ⟨n1, q3, fun a ha b hb e => ?_⟩⟩
        · rcases List.mem_append.mp hb with z | z
          · exact .inl (List.mem_append_left _ z)
          · exact (q2 b z).imp (List.mem_append_right _) id
        · subst e
          exact (q2 a hb).elim (fun z => n3 a ha a z rfl) fun z => dj a (List.mem_append_left _ ha) z
def mSetF (cs : List Nat) (i : Nat) (f : Str) (m : ME) : MS := fun ρ => match m ρ with
  | .ok v ρ1 => (match ρ1[i]? with
    | some (some (.obj true n fs xs)) => if n ∈ cs ∧ fs.length < 1000 then .nx (ρ1.set i (some (.obj true n (putFn f fs) (putFv f v fs xs)))) else .bad
    | _ => .bad)
  | .exc e ρ' => .exc e ρ'
  | .bad => .bad
theorem rep_objO {W : Addr → Prop} {H : Hp} {x : V} {n : Nat} {ns : List Str} {vs : List Val} {O : List Addr} (r : Rep G W H x (.obj true n ns vs) O) : ∃ a C dx fs P, x = .ref a ∧ O = a :: P ∧ H a = some (.ins C dx fs) ∧ G.cn n = some C ∧ ns = fs.map (·.1) ∧ Reps G W H (fs.map (·.2)) vs P := by
  cases r with
  | objO h hc hn r => exact ⟨_, _, _, _, _, rfl, rfl, h, hc, hn, r⟩
theorem vs_setF {cs : List Nat} {i : Nat} {f : Str} {o e : Expr} (F : FldF G X.K cs f) (ho : PE X o (tVar i)) (he : VE G X E p true e m) (hs : swapsWith e (some (.Attribute o f pos')) pos.line X.env = pure false := by rfl) :
    VS G X E bs σ0 (.Assign [.Attribute o f pos'] e pos) (mSetF cs i f m) := by
  refine PS.pre (ps_fld ho he hs) fun D σ H ⟨R, ρ, Os, rel, pin, post⟩ => ⟨R, ρ, Os, rel, ?_⟩
  refine PostS.post (s := true) (f := fun v ρ1 => match ρ1[i]? with
    | some (some (.obj true n fs xs)) => if n ∈ cs ∧ fs.length < 1000 then .nx (ρ1.set i (some (.obj true n (putFn f fs) (putFv f v fs xs)))) else .bad
    | _ => .bad) pin post fun v ρ1 y H1 Os1 O _ post rel1 rep nd k => ?_
  have e0 : Rp R true O = fun a => R a ∨ a ∈ O := setEq fun a => ⟨fun z => z.imp id fun z => z.2, fun z => z.imp id fun z => ⟨rfl, z⟩⟩
  rw [e0] at rel1 rep
  have nO : ∀ a ∈ O, ¬ R a := fun a ha z => let ⟨o, e, nw⟩ := rel.hr a z; (k a o e nw).2.2 ⟨rfl, ha⟩
  split at post
  · rename_i n fs xs hv
    by_cases hn : n ∈ cs ∧ fs.length < 1000
    rotate_left
    · rw [if_neg hn] at post; exact post.elim
    rw [if_pos hn] at post
    obtain ⟨x, hx, rv⟩ := rel1.rep i _ hv
    obtain ⟨a, C, dx, fs', P, rfl, hO, ea, hC, rfl, reps⟩ := rep_objO rv
    obtain ⟨c1, c2⟩ := F _ hn.1 C hC
    have hnd := rel1.nd i
    rw [hO] at hnd
    obtain ⟨nd1, nd2⟩ := List.nodup_cons.mp hnd
    refine ⟨.ref a, hx, a, C, dx, fs', rfl, ea, c1, c2, by simpa using hn.2, ?_⟩
    have djP : ∀ b ∈ P, b ∉ O := fun b hb z => rel1.dr i b (by rw [hO]; exact List.mem_cons_of_mem _ hb) (.inr z)
    obtain ⟨P', _, hP', ndP'⟩ := reps_putF (f := f) (P0 := P) (fun z u Oz _ r => r) rep (nd rfl) reps (fun b hb => hb) nd2 djP
    obtain ⟨r2, k2⟩ := Rel.root (P' := P') (ob' := .ins C dx (putF f y fs')) (w := .obj true n (putFn f (fs'.map (·.1))) (putFv f v (fs'.map (·.1)) xs)) rel1 nO hv hx hO ea hP' ndP' fun tr same => by
      have key : ∀ {fs : List (Str × V)} {vs : List Val} {P2 : List Addr}, Reps G (WW (fun a => R a ∨ a ∈ O) Os1) H1 (fs.map (·.2)) vs P2 → (∀ b ∈ P2, b ∈ P ∨ b ∈ O) → Reps G (WW R (fun j => if j = i then a :: P' else Os1 j)) (upd H1 a (.ins C dx (putF f y fs'))) (fs.map (·.2)) vs P2 := by
        intro fs vs P2 r hP2
        generalize fs.map (·.2) = zs at r
        induction vs generalizing zs P2 with
        | nil => cases r; exact .nil
        | cons u us ih =>
          cases r with
          | cons r t => exact .cons (tr _ _ _ (fun b hb => hP2 b (List.mem_append_left _ hb)) r) (ih (fun b hb => hP2 b (List.mem_append_right _ hb)) _ t)
      exact .objO same hC (putFn_map fs').symm (key ‹_› hP')
    refine post σ _ _ pin r2 fun b o e nw => ?_
    obtain ⟨e1, n1, n2⟩ := k b o e nw
    obtain ⟨e2, n3⟩ := k2 b o e1 n1 fun z => n2 ⟨rfl, z⟩
    exact ⟨e2, n3, id⟩
  · exact post.elim

/-! ### x[i] = value, x a list or a dict of ints and texts -/
/-- a list's item, exchanged -/
theorem reps_trans {W W' : Addr → Prop} {H H' : Hp} {Q0 : Addr → Prop} (tr : ∀ z u Oz, (∀ b ∈ Oz, Q0 b) → Rep G W H z u Oz → Rep G W' H' z u Oz) : ∀ {xs : List V} {vs : List Val} {P : List Addr}, Reps G W H xs vs P → (∀ b ∈ P, Q0 b) → Reps G W' H' xs vs P
  | _, [], _, r, _ => by cases r; exact .nil
  | _, v :: vs, _, r, h => by
    cases r with
    | cons r t => exact .cons (tr _ _ _ (fun b hb => h b (List.mem_append_left _ hb)) r) (reps_trans tr t fun b hb => h b (List.mem_append_right _ hb))
def mPutL (i : Nat) (mi m : ME) : MS := fun ρ => match m ρ with
  | .ok v ρ1 => (match mi ρ1 with
    | .ok (.int k) ρ2 => if ρ2 = ρ1 then (match ρ2[i]? with
      | some (some (.lst true xs)) => (match ixN xs.length k with
        | some j => .nx (ρ2.set i (some (.lst true (xs.set j v))))
        | none => .bad)
      | _ => .bad) else .bad
    | _ => .bad)
  | .exc e ρ' => .exc e ρ'
  | .bad => .bad
theorem vs_putL {i : Nat} {o e ix : Expr} {mi : ME} {sp2 : Bool} (ho : PE X o (tVar i)) (hi : VE G X E true sp2 ix mi) (he : VE G X E p true e m) (hs : swapsWithSole [.Subscript o ix pos'] e pos.line X.env = pure false := by rfl) (hw : swappedStores [.Subscript o ix pos'] e X.env = pure none := by rfl)
    (h1 : (assignEach [.Subscript o ix pos'] X.env).map (·.2) = [assign (.Subscript o ix pos') X.env] := by rfl)
    (ha : ∀ v, assign (.Subscript o ix pos') X.env v = (do
      let ov ← holding [v] (eval o X.env)
      let iv ← holding [v, ov] (eval ix X.env)
      standAt pos'
      holding [v, ov, iv] (setItem ov iv v)
      release [v, ov, iv] []) := by intro _; rfl) : VS G X E bs σ0 (.Assign [.Subscript o ix pos'] e pos) (mPutL i mi m) := by
  refine PS.pre (ps_asg he (pg_sub ho hi set_list ha) hs hw h1) fun D σ H ⟨R, ρ, Os, rel, pin, post⟩ => ⟨R, ρ, Os, rel, ?_⟩
  refine PostS.post (s := true) (f := fun v ρ1 => match mi ρ1 with
    | .ok (.int k) ρ2 => if ρ2 = ρ1 then (match ρ2[i]? with
      | some (some (.lst true xs)) => (match ixN xs.length k with
        | some j => .nx (ρ2.set i (some (.lst true (xs.set j v))))
        | none => .bad)
      | _ => .bad) else .bad
    | _ => .bad) pin post fun v ρ1 y H1 Os1 O _ post rel1 rep nd k => ?_
  have e0 : Rp R true O = fun a => R a ∨ a ∈ O := setEq fun a => ⟨fun z => z.imp id fun z => z.2, fun z => z.imp id fun z => ⟨rfl, z⟩⟩
  rw [e0] at rel1 rep
  have nO : ∀ a ∈ O, ¬ R a := fun a ha z => let ⟨o, e, nw⟩ := rel.hr a z; (k a o e nw).2.2 ⟨rfl, ha⟩
  have kl : KeepE H Os H1 Os1 fun _ => False := k.imp fun _ z => z.elim
  cases hmi : mi ρ1 with
  | bad => rw [hmi] at post; exact post.elim
  | exc ee ρ2 => rw [hmi] at post; exact post.elim
  | ok kv ρ2 =>
    rw [hmi] at post
    cases kv with
    | int kk =>
      dsimp only at post
      by_cases hp : ρ2 = ρ1
      rotate_left
      · rw [if_neg hp] at post; exact post.elim
      rw [if_pos hp] at post
      subst hp
      split at post
      · rename_i xs hv
        cases hj : ixN xs.length kk with
        | none => rw [hj] at post; exact post.elim
        | some j =>
          rw [hj] at post
          dsimp only at post
          obtain ⟨x, hx, rv⟩ := rel1.rep i _ hv
          refine ⟨x, hx, fun a => R a ∨ a ∈ O, ρ2, Os1, rel1, ?_⟩
          rw [hmi]
          intro kv H2 Os2 Ok rel2 rk ndk k2 pure
          cases rk
          obtain ⟨_, rfl, same⟩ := pure rfl
          have rel3 : Rel G (fun a => R a ∨ a ∈ O) H2 σ ρ2 Os2 := rel2.weak fun a z => .inl z
          obtain ⟨x', hx', rv3⟩ := rel3.rep i _ hv
          rw [hx] at hx'
          cases hx'
          have rep3 : Rep G (WW (fun a => R a ∨ a ∈ O) Os2) H2 y v O := rep.mono (fun a o e nw => ⟨same a o e, nw⟩) fun a _ o e => same a o e
          generalize hOi : Os2 i = Oi at rv3
          cases rv3 with
          | @lstO a ys _ P ea r =>
            obtain ⟨w, hw⟩ : ∃ w, xs[j]? = some w := ⟨xs[j]'((ixN_seq hj).2.1), List.getElem?_eq_getElem _⟩
            obtain ⟨z, O1, Oz, O2, e1, e2, rz, set⟩ := r.set hw
            have hnd := rel3.nd i
            rw [hOi] at hnd
            obtain ⟨nd1, nd2⟩ := List.nodup_cons.mp hnd
            rw [e2] at nd2
            obtain ⟨m1, m2, m3⟩ := List.nodup_append.mp nd2
            obtain ⟨m4, m5, m6⟩ := List.nodup_append.mp m2
            have djP : ∀ b ∈ P, b ∉ O := fun b hb z => rel3.dr i b (by rw [hOi]; exact List.mem_cons_of_mem _ hb) (.inr z)
            have hP' : ∀ b ∈ O1 ++ (O ++ O2), b ∈ P ∨ b ∈ O := fun b hb => by
              rw [e2]
              rcases List.mem_append.mp hb with q | q
              · exact .inl (List.mem_append_left _ q)
              · rcases List.mem_append.mp q with q | q
                · exact .inr q
                · exact .inl (List.mem_append_right _ (List.mem_append_right _ q))
            have ndP' : (O1 ++ (O ++ O2)).Nodup := by
              refine List.nodup_append.mpr ⟨m1, List.nodup_append.mpr ⟨nd rfl, m5, fun b hb c hc e => djP c (by rw [e2]; exact List.mem_append_right _ (List.mem_append_right _ hc)) (e ▸ hb)⟩, fun b hb c hc e => ?_⟩
              subst e
              rcases List.mem_append.mp hc with q | q
              · exact djP b (by rw [e2]; exact List.mem_append_left _ hb) q
              · exact m3 b hb b (List.mem_append_right _ q) rfl
            refine ⟨a, ys, kk, j, rfl, rfl, ea, by rw [r.length]; exact hj, ?_⟩
            obtain ⟨r2, k3⟩ := Rel.root (P' := O1 ++ (O ++ O2)) (ob' := .lst (ys.set j y)) (w := .lst true (xs.set j v)) rel3 nO hv hx hOi ea hP' ndP' fun tr same2 => by
              refine .lstO same2 (set _ _ y v O (fun z u Oz hz r => tr z u Oz (fun b hb => ?_) r) (tr _ _ _ (fun b hb => .inr hb) rep3))
              rw [e2]
              rcases List.mem_append.mp (hz b hb) with q | q
              · exact .inl (List.mem_append_left _ q)
              · exact .inl (List.mem_append_right _ (List.mem_append_right _ q))
            refine post σ _ _ pin r2 fun b o e nw => ?_
            obtain ⟨e3, n1, n2⟩ := k b o e nw
            obtain ⟨e4, n3⟩ := k3 b o (same b o e3) n1 fun z => n2 ⟨rfl, z⟩
            exact ⟨e4, n3, id⟩
      · exact post.elim
    | _ => exact post.elim

/-! ### x.append(value) -/
def mApp (i : Nat) (m : ME) : ME := fun ρ => match m ρ with
  | .ok v ρ1 => (match ρ1[i]? with
    | some (some (.lst true xs)) => if xs.length < 16777216 then .ok .non (ρ1.set i (some (.lst true (xs ++ [v])))) else .bad
    | _ => .bad)
  | .exc e ρ' => .exc e ρ'
  | .bad => .bad
end
end VL
/-! VL, part Q: f-strings; is None; facts by names; the head. -/
namespace VL
open PySem L2

/-! ### f-strings -/
def semFmt1 : List Val → Option Val
  | [v] => match semFmt v with
    | some y => some (.str y)
    | none => none
  | _ => none
def mJoin : List ME → Str → ME
  | [], acc => fun ρ => .ok (.str acc) ρ
  | m :: ms, acc => fun ρ => match m ρ with
    | .ok (.str y) ρ1 => if (acc ++ y).length ≤ 16777216 then mJoin ms (acc ++ y) ρ1 else .bad
    | .ok _ _ => .bad
    | .exc e ρ1 => .exc e ρ1
    | .bad => .bad
section
variable {G : Gam} {X : Cx} {E : WX} {p s : Bool} {m : ME} {pos : Pos}
theorem ve_fmt {e : Expr} (h : VE G X E p s e m) : VE G X E p true (.FormattedValue e (-1) none pos) (mFun semFmt1 [m]) := by
  have := ve_fun (G := G) (E := E) (os := [⟨p, s, m⟩]) (pe_fmt (pos := pos) h) (r := fun xs H Q => match xs with
    | [x] => (∃ y : Str, x = .str y ∧ y.length ≤ sizeLine ∧ Q (.str y) H) ∨ ∃ i : Int, x = .int i ∧ i.natAbs.log2 < 1920 ∧ Q (.str (toString i)) H
    | _ => False) (fun σ H Q z => z) (sem := semFmt1) (fun W H xs vs Ol v Q w r hs mk => by
      unfold semFmt1 at hs
      split at hs
      · rename_i v0
        obtain ⟨x, O, rfl, r1⟩ := r.inv1
        split at hs
        · rename_i y hy
          cases hs
          unfold semFmt at hy
          split at hy
          · cases r1
            split at hy
            · rename_i hz
              cases hy
              exact .inl ⟨_, rfl, sz_le hz, mk.same (.str _)⟩
            · cases hy
          · cases r1
            split at hy
            · rename_i hz
              cases hy
              exact .inr ⟨_, rfl, hz, mk.same (.str _)⟩
            · cases hy
          · cases hy
        · cases hs
      · cases hs) wf1
  simpa using this
/-- the parts -/
inductive VJ (G : Gam) (X : Cx) (E : WX) : List Expr → List Op → Prop where
  | nil : VJ G X E [] []
  | cons {e : Expr} {p s : Bool} {m : ME} {es : List Expr} {os : List Op} (h : VE G X E p s e m) (r : VJ G X E es os) : VJ G X E (e :: es) (⟨p, s, m⟩ :: os)
theorem VJ.pj {es : List Expr} {os : List Op} (h : VJ G X E es os) : PJ X es (os.map fun o => rd G E o.p o.s o.m) := by
  induction h with
  | nil => exact .nil
  | cons h r ih => exact .cons h ih
theorem join_of {σ : L2.St} {Q : VK} : ∀ {os : List Op} {acc : Str} {R : Addr → Prop} {H : Hp} {ρ : VEnv} {Os : Nat → List Addr}, Rel G R H σ ρ Os → Post G R E σ H Os (os.all (·.p)) true ρ Q (mJoin (os.map Op.m) acc ρ) → tJs (os.map fun o => rd G E o.p o.s o.m) acc σ H fun out H1 => Q (.str out) H1
  | [], acc, R, H, ρ, Os, rel, post => post (.str acc) H Os [] (rel.weak fun a z => z.elim id fun z => nomatch z.2) (.str _) (fun _ => List.nodup_nil) (KeepE.refl.imp fun a z => nomatch z.2) fun _ => ⟨rfl, rfl, fun _ _ e => e⟩
  | o :: os, acc, R, H, ρ, Os, rel, post => by
    refine ⟨R, ρ, Os, rel, ?_⟩
    rw [List.map_cons] at post
    unfold mJoin at post
    cases hm : o.m ρ with
    | bad => rw [hm] at post; exact post
    | exc e ρ1 => rw [hm] at post; exact post
    | ok v ρ1 =>
      rw [hm] at post
      cases v with
      | str y =>
        dsimp only at post
        by_cases hl : (acc ++ y).length ≤ 16777216
        rotate_left
        · rw [if_neg hl] at post; exact post.elim
        rw [if_pos hl] at post
        intro x H1 Os1 O rel1 rep nd keep pure
        cases rep
        refine ⟨y, rfl, sz_le hl, join_of (rel1.weak fun a z => .inl z) ?_⟩
        exact Post.later (p1 := o.p) (by simp) id post (keep.imp fun _ z => z.elim) pure
      | _ => exact post.elim
theorem ve_join {v1 v2 : Expr} {rest : List Expr} {os : List Op} (h : VJ G X E (v1 :: v2 :: rest) os) : VE G X E (os.all (·.p)) true (.JoinedStr (v1 :: v2 :: rest) pos) (mJoin (os.map Op.m) Str.empty) :=
  PE.pre (pe_joined h.pj) fun σ H Q ⟨R, ρ, Os, rel, post⟩ => join_of rel post

/-! ### facts by names: any test of the part of the heap that the head shows; a def wherever it stands -/
/-- what a property's record names first -/
def getr (K : PySem.W.Frag) (p : Addr) (i : Nat) : Addr := match PySem.W.recIn K p "property" with
  | some l => (match l[i]? with
    | some (.ref g) => g
    | _ => 0)
  | none => 0
structure VDef where
  ad : PySem.W.Frag → Addr
  name : Str
  qual : Str
  params : Arguments
  body : List Stmt
  scope : Scope
  dfl : List He.Dv := []
  kwd : List (Str × He.Dv) := []
def VDef.shape (d : VDef) : He.FnW := some (d.name, d.qual, d.params, .stmts d.body, d.scope, mainGlobals, [], builtinsNs)
def VDef.dvs (K : PySem.W.Frag) (d : VDef) : List V := d.dfl.map (He.Dv.v K)
def VDef.kws (K : PySem.W.Frag) (d : VDef) : List (Str × V) := d.kwd.map fun q => (q.1, q.2.v K)
def VDef.seen (K : PySem.W.Frag) (d : VDef) : He.FnW := match K.lookup (d.ad K) with
  | some ⟨_, _, .func fd, _⟩ => some (fd.name, fd.qualname, fd.params, fd.body, fd.scope, fd.globals, fd.closure, fd.builtins)
  | _ => none
def VDef.good (K : PySem.W.Frag) (d : VDef) : Bool := PySem.W.keepIn K (.ref (d.ad K)) && (match K.lookup (d.ad K) with
  | some ⟨_, _, .func fd, _⟩ => PySem.W.codeIn K fd.code d.qual && (He.dflB K fd.defaults (d.dvs K) && He.kwdB K fd.kwdefaults (d.kws K))
  | _ => false)
abbrev FunV (K : PySem.W.Frag) (d : VDef) (fd : FuncData) : Prop := FunD K d.name d.qual d.params d.body d.scope (d.dvs K) (d.kws K) (d.ad K) fd
theorem VDef.funD {K : PySem.W.Frag} {d : VDef} (e : d.seen K = d.shape) (c : d.good K = true) : ∃ fd, FunV K d fd := by
  unfold VDef.good at c
  rw [Bool.and_eq_true] at c
  obtain ⟨kp, c2⟩ := c
  unfold VDef.seen at e
  cases q : K.lookup (d.ad K) with
  | none => rw [q] at c2; cases c2
  | some o =>
    obtain ⟨oc, od, dt, osl⟩ := o
    rw [q] at c2 e
    cases dt with
    | func fd =>
      obtain ⟨n1, n2, n3, n4, n5, n6, n7, n8, n9, n10, n11, n12, n13, n14, n15⟩ := fd
      simp only [VDef.shape, Option.some.injEq, Prod.mk.injEq] at e
      obtain ⟨h1, h2, h3, h4, h5, h6, h7, h8⟩ := e
      subst h1 h2 h3 h4 h5 h6 h7 h8
      simp only [Bool.and_eq_true] at c2
      obtain ⟨k1, k3, k4⟩ := c2
      exact ⟨_, ⟨oc, od, n8, n9, n10, n11, n12, n13, n14, osl, rfl, q, k1, He.dflB_ok k3, He.kwdB_ok k4⟩, kp⟩
    | _ => cases c2
def obsV (fa : List (PySem.W.Frag → Bool)) (fn : List VDef) (K : PySem.W.Frag) : He.AlD := ((fa.all fun f => f K) && fn.all fun d => d.good K, fn.map fun d => d.seen K)
def SaysV (fa : List (PySem.W.Frag → Bool)) (fn : List VDef) (K : PySem.W.Frag) : Prop := obsV fa fn K = (true, fn.map VDef.shape)
def obsVG (n : Nat) (fa : List (PySem.W.Frag → Bool)) (fn : List VDef) (g : Addr → Option Obj) : He.AlD := obsV fa fn (He.frG g (He.asD g n))
def hookV (n : Nat) (fa : List (PySem.W.Frag → Bool)) (fn : List VDef) : PySem.W.Hook where
  α := He.AlD
  obs := fun s => obsVG n fa fn s.heap.get?
  val := fun _ => (true, fn.map VDef.shape)
  says := fun _ h => ∃ K : PySem.W.Frag, K.In h ∧ SaysV fa fn K
  of := fun _ _ e => ⟨_, He.frG_in, e⟩
  keeps := fun _ _ _ ⟨K, hK, c⟩ k => ⟨K, PySem.W.Frag.In.keeps hK k, c⟩
theorem obsVG_eq {n : Nat} {fa : List (PySem.W.Frag → Bool)} {fn : List VDef} {g : Addr → Option Obj} {s : Shared} (h : ∀ a, g a = s.heap.get? a) : obsVG n fa fn g = (hookV n fa fn).obs s := by
  have e : g = s.heap.get? := funext h
  rw [e]; rfl
theorem SaysV.fact {fa : List (PySem.W.Frag → Bool)} {fn : List VDef} {K : PySem.W.Frag} (c : SaysV fa fn K) (i : Nat) {f : PySem.W.Frag → Bool} (h : fa[i]? = some f := by rfl) : f K = true := by
  have c1 : ((fa.all fun f => f K) && fn.all fun d => d.good K) = true := congrArg (fun z : He.AlD => z.1) c
  exact List.all_eq_true.mp (He.ba c1).1 f (List.mem_of_getElem? h)
theorem SaysV.def_ {fa : List (PySem.W.Frag → Bool)} {fn : List VDef} {K : PySem.W.Frag} (c : SaysV fa fn K) (i : Nat) {d : VDef} (h : fn[i]? = some d := by rfl) : ∃ fd, FunV K d fd := by
  have c1 : ((fa.all fun f => f K) && fn.all fun d => d.good K) = true := congrArg (fun z : He.AlD => z.1) c
  have c2 : (fn.map fun d => d.seen K) = fn.map VDef.shape := congrArg (fun z : He.AlD => z.2) c
  have c3 : (fn.map fun d => d.seen K)[i]? = (fn.map VDef.shape)[i]? := by rw [c2]
  rw [List.getElem?_map, List.getElem?_map, h] at c3
  exact VDef.funD (Option.some.inj c3) (List.all_eq_true.mp (He.ba c1).2 d (List.mem_of_getElem? h))
/-- a def that keeps its promise -/
def Ok (P : Program) (w : World) (K : PySem.W.Frag) (mg : Str → Option Value) (base : Heap) (G : Gam) (d : VDef) (k : Nat) (ps : List Str) (mf : MF) : Prop :=
  ∃ fd, FunV K d fd ∧ FnOk P w K mg base (L2.CX P w) k (d.ad K) fd ps (spV G ps.length mf)
theorem ok_of {P : Program} {w : World} {K : PySem.W.Frag} {mg : Str → Option Value} {base : Heap} {G : Gam} {d : VDef} {k : Nat} {N ps : List Str} {bs : List Bool} {mb : MS} (F : ∃ fd, FunV K d fd) (S : FnScope N ps d.scope) (hn : bs.length = ps.length)
    (hbody : ∀ (cdv : Value) (A : Around) (outer : List Env) (s : Shared) (H : Hp) (E : XK), Room k (A.deeper (PyProof.Rows.envOfC d.qual d.scope s.heap.objs.size (d.ad K) cdv)) → Takes (cxOf (L2.CX P w) P w K mg base N d.qual d.scope (d.ad K) cdv A outer s H E) (fun c d _ H => E c d H) →
      PassesOwn (model P w) (A.deeper (PyProof.Rows.envOfC d.qual d.scope s.heap.objs.size (d.ad K) cdv)) (PyProof.Rows.envOfC d.qual d.scope s.heap.objs.size (d.ad K) cdv) (cxOf (L2.CX P w) P w K mg base N d.qual d.scope (d.ad K) cdv A outer s H E).xe → ∀ σ0, VSs G (cxOf (L2.CX P w) P w K mg base N d.qual d.scope (d.ad K) cdv A outer s H E) (fun c d _ H => E c d H) bs σ0 d.body mb) :
    Ok P w K mg base G d (k + 1) ps (mBody bs N.length mb) := by
  obtain ⟨fd, F⟩ := F
  refine ⟨fd, F, ?_⟩
  obtain ⟨oc, od, dV, kV, doc, pm, an, cdv, ct, osl, e, lk, hcd, _, _⟩ := F.ex
  subst e
  exact fnv_of lk hcd S hn fun A outer s H E hr σ0 => hbody cdv A outer s H E hr (takes_of rfl rfl rfl rfl) (passes_of (X := cxOf (L2.CX P w) P w K mg base N d.qual d.scope (d.ad K) cdv A outer s H E) rfl) σ0
theorem takesF {Y : Cx} : Takes Y WF := fun u s' ⟨_, _, _, _, _, _, _, _, _, _, _, _, _, _, _, _, w⟩ => w.elim
/-- the law's promise -/
theorem law_sp {K : PySem.W.Frag} {G : Gam} (hK : G.K = K) {mf : MF} {ns : List Int} {H : Hp} {a : Addr} {fs : VEnv} (h : mf [.scr ns] = .ok (.bl true) fs) (hO : Only H) (hS : SqL K H a (ns.map V.int)) : spV G 1 mf [.ref a] H (fun v _ => v = .bl true) fun _ _ _ => False := by
  subst hK
  refine ⟨rfl, fun _ => False, [.scr ns], fun _ => [], ⟨rfl, fun i v hv => ?_, fun _ _ => rfl, fun _ => List.nodup_nil, fun _ _ _ h => (nomatch h), fun _ _ h => (nomatch h), fun _ z => z.elim⟩, ?_⟩
  · cases i with
    | succ i => simp at hv
    | zero =>
      simp at hv
      subst hv
      refine ⟨.ref a, rfl, .scr ?_⟩
      rcases hS with (e | ⟨o, e⟩) | e
      · rcases hO a with z | ⟨o, xs, z⟩
        · rw [z] at e; cases e
        · rw [z] at e; cases e
      · exact .inl ⟨o, e, fun z => z.elim id fun ⟨i, z⟩ => nomatch z⟩
      · exact .inr (.inr e)
  · show Post G _ _ _ _ _ _ _ _ _ (mf [.scr ns])
    rw [h]
    intro x H' Os' O rel rep nd k _
    cases rep
    rfl
end
end VL
/-! VL, part R: operators of the text's own classes. -/
namespace VL
open PySem PySem.Spec PyProof.Rows
section
variable {P : Program} {w : World} {A : Around} {E : Value → Shared → Prop} {s : Shared}
theorem int_bin_ref {R : Fin → Shared → Prop} {a : Int} {t : Tok} {x C dx : Addr} {nm : String} {f : Int → Int → Sem Fin} (hx : s.heap.get? x = some (PySem.W.instObj C dx))
   (h : R (.done (.ret .notImplemented)) s) : wpAny (model P w) A (PySem.Builtin.Int.intBinary nm f false ⟨[.int a t, .ref x], []⟩) R E s := by
  unfold PySem.Builtin.Int.intBinary
  refine wpAny_bind (m := slotArgs nm 1 ⟨[.int a t, .ref x], []⟩) (wpAny_of_eq (a := (.int a t, [.ref x])) (by rfl) ?_)
  refine wpAny_bind (m := PySem.Builtin.Int.intOfSelf (.int a t)) (wpAny_of_eq (a := a) (by rfl) ?_)
  refine wpAny_bind (m := asInt? (.ref x)) ?_
  show wpAny _ A (load x >>= fun o => _) _ _ _
  refine wpAny_bind (wpAny_load hx (wpAny_pure ?_))
  exact wpAny_bind (wpAny_rule (wpAny_pure h))
theorem int_bin_call {Q : Value → Shared → Prop} {a : Int} {t : Tok} {x C dx : Addr} {nm : String} {name : Str} {id : String} {f : Int → Int → Sem Fin} (hx : s.heap.get? x = some (PySem.W.instObj C dx))
   (slot : Slot "int" name id) (entry : entryFor table id = some (PySem.Builtin.Int.intBinary nm f false)) (args : argsOk id ⟨[.int a t, .ref x], []⟩) (h : Q .notImplemented s) :
   wpAny (model P w) A (call (.builtin id) [.int a t, .ref x]) Q E s := by
  refine wpAny_call (codeAny_call_builtin slot.plain entry (slot.check _ _ _ _ _ _ _ _ (typeIs_int s a t) args ?_))
  exact int_bin_ref hx h
theorem binop_IK {K : PySem.W.Frag} {op : Operator} {x C f f0 : Addr} {ox : Obj} {od : Option Obj} {i : Int} {t : Tok} {idl : String} {Q : Value → Shared → Prop} (X : K.In s.heap) (J : PySem.W.InstAt s.heap x ox C od) (hc : PySem.W.selfFirst K C = true)
    (hs : PySem.W.findIn K (.ref C) (PySem.dunder op.info.2) = some (some (.ref f0))) (hsr : PySem.W.findIn K (.ref C) (dunderR op.info.2) = some (some (.ref f))) (hf : PySem.W.isFn K (.ref f) = true)
    (fillsT : fillsNumberSlot (.type "int") op.info.2 = pure true) (hsub : PySem.W.subIn K (.ref C) (.type "int") = some false) (slot : Slot "int" (PySem.dunder op.info.2) idl)
    (hcall : ∀ Q : Value → Shared → Prop, Q .notImplemented s → wpAny (model P w) A (call (.builtin idl) [.int i t, .ref x]) Q E s)
    (h : wpAny (model P w) A (call (.ref f) [.ref x, .int i t]) (PySem.W.CmpBack Q) E s) : wpAny (model P w) A (binaryOp op (.int i t) (.ref x)) Q E s := by
  obtain ⟨cd, rest, hcd, hm⟩ := PySem.W.ksp_first hc
  rcases hi : op.info with ⟨sym, nm⟩
  rw [hi] at hs hsr fillsT slot
  dsimp only at hs hsr fillsT slot
  have one := PySem.W.ksp_try X J hsr hf h
  simp only [binaryOp, hi]
  refine wpAny_holding (wpAny_bind ?_)
  simp only [binaryOp1]
  refine wpAny_bind (wpAny_typeOf (typeIs_int s i t) (wpAny_bind (J.type.here (wpAny_bind (wpAny_of_eq fillsT ?_)))))
  have hne : (Value.type "int" == Value.ref C) = false := by first | rfl | simp
  simp only [hne, Bool.false_eq_true, if_false]
  refine wpAny_bind ((PySem.W.fills_K X hcd hm hs).here ?_)
  simp only [Bool.and_self, if_true]
  refine wpAny_bind ((PySem.W.looks_subIn X hsub).here ?_)
  have hpy : numberSlotInPython (.type "int") nm = pure false := rfl
  simp only [Bool.false_eq_true, if_false, pure_bind, Bool.not_false, Bool.and_self, if_true, hpy]
  refine wpAny_bind (wpAny_tryMethod_declines (typeIs_int s i t) slot (hcall _ ⟨rfl, ?_⟩))
  refine wpAny_bind (wpAny_mono one (fun r s' z => ?_) fun _ _ e => e)
  obtain ⟨v, rfl, hq⟩ := z
  exact wpAny_bind (wpAny_rule (wpAny_pure (wpAny_pure hq)))
/-- .. the method of that name that the class has from object, bound -/
theorem ifBound_slot {M : Model} {K : PySem.W.Frag} {x C : Addr} {ox : Obj} {od : Option Obj} {name : Str} {id : String} {args : List Value} {Q : Option Value → Shared → Prop} (X : K.In s.heap) (J : PySem.W.InstAt s.heap x ox C od)
    (hs : PySem.W.findIn K (.ref C) name = some (some (.builtin id))) (hb : bindSpecial (.builtin id) (.ref x) = pure (.builtin id, [.ref x])) (h : wpAny M A (call (.builtin id) (.ref x :: args)) (fun v => Q (some v)) E s) :
    wpAny M A (callSpecialIfBound? (.ref x) name args) Q E s := by
  simp only [callSpecialIfBound?, bindSpecialIfBound?]
  refine wpAny_holding (wpAny_bind (wpAny_bind (wpAny_bind (J.type.here ((PySem.W.looks_findIn X hs).here ?_)))))
  simp only [hb]
  refine wpAny_bind (wpAny_askSetting (wpAny_ite ?_))
  have fin : wpAny M A (call (.builtin id) ([.ref x] ++ args) >>= fun v => pure (some v)) Q E s := wpAny_bind (wpAny_mono h (fun v s' h' => wpAny_pure h') fun _ _ h' => h')
  split
  · exact wpAny_bind (wpAny_pure (wpAny_pure (by exact fin)))
  · exact wpAny_tryCatch (wpAny_bind (wpAny_pure (wpAny_pure (by exact fin))))
theorem bind_objne (self : Value) : bindSpecial (.builtin "object.__ne__") self = pure (.builtin "object.__ne__", [self]) :=
  (Slot.of (T := "object") (name := "__ne__") (owner := "object") (n := "__ne__") (by rw [typeLookup_type, builtinLookup_eq_fast]; kernel_rfl) (by decide +kernel) (by decide +kernel) (by decide +kernel)
    (.inl (by decide +kernel)) (by rw [isSubtype_type]; kernel_rfl)).bind self
theorem plain_objne : plainId "object.__ne__" = true := by decide +kernel
/-- x != b by object.__ne__, through the class's own __eq__ -/
theorem try_ne {K : PySem.W.Frag} {x C f : Addr} {ox : Obj} {od : Option Obj} {b : Value} {Q : Value → Shared → Prop} (hu : A.units + 1 < cLine) (X : K.In s.heap) (J : PySem.W.InstAt s.heap x ox C od)
    (hn : PySem.W.findIn K (.ref C) "__ne__" = some (some (.builtin "object.__ne__"))) (ho : PySem.W.subIn K (.ref C) (.type "object") = some true)
    (he : PySem.W.findIn K (.ref C) "__eq__" = some (some (.ref f))) (hf : PySem.W.isFn K (.ref f) = true)
    (h : wpAny (model P w) A.in1 (call (.ref f) [.ref x, b]) (fun v s' => ∃ k, v = .bool k ∧ Q (.bool (!k)) s') E s) : wpAny (model P w) A (tryCompare (.ref x) "__ne__" b) (fun r s' => ∃ v, r = some v ∧ Q v s') E s := by
  unfold tryCompare
  have hi : PySem.W.Looks (model P w) s.heap (isInstance (.ref x) (.type "object")) true := J.type.andThen (PySem.W.looks_subIn X ho)
  refine wpAny_bind (ifBound_slot X J hn (bind_objne _) (wpAny_call (codeAny_call_builtin plain_objne F.cmpEntry_ne (PySem.W.check_slot F.cmpKind_ne F.cmpSplit_ne hi (F.cmpArgs_ne _ _) ?_))))
  unfold Builtin.«object.__ne__»
  refine wpAny_bind (m := slotArgs "__ne__" 1 ⟨[.ref x, b], []⟩) (wpAny_of_eq (a := (.ref x, [b])) (by rfl) ?_)
  dsimp only
  refine wpAny_bind (wpAny_cRoomFor hu ?_)
  refine wpAny_bind (PySem.W.ifBound_K X J he hf (wpAny_mono h (fun v s' hv => ?_) fun _ _ e => e))
  obtain ⟨k, rfl, hq⟩ := hv
  refine wpAny_bind (wpAny_truthy_bool (wpAny_pure ?_))
  exact wpAny_pure ⟨_, rfl, hq⟩
/-- x op b where the left has its own way -/
theorem cmp_left {K : PySem.W.Frag} {x C : Addr} {ox : Obj} {od : Option Obj} {op : CmpOp} {b tb : Value} {Q : Value → Shared → Prop} (hu : A.units < cLine) (X : K.In s.heap) (J : PySem.W.InstAt s.heap x ox C od) (hb : PySem.W.Looks (model P w) s.heap (typeOf b) tb) (hn : PySem.W.notFirst K C tb = true)
    (one : wpAny (model P w) A (tryCompare (.ref x) (cmpInfo op).2.1 b) (fun r s' => ∃ v, r = some v ∧ Q v s') E s) : wpAny (model P w) A (richCompare op (.ref x) b) Q E s := by
  unfold richCompare
  simp only [oneThing_ref]
  refine wpAny_holding (wpAny_bind (wpAny_cRoomFor hu (wpAny_bind (J.type.here (wpAny_bind (hb.here ?_))))))
  by_cases q : (Value.ref C != tb) = true
  · rw [if_pos q]
    have e : PySem.W.subIn K tb (.ref C) = some false := by
      rcases Bool.or_eq_true_iff.mp hn with e | e
      · rw [beq_iff_eq.mp e] at q; simp at q
      · exact beq_iff_eq.mp e
    refine wpAny_bind ((PySem.W.looks_subIn X e).here ?_)
    simp only [Bool.false_eq_true, if_false]
    refine wpAny_bind (wpAny_mono one (fun r s' z => ?_) fun _ _ e => e)
    obtain ⟨v, rfl, hq⟩ := z
    exact wpAny_pure hq
  · rw [if_neg q]
    refine wpAny_bind (wpAny_pure ?_)
    simp only [Bool.false_eq_true, if_false]
    refine wpAny_bind (wpAny_mono one (fun r s' z => ?_) fun _ _ e => e)
    obtain ⟨v, rfl, hq⟩ := z
    exact wpAny_pure hq
/-- i op x where only the right knows -/
theorem cmp_right {K : PySem.W.Frag} {x C : Addr} {ox : Obj} {od : Option Obj} {op : CmpOp} {i : Int} {t : Tok} {idl : String} {Q : Value → Shared → Prop} (hu : A.units < cLine) (X : K.In s.heap) (J : PySem.W.InstAt s.heap x ox C od) (hsub : PySem.W.subIn K (.ref C) (.type "int") = some false)
    (slot : Slot "int" (cmpInfo op).2.1 idl) (hcall : ∀ Q : Value → Shared → Prop, Q .notImplemented s → wpAny (model P w) A (call (.builtin idl) [.int i t, .ref x]) Q E s)
    (one : wpAny (model P w) A (tryCompare (.ref x) (cmpInfo op).2.2 (.int i t)) (fun r s' => ∃ v, r = some v ∧ Q v s') E s) : wpAny (model P w) A (richCompare op (.int i t) (.ref x)) Q E s := by
  unfold richCompare
  simp only [(typeIs_int s i t).oneThing_none]
  refine wpAny_holding (wpAny_bind (wpAny_cRoomFor hu (wpAny_bind (wpAny_typeOf (typeIs_int s i t) (wpAny_bind (J.type.here ?_))))))
  rw [if_pos (show (Value.type "int" != Value.ref C) = true from by first | rfl | simp)]
  refine wpAny_bind ((PySem.W.looks_subIn X hsub).here ?_)
  simp only [Bool.false_eq_true, if_false, Bool.not_false, if_true]
  refine wpAny_bind (m := tryCompare (.int i t) _ (.ref x)) ?_
  unfold tryCompare
  refine wpAny_bind (wpAny_callSpecialIfBound?_slot (typeIs_int s i t) slot (hcall _ (wpAny_pure ?_)))
  refine wpAny_bind (wpAny_mono one (fun r s' z => ?_) fun _ _ e => e)
  obtain ⟨v, rfl, hq⟩ := z
  exact wpAny_pure hq
theorem try_eq {K : PySem.W.Frag} {x C f : Addr} {ox : Obj} {od : Option Obj} {nm : Str} {b : Value} {Q : Value → Shared → Prop} (X : K.In s.heap) (J : PySem.W.InstAt s.heap x ox C od) (he : PySem.W.findIn K (.ref C) nm = some (some (.ref f))) (hf : PySem.W.isFn K (.ref f) = true)
    (h : wpAny (model P w) A (call (.ref f) [.ref x, b]) (PySem.W.CmpBack Q) E s) : wpAny (model P w) A (tryCompare (.ref x) nm b) (fun r s' => ∃ v, r = some v ∧ Q v s') E s := by
  unfold tryCompare
  refine wpAny_bind (PySem.W.ifBound_K X J he hf (wpAny_mono h (fun v s' hv => ?_) fun _ _ e => e))
  cases v <;> first | exact hv.elim | exact wpAny_pure ⟨_, rfl, hv⟩
end
end VL
/-! VL, part S: operators of the text's own classes, as functions on trees. -/
namespace VL
open PySem L2

def voidR : RE → RE
  | .ok v _ => .ok v [none, none]
  | .exc e _ => .exc e [none, none]
  | .bad => .bad
/-- a op b: the left's own def, or the right's for an int on the left -/
def mfBin (c : Nat) (ml mr : MF) : MF := fun vs => match vs with
  | [.obj o n fs xs, .int i] => if n = c then voidR (ml [.obj o n fs xs, .int i]) else .bad
  | [.obj o n fs xs, .obj p k gs ys] => if n = c ∧ k = c then voidR (ml [.obj o n fs xs, .obj p k gs ys]) else .bad
  | [.int i, .obj o n fs xs] => if n = c then voidR (mr [.obj o n fs xs, .int i]) else .bad
  | _ => .bad
def boolR (g : Bool → Bool) : RE → RE
  | .ok (.bl b) _ => .ok (.bl (g b)) [none, none]
  | .exc e _ => .exc e [none, none]
  | _ => .bad
/-- a == b, a != b by __eq__ (g: what is made of its answer) -/
def mfCmp (g : Bool → Bool) (c : Nat) (ml : MF) : MF := fun vs => match vs with
  | [.obj o n fs xs, .obj p k gs ys] => if n = c ∧ k = c then boolR g (ml [.obj o n fs xs, .obj p k gs ys]) else .bad
  | [.obj o n fs xs, v] => if n = c ∧ (tyName v).isSome = true then boolR g (ml [.obj o n fs xs, v]) else .bad
  | [.int i, .obj o n fs xs] => if n = c then boolR g (ml [.obj o n fs xs, .int i]) else .bad
  | _ => .bad
section
variable {G : Gam} {R : Addr → Prop} {H : Hp}
theorem Rel.void {σ : L2.St} {ρ : VEnv} {Os : Nat → List Addr} (rel : Rel G R H σ ρ Os) (τ : L2.St) : Rel G R H τ (τ.map fun _ => none) (fun _ => []) := by
  refine ⟨by simp, fun i v hv => ?_, fun _ _ => rfl, fun _ => List.nodup_nil, fun _ _ _ h => (nomatch h), fun _ _ h => (nomatch h), rel.rt⟩
  rw [List.getElem?_map] at hv
  cases e : τ[i]? with
  | none => rw [e] at hv; cases hv
  | some o => rw [e] at hv; cases hv
theorem KeepE.void {H' : Hp} {Os Os' : Nat → List Addr} {O : Addr → Prop} (k : KeepE H Os H' Os' O) : KeepE H Os H' (fun _ => []) O := fun a o e nw => let ⟨e1, _, n2⟩ := k a o e nw; ⟨e1, (fun ⟨i, z⟩ => nomatch z), n2⟩
theorem we_nil {a : Addr} : ¬ We (fun _ => []) a := fun ⟨i, z⟩ => nomatch z
theorem Post.unvoid {E : WX} {x y : V} {τ : L2.St} {Os : Nat → List Addr} {ρ ρ2 : VEnv} {Q : VK} {r : RE} (post : Post G R E [some x, some y] H Os false true ρ Q (voidR r)) (hE : ∀ c d H', E c d [some x, some y] H' → E c d τ H') : Post G R E τ H Os false true ρ2 Q r := by
  cases r with
  | bad => exact post
  | exc e ρ' => exact fun c d H' Os' rel rx k => hE _ _ _ (post c d H' (fun _ => []) (rel.void _) (rx.mono fun a o e nw => ⟨e, fun z => nw (z.imp id fun z => (we_nil z).elim)⟩) k.void)
  | ok v ρ' => exact fun x' H' Os' O rel rep nd k _ => post x' H' (fun _ => []) O (rel.void _) (rep.weakW fun a z => z.imp id fun z => (we_nil z).elim) nd k.void fun z => by cases z
theorem Rel.swap {x y : V} {v u : Val} {Oa : Nat → List Addr} (rel : Rel G R H [some x, some y] [some v, some u] Oa) : Rel G R H [some y, some x] [some u, some v] (fun j => match j with | 0 => Oa 1 | 1 => Oa 0 | _ => []) := by
  have we : ∀ a, We (fun j => match j with | 0 => Oa 1 | 1 => Oa 0 | _ => []) a ↔ We Oa a := fun a => by
    constructor
    · rintro ⟨j, z⟩
      match j, z with
      | 0, z => exact ⟨1, z⟩
      | 1, z => exact ⟨0, z⟩
      | _ + 2, z => exact nomatch z
    · rintro ⟨j, z⟩
      match j, z with
      | 0, z => exact ⟨1, z⟩
      | 1, z => exact ⟨0, z⟩
      | j + 2, z => rw [rel.nil (j + 2) (fun v hv => by simp at hv)] at z; cases z
  have hw : WW R Oa = WW R (fun j => match j with | 0 => Oa 1 | 1 => Oa 0 | _ => []) := setEq fun a => by unfold WW; rw [we a]
  refine ⟨rfl, fun i w hw' => ?_, fun i hi => ?_, fun i => ?_, fun i j a ha hb => ?_, fun i a ha => ?_, rel.rt⟩
  · match i, hw' with
    | 0, hw' =>
      simp at hw'; subst hw'
      obtain ⟨z, e, r⟩ := rel.rep 1 _ rfl
      exact ⟨z, by simpa using e, hw ▸ r⟩
    | 1, hw' =>
      simp at hw'; subst hw'
      obtain ⟨z, e, r⟩ := rel.rep 0 _ rfl
      exact ⟨z, by simpa using e, hw ▸ r⟩
    | i + 2, hw' => simp at hw'
  · match i, hi with
    | 0, hi => exact absurd rfl (hi u)
    | 1, hi => exact absurd rfl (hi v)
    | i + 2, hi => rfl
  · match i with
    | 0 => exact rel.nd 1
    | 1 => exact rel.nd 0
    | i + 2 => exact List.nodup_nil
  · match i, j, ha, hb with
    | 0, 0, _, _ => rfl
    | 1, 1, _, _ => rfl
    | 0, 1, ha, hb => have := rel.dj 1 0 a ha hb; omega
    | 1, 0, ha, hb => have := rel.dj 0 1 a ha hb; omega
    | i + 2, _, ha, _ => exact nomatch ha
    | 0, j + 2, _, hb => exact nomatch hb
    | 1, j + 2, _, hb => exact nomatch hb
  · match i, ha with
    | 0, ha => exact rel.dr 1 a ha
    | 1, ha => exact rel.dr 0 a ha
    | i + 2, ha => exact nomatch ha
/-- the addresses by other names -/
theorem post_os {E : WX} {τ : L2.St} {Os Os2 : Nat → List Addr} {ρ : VEnv} {Q : VK} {r : RE} (post : Post G R E τ H Os false true ρ Q r) (h : ∀ a, We Os2 a ↔ We Os a) : Post G R E τ H Os2 false true ρ Q r := by
  cases r with
  | bad => exact post
  | exc e ρ' => exact fun c d H' Os' rel rx k => post c d H' Os' rel rx fun a o e nw => k a o e fun z => nw ((h a).mp z)
  | ok v ρ' => exact fun x' H' Os' O rel rep nd k _ => post x' H' Os' O rel rep nd (fun a o e nw => k a o e fun z => nw ((h a).mp z)) fun z => by cases z
/-- the two operands of a promise of two -/
theorem sp_two {n : Nat} {mf : MF} {x y : V} {Q : VK} {E : XK} (h : spV G n mf [x, y] H Q E) : n = 2 ∧ ∃ R v u Oa, Rel G R H [some x, some y] [some v, some u] Oa ∧ Rep G (WW R Oa) H x v (Oa 0) ∧ Rep G (WW R Oa) H y u (Oa 1) ∧ Post G R (fun c d _ H => E c d H) [some x, some y] H Oa false true [some v, some u] Q (mf [v, u]) := by
  obtain ⟨hn, R, vs, Oa, rel, post⟩ := h
  have hl := rel.len
  match vs, rel, post, hl with
  | [v, u], rel, post, _ =>
    obtain ⟨x', e, r⟩ := rel.rep 0 v rfl
    obtain ⟨y', e', r'⟩ := rel.rep 1 u rfl
    have ex : x = x' := by simpa using e
    have ey : y = y' := by simpa using e'
    subst ex ey
    exact ⟨by simpa using hn.symm, R, v, u, Oa, rel, r, r', post⟩
/-- what comes of a promise of mfBin -/
theorem bin_own {c : Nat} {C : Addr} {ml mr : MF} {x y : V} {Q : VK} {E : XK} (hc : G.cn c = some C) (h : spV G 2 (mfBin c ml mr) [x, y] H Q E) :
    (∃ a dx fs, x = .ref a ∧ H a = some (.ins C dx fs) ∧ ((∃ i, y = .int i) ∨ ∃ b dy gs, y = .ref b ∧ H b = some (.ins C dy gs)) ∧ spV G 2 ml [x, y] H Q E) ∨
    (∃ i b dy gs, x = .int i ∧ y = .ref b ∧ H b = some (.ins C dy gs) ∧ spV G 2 mr [y, x] H Q E) := by
  obtain ⟨_, R, v, u, Oa, rel, r1, r2, post⟩ := sp_two h
  unfold mfBin at post
  split at post
  · rename_i o n fs xs i hvu
    cases hvu
    by_cases hn : n = c
    · rw [if_pos hn] at post
      subst hn
      obtain ⟨a, C', dx, fs', rfl, ea, hC, _⟩ := rep_obj r1
      rw [hc] at hC; cases hC
      obtain ⟨j, rfl⟩ : ∃ j, y = .int j := by generalize Oa 1 = O2 at r2; cases r2; exact ⟨_, rfl⟩
      exact .inl ⟨a, dx, fs', rfl, ea, .inl ⟨_, rfl⟩, rfl, R, [_, _], Oa, rel, post.unvoid fun _ _ _ z => z⟩
    · rw [if_neg hn] at post; exact post.elim
  · rename_i o n fs xs p k gs ys hvu
    cases hvu
    by_cases hn : n = c ∧ k = c
    · rw [if_pos hn] at post
      obtain ⟨rfl, rfl⟩ := hn
      obtain ⟨a, C', dx, fs', rfl, ea, hC, _⟩ := rep_obj r1
      rw [hc] at hC; cases hC
      obtain ⟨b, C', dy, gs', rfl, eb, hC, _⟩ := rep_obj r2
      rw [hc] at hC; cases hC
      exact .inl ⟨a, dx, fs', rfl, ea, .inr ⟨b, dy, gs', rfl, eb⟩, rfl, R, [_, _], Oa, rel, post.unvoid fun _ _ _ z => z⟩
    · rw [if_neg hn] at post; exact post.elim
  · rename_i i o n fs xs hvu
    cases hvu
    by_cases hn : n = c
    · rw [if_pos hn] at post
      subst hn
      obtain ⟨b, C', dy, gs', rfl, eb, hC, _⟩ := rep_obj r2
      rw [hc] at hC; cases hC
      obtain rfl : x = .int i := by generalize Oa 0 = O2 at r1; cases r1; rfl
      refine .inr ⟨i, b, dy, gs', rfl, rfl, eb, rfl, R, [_, _], _, rel.swap, ?_⟩
      have := post.unvoid (τ := [some (.ref b), some (.int i)]) (ρ2 := [some (.obj o n fs xs), some (.int i)]) fun _ _ _ z => z
      refine post_os this fun a => ?_
      constructor
      · rintro ⟨j, z⟩
        match j, z with
        | 0, z => exact ⟨1, z⟩
        | 1, z => exact ⟨0, z⟩
        | _ + 2, z => exact nomatch z
      · rintro ⟨j, z⟩
        match j, z with
        | 0, z => exact ⟨1, z⟩
        | 1, z => exact ⟨0, z⟩
        | j + 2, z => rw [rel.nil (j + 2) (fun v hv => by simp at hv)] at z; cases z
    · rw [if_neg hn] at post; exact post.elim
  · exact post.elim

/-- what the class must have for an operator: nm its name in the tables -/
structure OwnOp (K : PySem.W.Frag) (C : Addr) (nm : String) (f g : Addr) : Prop where
  sf : PySem.W.selfFirst K C = true
  l : PySem.W.findIn K (.ref C) (PySem.dunder nm) = some (some (.ref f))
  lf : PySem.W.isFn K (.ref f) = true
  r : PySem.W.findIn K (.ref C) (dunderR nm) = some (some (.ref g))
  rf : PySem.W.isFn K (.ref g) = true
  tl : (PySem.W.findIn K (.type "int") (PySem.dunder nm)).isSome = true
  tr : (PySem.W.findIn K (.type "int") (dunderR nm)).isSome = true
  ul : PySem.W.subIn K (.type "int") (.ref C) = some false
  ur : PySem.W.subIn K (.ref C) (.type "int") = some false
/-- what int has for it -/
structure IntOp (op : Operator) (idl : String) : Prop where
  fills : fillsNumberSlot (.type "int") op.info.2 = pure true
  slot : Slot "int" (PySem.dunder op.info.2) idl
  call : ∀ {P : Program} {w : World} {A : Around} {E : Value → Shared → Prop} {s : Shared} {Q : Value → Shared → Prop} {a : Int} {t : Tok} {x C dx : Addr}, s.heap.get? x = some (PySem.W.instObj C dx) → Q .notImplemented s → wpAny (model P w) A (call (.builtin idl) [.int a t, .ref x]) Q E s
theorem int_add : IntOp .Add "int.__add__" := ⟨PySem.F.fills_int_add, PySem.F.slot_int_add, fun hx h => int_bin_call hx PySem.F.slot_int_add PySem.F.entry_int_add (PySem.F.args_int_add_2 _ _) h⟩
theorem int_sub : IntOp .Sub "int.__sub__" := ⟨PySem.F.fills_int_sub, PySem.F.slot_int_sub, fun hx h => int_bin_call hx PySem.F.slot_int_sub PySem.F.entry_int_sub (PySem.F.args_int_sub_2 _ _) h⟩
theorem int_mul : IntOp .Mult "int.__mul__" := ⟨PySem.F.fills_int_mul, PySem.F.slot_int_mul, fun hx h => int_bin_call hx PySem.F.slot_int_mul PySem.F.entry_int_mul (PySem.F.args_int_mul_2 _ _) h⟩
section
variable {X : Cx} {E : WX} {a b : Expr} {p1 p2 s1 s2 : Bool} {m1 m2 : ME} {pos : Pos} {C f g : Addr} {c : Nat} {ml mr : MF}
theorem ins_here {pins : List (Addr × Obj)} {σ : L2.St} {H : Hp} {s : Shared} {x C dx : Addr} {fs : List (Str × V)} (I : Inv X pins σ H s) (e : H x = some (.ins C dx fs)) : s.heap.get? x = some (PySem.W.instObj C dx) ∧ ∃ od, PySem.W.InstAt s.heap x (PySem.W.instObj C dx) C (some od) := by
  obtain ⟨mA, O, _⟩ := ins_get I.hok e
  obtain ⟨od, J, _⟩ := O.look
  exact ⟨J.at_, od, J⟩
theorem bin_run {op : Operator} {idl : String} (T : OwnOp X.K C op.info.2 f g) (B : IntOp op idl) (hc : G.cn c = some C) (hl : CalV G X E (.ref f) 2 ml []) (hr : CalV G X E (.ref g) 2 mr []) (pins : List (Addr × Obj)) (s : Shared) (σ : L2.St) (H : Hp) (x y : V) (v u : Value) (Q : VK)
    (I : Inv X pins σ H s) (rx : RelV x v) (ry : RelV y u) (h : spV G 2 (mfBin c ml mr) [x, y] H Q (WE E σ)) : wpAny (model X.prog X.w) X.A (binaryOp op v u) (EP X pins σ Q) X.xe s := by
  obtain ⟨m, hF⟩ := I.fr
  have back : ∀ {w : Value} {s' : Shared}, EP X pins σ Q w s' → PySem.W.CmpBack (EP X pins σ Q) w s' := fun ⟨z, H', I', rz, q⟩ => SlX.cmpback rz ⟨z, H', I', rz, q⟩
  rcases bin_own hc h with ⟨x0, dx, fs, rfl, ea, hy, q⟩ | ⟨i, b0, dy, gs, rfl, rfl, eb, q⟩
  · cases rx
    obtain ⟨hx, od, J⟩ := ins_here I ea
    have one := thn (hl pins s σ H [.ref x0, y] [.ref x0, u] Q I (.cons rfl (.cons ry .nil)) (by simpa using q)) fun w s' z => back z
    rcases hy with ⟨i, rfl⟩ | ⟨b0, dy, gs, rfl, eb⟩
    · obtain ⟨t, rfl⟩ := ry
      obtain ⟨fo, hfo⟩ := Option.isSome_iff_exists.mp T.tl
      obtain ⟨ro, hro⟩ := Option.isSome_iff_exists.mp T.tr
      exact PySem.W.ksp_binT hF I.ok.mod.kin J (by rfl) T.sf T.l T.lf T.r (.inr ⟨g, rfl⟩) hfo hro T.ul one
    · cases ry
      obtain ⟨hy, od', J'⟩ := ins_here I eb
      exact PySem.W.binop_K hF I.ok.mod.kin J J'.type T.sf T.l T.lf one
  · obtain ⟨t, rfl⟩ := rx
    cases ry
    obtain ⟨hy, od, J⟩ := ins_here I eb
    have one := thn (hr pins s σ H [.ref b0, .int i] [.ref b0, .int i t] Q I (.cons rfl (.cons ⟨t, rfl⟩ .nil)) (by simpa using q)) fun w s' z => back z
    exact binop_IK I.kIn J T.sf T.l T.r T.rf B.fills T.ur B.slot (fun Q h => B.call hy h) one
theorem ve_ownbin {op : Operator} {idl : String} (T : OwnOp X.K C op.info.2 f g) (B : IntOp op idl) (hc : G.cn c = some C) (hl : CalV G X E (.ref f) 2 ml []) (hr : CalV G X E (.ref g) 2 mr []) (h1 : VE G X E p1 true a m1) (h2 : VE G X E p2 true b m2) :
    VE G X E (p1 && p2) true (.BinOp a op b pos) (mCall (mfBin c ml mr) [.v ⟨p1, true, m1⟩, .v ⟨p2, true, m2⟩]) := by
  refine ⟨fun pins s σ H Q I h => ?_⟩
  have q := call_of (E := E) (as := [.v ⟨p1, true, m1⟩, .v ⟨p2, true, m2⟩]) (n := 2) trivial rfl rfl (σ := σ) (H := H) (Q := Q) (mf := mfBin c ml mr) (by simpa [argsP] using h)
  refine wpAny_BinOp (thn (h1.run pins s σ H _ I q) fun v s1 hv => ?_)
  obtain ⟨x, H1, I1, rx, q1⟩ := hv
  refine thn (h2.run pins s1 σ H1 _ I1 q1) fun u s2 hu => ?_
  obtain ⟨y, H2, I2, ry, q2⟩ := hu
  exact bin_run T B hc hl hr pins s2 σ H2 x y v u Q I2 rx ry q2
end

/-! ### a == b, a != b -/
theorem cmp_own {g : Bool → Bool} {c : Nat} {C : Addr} {ml : MF} {x y : V} {Q : VK} {E : XK} (hc : G.cn c = some C) (h : spV G 2 (mfCmp g c ml) [x, y] H Q E) :
    (∃ a dx fs, x = .ref a ∧ H a = some (.ins C dx fs) ∧ ((∃ b dy gs, y = .ref b ∧ H b = some (.ins C dy gs)) ∨ ∃ t, t ∈ ["NoneType", "bool", "int", "str", "tuple", "list", "dict"] ∧ TyX G.K H y (.type t)) ∧ spV G 2 ml [x, y] H (fun z H' => ∃ k, z = .bl k ∧ Q (.bl (g k)) H') E) ∨
    (∃ i b dy gs, x = .int i ∧ y = .ref b ∧ H b = some (.ins C dy gs) ∧ spV G 2 ml [y, x] H (fun z H' => ∃ k, z = .bl k ∧ Q (.bl (g k)) H') E) := by
  obtain ⟨_, R, v, u, Oa, rel, r1, r2, post⟩ := sp_two h
  have fin : ∀ {τ : L2.St} {r : RE} {ρ2 : VEnv} {Os : Nat → List Addr}, (∀ a, We Os a ↔ We Oa a) → Post G R (fun c d _ H => E c d H) [some x, some y] H Oa false true [some v, some u] Q (boolR g r) → Post G R (fun c d _ H => E c d H) τ H Os false true ρ2 (fun z H' => ∃ k, z = .bl k ∧ Q (.bl (g k)) H') r := by
    intro τ r ρ2 Os hw post
    cases r with
    | bad => exact post
    | exc e ρ' => exact fun c d H' Os' rel rx k => post c d H' (fun _ => []) (rel.void _) (rx.mono fun a o e nw => ⟨e, fun z => nw (z.imp id fun z => (we_nil z).elim)⟩) fun a o e nw => k.void a o e fun z => nw ((hw a).mp z)
    | ok w ρ' =>
      cases w with
      | bl k =>
        intro x' H' Os' O rel rep nd kk _
        cases rep
        refine ⟨k, rfl, post (.bl (g k)) H' (fun _ => []) [] ((rel.void _).weak fun a z => z.elim .inl fun z => nomatch z.2) (.bl _) (fun _ => List.nodup_nil) (fun a o e nw => ?_) fun z => by cases z⟩
        obtain ⟨e1, n1, _⟩ := kk.void a o e fun z => nw ((hw a).mp z)
        exact ⟨e1, n1, fun z => nomatch z.2⟩
      | _ => exact post.elim
  unfold mfCmp at post
  split at post
  · rename_i o n fs xs p k gs ys hvu
    cases hvu
    by_cases hn : n = c ∧ k = c
    · rw [if_pos hn] at post
      obtain ⟨rfl, rfl⟩ := hn
      obtain ⟨a, C', dx, fs', rfl, ea, hC, _⟩ := rep_obj r1
      rw [hc] at hC; cases hC
      obtain ⟨b, C', dy, gs', rfl, eb, hC, _⟩ := rep_obj r2
      rw [hc] at hC; cases hC
      exact .inl ⟨a, dx, fs', rfl, ea, .inl ⟨b, dy, gs', rfl, eb⟩, rfl, R, [_, _], Oa, rel, fin (fun _ => Iff.rfl) post⟩
    · rw [if_neg hn] at post; exact post.elim
  · rename_i o n fs xs w _ hvu
    cases hvu
    by_cases hn : n = c ∧ (tyName u).isSome = true
    · rw [if_pos hn] at post
      obtain ⟨rfl, ht⟩ := hn
      obtain ⟨a, C', dx, fs', rfl, ea, hC, _⟩ := rep_obj r1
      rw [hc] at hC; cases hC
      obtain ⟨t, ht⟩ := Option.isSome_iff_exists.mp ht
      exact .inl ⟨a, dx, fs', rfl, ea, .inr ⟨t, tyName_mem ht, rep_tyX r2 ht⟩, rfl, R, [_, _], Oa, rel, fin (fun _ => Iff.rfl) post⟩
    · rw [if_neg hn] at post; exact post.elim
  · rename_i i o n fs xs hvu
    cases hvu
    by_cases hn : n = c
    · rw [if_pos hn] at post
      subst hn
      obtain ⟨b, C', dy, gs', rfl, eb, hC, _⟩ := rep_obj r2
      rw [hc] at hC; cases hC
      obtain rfl : x = .int i := by generalize Oa 0 = O2 at r1; cases r1; rfl
      refine .inr ⟨i, b, dy, gs', rfl, rfl, eb, rfl, R, [_, _], _, rel.swap, fin (fun a => ?_) post⟩
      constructor
      · rintro ⟨j, z⟩
        match j, z with
        | 0, z => exact ⟨1, z⟩
        | 1, z => exact ⟨0, z⟩
        | _ + 2, z => exact nomatch z
      · rintro ⟨j, z⟩
        match j, z with
        | 0, z => exact ⟨1, z⟩
        | 1, z => exact ⟨0, z⟩
        | j + 2, z => rw [rel.nil (j + 2) (fun v hv => by simp at hv)] at z; cases z
    · rw [if_neg hn] at post; exact post.elim
  · exact post.elim

structure OwnEq (K : PySem.W.Frag) (C : Addr) (f : Addr) : Prop where
  l : PySem.W.findIn K (.ref C) "__eq__" = some (some (.ref f))
  lf : PySem.W.isFn K (.ref f) = true
  nf : ∀ t ∈ ["NoneType", "bool", "int", "str", "tuple", "list", "dict"], PySem.W.notFirst K C (.type t) = true
  ur : PySem.W.subIn K (.ref C) (.type "int") = some false
  ne : PySem.W.findIn K (.ref C) "__ne__" = some (some (.builtin "object.__ne__"))
  ob : PySem.W.subIn K (.ref C) (.type "object") = some true
section
variable {X : Cx} {E : WX} {a b : Expr} {p1 p2 s1 s2 : Bool} {m1 m2 : ME} {pos : Pos} {C f : Addr} {c k : Nat} {ml : MF} {fd : FuncData} {ps : List Str}
theorem notFirst_self {K : PySem.W.Frag} {C : Addr} : PySem.W.notFirst K C (.ref C) = true := by
  unfold PySem.W.notFirst
  rw [beq_self_eq_true, Bool.true_or]
/-- the callee one level further in -/
theorem run_in1 {pins : List (Addr × Obj)} {σ : L2.St} {H : Hp} {s : Shared} {Q : VK} {us : List Value} {vs : List V} {sp : Sp} (F : FnOk X.prog X.w X.K X.mg X.base (L2.CX X.prog X.w) k f fd ps sp) (hr : Room (k + 1) X.A) (hb : Binds X.K fd ps []) (tk : Takes X E) (I : Inv X pins σ H s) (r : Vals vs us) (h : sp vs H Q (WE E σ)) :
    wpAny (model X.prog X.w) X.A.in1 (call (.ref f) us) (EP X pins σ Q) X.xe s := by
  have hl : (us ++ []).length = ps.length := by rw [List.append_nil, ← r.length]; exact F.len _ _ _ _ h
  have b := hb s us I.kIn hl
  rw [List.append_nil] at b
  refine wpAny_call (codeAny_mono (F.run X.A.in1 X.stack s H ⟨us, []⟩ us vs Q (WE E σ) hr.in1 I.env0.in1 b r h) fun res s2 hq => ?_)
  cases res with
  | error er => exact passAt tk σ pins H s er s2 I hq
  | ok fl =>
    cases fl with
    | ret u => exact I.after hq
    | next => exact hq.elim
    | brk => exact hq.elim
    | cont => exact hq.elim
theorem int_eq_call {P : Program} {w : World} {A : Around} {E : Value → Shared → Prop} {s : Shared} {Q : Value → Shared → Prop} {a : Int} {t : Tok} {x C dx : Addr} (hx : s.heap.get? x = some (PySem.W.instObj C dx)) (h : Q .notImplemented s) : wpAny (model P w) A (call (.builtin "int.__eq__") [.int a t, .ref x]) Q E s :=
  int_bin_call hx PySem.F.slot_int_eq PySem.F.entry_int_eq (PySem.F.args_int_eq_2 _ _) h
theorem int_ne_call {P : Program} {w : World} {A : Around} {E : Value → Shared → Prop} {s : Shared} {Q : Value → Shared → Prop} {a : Int} {t : Tok} {x C dx : Addr} (hx : s.heap.get? x = some (PySem.W.instObj C dx)) (h : Q .notImplemented s) : wpAny (model P w) A (call (.builtin "int.__ne__") [.int a t, .ref x]) Q E s :=
  int_bin_call hx PySem.F.slot_int_ne PySem.F.entry_int_ne (PySem.F.args_int_ne_2 _ _) h
theorem eq_run (T : OwnEq X.K C f) (hK : X.K = G.K) (hu : X.A.units < cLine) (hc : G.cn c = some C) (hl : CalV G X E (.ref f) 2 ml []) (pins : List (Addr × Obj)) (s : Shared) (σ : L2.St) (H : Hp) (x y : V) (v u : Value) (Q : VK)
    (I : Inv X pins σ H s) (rx : RelV x v) (ry : RelV y u) (h : spV G 2 (mfCmp id c ml) [x, y] H Q (WE E σ)) : wpAny (model X.prog X.w) X.A (compareOp .Eq v u) (EP X pins σ Q) X.xe s := by
  show wpAny _ _ (richCompare .Eq v u) _ _ _
  have back : ∀ {w : Value} {s' : Shared}, EP X pins σ (fun z H' => ∃ k, z = .bl k ∧ Q (.bl k) H') w s' → PySem.W.CmpBack (EP X pins σ Q) w s' := fun ⟨z, H', I', rz, k, e, q⟩ => by
    subst e
    exact SlX.cmpback rz ⟨_, H', I', rz, q⟩
  rcases cmp_own hc h with ⟨x0, dx, fs, rfl, ea, hy, q⟩ | ⟨i, b0, dy, gs, rfl, rfl, eb, q⟩
  · cases rx
    obtain ⟨hx, od, J⟩ := ins_here I ea
    have one := thn (hl pins s σ H [.ref x0, y] [.ref x0, u] _ I (.cons rfl (.cons ry .nil)) (by simpa using q)) fun w s' z => back z
    rcases hy with ⟨b0, dy, gs, rfl, eb⟩ | ⟨t, ht, ty⟩
    · cases ry
      obtain ⟨hy, od', J'⟩ := ins_here I eb
      exact cmp_left (op := .Eq) hu I.kIn J J'.type notFirst_self (try_eq I.kIn J T.l T.lf one)
    · obtain ⟨P, Z, pp, _⟩ := kit_of I ry (hK ▸ ty)
      exact cmp_left (op := .Eq) hu I.kIn J (Z.ty _ _ I.kIn pp) (T.nf t ht) (try_eq I.kIn J T.l T.lf one)
  · obtain ⟨t, rfl⟩ := rx
    cases ry
    obtain ⟨hy, od, J⟩ := ins_here I eb
    have one := thn (hl pins s σ H [.ref b0, .int i] [.ref b0, .int i t] _ I (.cons rfl (.cons ⟨t, rfl⟩ .nil)) (by simpa using q)) fun w s' z => back z
    exact cmp_right (op := .Eq) hu I.kIn J T.ur PySem.F.slot_int_eq (fun Q h => int_eq_call hy h) (try_eq I.kIn J T.l T.lf one)
theorem ne_run (T : OwnEq X.K C f) (hK : X.K = G.K) (hu : X.A.units + 1 < cLine) (hc : G.cn c = some C) (F : FnOk X.prog X.w X.K X.mg X.base (L2.CX X.prog X.w) k f fd ps (spV G 2 ml)) (hr : Room (k + 1) X.A) (hb : Binds X.K fd ps []) (tk : Takes X E) (pins : List (Addr × Obj)) (s : Shared) (σ : L2.St) (H : Hp) (x y : V) (v u : Value) (Q : VK)
    (I : Inv X pins σ H s) (rx : RelV x v) (ry : RelV y u) (h : spV G 2 (mfCmp not c ml) [x, y] H Q (WE E σ)) : wpAny (model X.prog X.w) X.A (compareOp .NotEq v u) (EP X pins σ Q) X.xe s := by
  show wpAny _ _ (richCompare .NotEq v u) _ _ _
  have back : ∀ {w : Value} {s' : Shared}, EP X pins σ (fun z H' => ∃ k, z = .bl k ∧ Q (.bl (!k)) H') w s' → ∃ k, w = .bool k ∧ EP X pins σ Q (.bool (!k)) s' := fun ⟨z, H', I', rz, k, e, q⟩ => by
    subst e
    cases rz
    exact ⟨k, rfl, .bl (!k), H', I', rfl, q⟩
  have hu0 : X.A.units < cLine := Nat.lt_of_succ_lt hu
  rcases cmp_own hc h with ⟨x0, dx, fs, rfl, ea, hy, q⟩ | ⟨i, b0, dy, gs, rfl, rfl, eb, q⟩
  · cases rx
    obtain ⟨hx, od, J⟩ := ins_here I ea
    have one := thn (run_in1 F hr hb tk (us := [.ref x0, u]) (vs := [.ref x0, y]) I (.cons rfl (.cons ry .nil)) q) fun w s' z => back z
    rcases hy with ⟨b0, dy, gs, rfl, eb⟩ | ⟨t, ht, ty⟩
    · cases ry
      obtain ⟨hy, od', J'⟩ := ins_here I eb
      exact cmp_left (op := .NotEq) hu0 I.kIn J J'.type notFirst_self (try_ne hu I.kIn J T.ne T.ob T.l T.lf one)
    · obtain ⟨P, Z, pp, _⟩ := kit_of I ry (hK ▸ ty)
      exact cmp_left (op := .NotEq) hu0 I.kIn J (Z.ty _ _ I.kIn pp) (T.nf t ht) (try_ne hu I.kIn J T.ne T.ob T.l T.lf one)
  · obtain ⟨t, rfl⟩ := rx
    cases ry
    obtain ⟨hy, od, J⟩ := ins_here I eb
    have one := thn (run_in1 F hr hb tk (us := [.ref b0, .int i t]) (vs := [.ref b0, .int i]) I (.cons rfl (.cons ⟨t, rfl⟩ .nil)) q) fun w s' z => back z
    exact cmp_right (op := .NotEq) hu0 I.kIn J T.ur PySem.F.slot_int_ne (fun Q h => int_ne_call hy h) (try_ne hu I.kIn J T.ne T.ob T.l T.lf one)
theorem pc_eqo (T : OwnEq X.K C f) (hK : X.K = G.K) (hu : X.A.units < cLine) (hc : G.cn c = some C) (hl : CalV G X E (.ref f) 2 ml []) (h1 : VE G X E p1 true a m1) (h2 : VE G X E p2 true b m2) :
    PC X .Eq a b (rd G E (p1 && p2) true (mCall (mfCmp id c ml) [.v ⟨p1, true, m1⟩, .v ⟨p2, true, m2⟩])) := by
  refine ⟨fun pins s σ H Q I h => ?_⟩
  have q := call_of (E := E) (as := [.v ⟨p1, true, m1⟩, .v ⟨p2, true, m2⟩]) (n := 2) trivial rfl rfl (σ := σ) (H := H) (Q := Q) (mf := mfCmp id c ml) (by simpa [argsP] using h)
  refine thn (h1.run pins s σ H _ I q) fun v s1 hv => ?_
  obtain ⟨x, H1, I1, rx, q1⟩ := hv
  refine thn (h2.run pins s1 σ H1 _ I1 q1) fun u s2 hu2 => ?_
  obtain ⟨y, H2, I2, ry, q2⟩ := hu2
  exact eq_run T hK hu hc hl pins s2 σ H2 x y v u Q I2 rx ry q2
theorem pc_neo (T : OwnEq X.K C f) (hK : X.K = G.K) (hu : X.A.units + 1 < cLine) (hc : G.cn c = some C) (F : FnOk X.prog X.w X.K X.mg X.base (L2.CX X.prog X.w) k f fd ps (spV G 2 ml)) (hr : Room (k + 1) X.A) (hb : Binds X.K fd ps []) (tk : Takes X E) (h1 : VE G X E p1 true a m1) (h2 : VE G X E p2 true b m2) :
    PC X .NotEq a b (rd G E (p1 && p2) true (mCall (mfCmp not c ml) [.v ⟨p1, true, m1⟩, .v ⟨p2, true, m2⟩])) := by
  refine ⟨fun pins s σ H Q I h => ?_⟩
  have q := call_of (E := E) (as := [.v ⟨p1, true, m1⟩, .v ⟨p2, true, m2⟩]) (n := 2) trivial rfl rfl (σ := σ) (H := H) (Q := Q) (mf := mfCmp not c ml) (by simpa [argsP] using h)
  refine thn (h1.run pins s σ H _ I q) fun v s1 hv => ?_
  obtain ⟨x, H1, I1, rx, q1⟩ := hv
  refine thn (h2.run pins s1 σ H1 _ I1 q1) fun u s2 hu2 => ?_
  obtain ⟨y, H2, I2, ry, q2⟩ := hu2
  exact ne_run T hK hu hc F hr hb tk pins s2 σ H2 x y v u Q I2 rx ry q2
theorem ve_cmpo {op : CmpOp} {m : ME} {p s : Bool} (h : PC X op a b (rd G E p s m)) (h1 : behindInMarks op b = false) : VE G X E p s (.Compare a [op] [b] pos) m := pe_cmp h h1
theorem vt_cmpo {op : CmpOp} {m : ME} {p s : Bool} (h : PC X op a b (rd G E p s m)) (h1 : behindInMarks op b = false) : VT G X E p (.Compare a [op] [b] pos) m :=
  PT.pre (pt_cmp h h1) fun σ H Q ⟨R, ρ, Os, rel, post⟩ => ⟨R, ρ, Os, rel, post.post⟩
end
end
end VL
/-! VL, part T: str(x) by an own __str__. -/
namespace VL
open PySem L2

def strR : RE → RE
  | .ok (.str y) _ => .ok (.str y) [none]
  | _ => .bad
def mfStr (c : Nat) (ml : MF) : MF := fun vs => match vs with
  | [.obj o n fs xs] => if n = c then strR (ml [.obj o n fs xs]) else .bad
  | _ => .bad
section
variable {G : Gam} {X : Cx} {E : WX} {e : Expr} {p : Bool} {m : ME} {pos px : Pos} {C f : Addr} {c k : Nat} {ml : MF} {fd : FuncData} {ps : List Str}
def rStrO (G : Gam) (C : Addr) (ml : MF) : List V → Hp → VK → Prop := fun xs H Q => ∃ a dx fs, xs = [.ref a] ∧ H a = some (.ins C dx fs) ∧ spV G 1 ml [.ref a] H (fun z H' => ∃ y, z = .str y ∧ Q z H') fun _ _ _ => False
theorem call_strO (hs : PySem.W.findIn X.K (.ref C) "__str__" = some (some (.ref f))) (hf : PySem.W.isFn X.K (.ref f) = true) (F : FnOk X.prog X.w X.K X.mg X.base (L2.CX X.prog X.w) k f fd ps (spV G 1 ml)) (hr : Room (k + 2) X.A) (hb : Binds X.K fd ps []) : CallR X (.type "str") (rStrO G C ml) := by
  intro pins s σ H xs us Q I r h
  obtain ⟨a, dx, fs, rfl, ea, q⟩ := h
  obtain ⟨u, rfl, ru⟩ := vals1 r
  cases ru
  obtain ⟨hx, od, J⟩ := ins_here I ea
  have hr2 : Room k X.A.in1.in1 := (show Room (k + 1) X.A.in1 from Room.in1 hr).in1
  have hl : ([Value.ref a] ++ []).length = ps.length := by rw [← F.len _ _ _ _ q]; rfl
  have b := hb s [.ref a] I.kIn hl
  rw [List.append_nil] at b
  refine PySem.W.kso_call hr2.units0 I.kIn J hs hf (wpAny_call (codeAny_mono (F.run X.A.in1.in1 X.stack s H ⟨[.ref a], []⟩ [.ref a] [.ref a] _ _ hr2 I.env0.in1.in1 b (.cons rfl .nil) q) fun res s2 hq => ?_))
  cases res with
  | error er => exact (pass_none (Y := X.nox) pins σ H s er s2 (I.wish _) hq).elim
  | ok fl =>
    cases fl with
    | ret u =>
      obtain ⟨z, H', I', rz, y, ez, qz⟩ := I.after hq
      subst ez
      obtain ⟨t, rfl⟩ := rz
      exact ⟨.str y, H', I', ⟨t, rfl⟩, qz⟩
    | next => exact hq.elim
    | brk => exact hq.elim
    | cont => exact hq.elim
theorem ve_strO (hs : PySem.W.findIn X.K (.ref C) "__str__" = some (some (.ref f))) (hf : PySem.W.isFn X.K (.ref f) = true) (F : FnOk X.prog X.w X.K X.mg X.base (L2.CX X.prog X.w) k f fd ps (spV G 1 ml)) (hr : Room (k + 2) X.A) (hb : Binds X.K fd ps []) (hc : G.cn c = some C)
    (hg : Gl X "str") (hm : X.mg "str" = none) (hv : bootBuiltins "str" = some (.type "str")) (h : VE G X E p true e m) (he : starEach [e] X.env = (false, eval e X.env) :: starEach [] X.env := by rfl) (hpl : (backTo pos (starEach [] X.env)).any (·.1) = false := by rfl) :
    VE G X E p true (.Call (.Name "str" px) [e] [] pos) (mCall (mfStr c ml) [.v ⟨p, true, m⟩]) := by
  refine PE.pre (pe_callTy (call_strO (G := G) (ml := ml) hs hf F hr hb) hg hm hv (pa_cons h pa_nil he) (by decide) (by decide) he hpl) fun σ H Q h => ?_
  have h' : rd G E (argsP [.v ⟨p, true, m⟩]) true (mCall (mfStr c ml) [.v ⟨p, true, m⟩]) σ H Q := by simpa [argsP] using h
  have q := call_of (E := E) (as := [.v ⟨p, true, m⟩]) (n := 1) trivial rfl rfl (σ := σ) h'
  refine rd_mono q fun x H1 z => ?_
  obtain ⟨_, R, vs, Oa, rel, post⟩ := z
  have hl := rel.len
  obtain ⟨v, rfl⟩ : ∃ v, vs = [v] := by
    match vs, hl with
    | [v], _ => exact ⟨v, rfl⟩
  obtain ⟨x', e', r⟩ := rel.rep 0 v rfl
  have ex : x = x' := by simpa using e'
  subst ex
  unfold mfStr at post
  split at post
  · rename_i o n fs xs hvu
    cases hvu
    by_cases hn : n = c
    rotate_left
    · rw [if_neg hn] at post; exact post.elim
    rw [if_pos hn] at post
    subst hn
    obtain ⟨a, C', dx, fs', rfl, ea, hC, _⟩ := rep_obj r
    rw [hc] at hC; cases hC
    refine ⟨a, dx, fs', rfl, ea, rfl, R, [_], Oa, rel, ?_⟩
    cases hml : ml [Val.obj o n fs xs] with
    | bad => rw [hml] at post; exact post
    | exc ee ρ' => rw [hml] at post; exact post.elim
    | ok w ρ' =>
      rw [hml] at post
      cases w with
      | str y =>
        intro x2 H2 Os2 O2 rel2 rep2 nd2 k2 _
        cases rep2
        refine ⟨y, rfl, post (.str y) H2 (fun _ => []) [] ((rel2.void _).weak fun a z => z.elim .inl fun z => nomatch z.2) (.str _) (fun _ => List.nodup_nil) (fun a o e nw => ?_) fun z => by cases z⟩
        obtain ⟨e1, n1, _⟩ := k2.void a o e nw
        exact ⟨e1, n1, fun z => nomatch z.2⟩
      | _ => exact post.elim
  · exact post.elim

end
def mfBad : MF := fun _ => .bad
theorem cal_bad {G : Gam} {X : Cx} {E : WX} {u : Value} {n : Nat} {dks : List (V × Val)} : CalV G X E u n mfBad dks := fun _ _ _ _ _ _ _ _ _ ⟨_, _, _, _, _, z⟩ => z.elim
/-- as many turns as an int that a name holds, and one more -/
def fuelAt (i : Nat) : VEnv → Nat := fun ρ => match ρ[i]? with
  | some (some (.int j)) => j.toNat + 1
  | _ => 0
theorem vts0 {G : Gam} {X : Cx} : PTs X [] (tT G WF true mYes) := PTs.pre pts_nil fun σ H Q ⟨R, ρ, Os, rel, post⟩ => post H Os rel KeepE.refl fun _ => ⟨rfl, rfl, fun _ _ e => e⟩
end VL
/-! VL, part U: tests of the facts; the law's end. -/
namespace VL
open PySem L2 PySem.W

def tyL : List String := ["NoneType", "bool", "int", "str", "tuple", "list", "dict"]
abbrev Ftest := Frag → Bool
def tFind (C : Addr) (nm : Str) (v : Value) : Ftest := fun K => He.eqO (findIn K (.ref C) nm) (some (some v))
def tProp (x f : Str) : Ftest := fun K => He.eqO (findIn K (.ref (He.ga K x)) f) (some (some (.ref (He.ma K (He.ga K x) f)))) && (He.eqO (specialIn K (.ref (He.ma K (He.ga K x) f)) "__get__") (some (some (.builtin "property.__get__"))) &&
  (decide (takesIn K (.ref (He.ma K (He.ga K x) f)) = some true) && (match recIn K (He.ma K (He.ga K x) f) "property" with
    | some (.ref g :: _) => true
    | _ => false)))
theorem prop_ok {K : Frag} {x f : Str} (c : tProp x f K = true) : PropOf K (He.ga K x) f (He.ma K (He.ga K x) f) (getr K (He.ma K (He.ga K x) f) 0) := by
  unfold tProp at c
  simp only [Bool.and_eq_true] at c
  obtain ⟨c1, c2, c3, c4⟩ := c
  refine ⟨He.eqO_ok c1, He.eqO_ok c2, of_decide_eq_true c3, ?_⟩
  unfold getr
  split at c4
  · rename_i g rest e
    rw [e]
    exact ⟨rest, rfl⟩
  · cases c4
def tOwn (x : Str) (nm : String) : Ftest := fun K => selfFirst K (He.ga K x) && (He.eqO (findIn K (.ref (He.ga K x)) (PySem.dunder nm)) (some (some (.ref (He.ma K (He.ga K x) (PySem.dunder nm))))) && (isFn K (.ref (He.ma K (He.ga K x) (PySem.dunder nm))) &&
  (He.eqO (findIn K (.ref (He.ga K x)) (dunderR nm)) (some (some (.ref (He.ma K (He.ga K x) (dunderR nm))))) && (isFn K (.ref (He.ma K (He.ga K x) (dunderR nm))) && ((findIn K (.type "int") (PySem.dunder nm)).isSome && ((findIn K (.type "int") (dunderR nm)).isSome &&
  (decide (subIn K (.type "int") (.ref (He.ga K x)) = some false) && decide (subIn K (.ref (He.ga K x)) (.type "int") = some false))))))))
theorem own_ok {K : Frag} {x : Str} {nm : String} (c : tOwn x nm K = true) : OwnOp K (He.ga K x) nm (He.ma K (He.ga K x) (PySem.dunder nm)) (He.ma K (He.ga K x) (dunderR nm)) := by
  unfold tOwn at c
  simp only [Bool.and_eq_true] at c
  obtain ⟨c1, c2, c3, c4, c5, c6, c7, c8, c9⟩ := c
  exact ⟨c1, He.eqO_ok c2, c3, He.eqO_ok c4, c5, c6, c7, of_decide_eq_true c8, of_decide_eq_true c9⟩
def tOwnEq (x : Str) : Ftest := fun K => He.eqO (findIn K (.ref (He.ga K x)) "__eq__") (some (some (.ref (He.ma K (He.ga K x) "__eq__")))) && (isFn K (.ref (He.ma K (He.ga K x) "__eq__")) && ((tyL.all fun t => notFirst K (He.ga K x) (.type t)) &&
  (decide (subIn K (.ref (He.ga K x)) (.type "int") = some false) && (He.eqO (findIn K (.ref (He.ga K x)) "__ne__") (some (some (.builtin "object.__ne__"))) && decide (subIn K (.ref (He.ga K x)) (.type "object") = some true)))))
theorem owneq_ok {K : Frag} {x : Str} (c : tOwnEq x K = true) : OwnEq K (He.ga K x) (He.ma K (He.ga K x) "__eq__") := by
  unfold tOwnEq at c
  simp only [Bool.and_eq_true] at c
  obtain ⟨c1, c2, c3, c4, c5, c6⟩ := c
  exact ⟨He.eqO_ok c1, c2, fun t ht => List.all_eq_true.mp c3 t ht, of_decide_eq_true c4, He.eqO_ok c5, of_decide_eq_true c6⟩
/-- the classes by number -/
def clsAt (L : List Str) (K : Frag) (n : Nat) : Option Addr := (L[n]?).map (He.ga K)
def tCls1 (K : Frag) (C : Addr) : Bool := plainGet K C Str.empty && (hasDictIn K C && (plainOver K C && (He.eqO (findIn K (.ref C) "__setattr__") (some (some (.builtin "object.__setattr__"))) &&
  (He.eqO (findIn K (.ref C) "__class__") (some (some (.builtin "object.__class__"))) && (He.eqO (specialIn K (.builtin "object.__class__") "__get__") (some (some (.builtin "getset_descriptor.__get__"))) && (decide (takesIn K (.builtin "object.__class__") = some true) && decide (mroIn K C (.type "object") = some true)))))))
/-- S: those of them that are made by the text (exceptions are not) -/
def tIsi (L : List Str) (sub : Nat → Nat → Bool) : Ftest := fun K => ((List.range L.length).all fun n => (List.range L.length).all fun m => match clsAt L K n, clsAt L K m with
    | some C, some D => decide (kitOne K (.ref C) (.ref D) = some (sub n m))
    | _, _ => true) &&
  (((List.range L.length).all fun n => match clsAt L K n with
    | some C => (tyL.all fun t => decide (kitOne K (.type t) (.ref C) = some false)) && (tyL.all fun t => decide (kitOne K (.ref C) (.type t) = some false))
    | _ => true) && ((List.range L.length).all fun n => match clsAt L K n with
    | some C => tCls1 K C
    | _ => true))
theorem cls_lt {L : List Str} {K : Frag} {n : Nat} {C : Addr} (h : clsAt L K n = some C) : n ∈ List.range L.length := by
  unfold clsAt at h
  cases e : L[n]? with
  | none => rw [e] at h; cases h
  | some x => exact List.mem_range.mpr (List.getElem?_eq_some_iff.mp e).1
theorem isi_ok {G : Gam} {L : List Str} {sub : Nat → Nat → Bool} (hg : ∀ n C, G.cn n = some C → clsAt L G.K n = some C) (c : tIsi L sub G.K = true) : IsiFacts G sub := by
  unfold tIsi at c
  simp only [Bool.and_eq_true] at c
  obtain ⟨c1, c2, c3⟩ := c
  refine ⟨fun n C m D h1 h2 => ?_, fun t m D ht h => ?_, fun n C t ht h => ?_, fun n C h => ?_⟩
  · have h1 := hg _ _ h1
    have h2 := hg _ _ h2
    have := List.all_eq_true.mp (List.all_eq_true.mp c1 n (cls_lt h1)) m (cls_lt h2)
    rw [h1, h2] at this
    exact of_decide_eq_true this
  · have h := hg _ _ h
    have := List.all_eq_true.mp c2 m (cls_lt h)
    rw [h] at this
    simp only [Bool.and_eq_true] at this
    exact of_decide_eq_true (List.all_eq_true.mp this.1 t ht)
  · have h := hg _ _ h
    have := List.all_eq_true.mp c2 n (cls_lt h)
    rw [h] at this
    simp only [Bool.and_eq_true] at this
    exact of_decide_eq_true (List.all_eq_true.mp this.2 t ht)
  · have h := hg _ _ h
    have := List.all_eq_true.mp c3 n (cls_lt h)
    rw [h] at this
    unfold tCls1 at this
    simp only [Bool.and_eq_true] at this
    obtain ⟨d1, d2, d3, d4, d5, d6, d7, d8⟩ := this
    exact ⟨⟨d1, d2, d3, He.eqO_ok d4⟩, He.eqO_ok d5, He.eqO_ok d6, of_decide_eq_true d7, of_decide_eq_true d8⟩
theorem FunV.uniq {K : Frag} {d : VDef} {fd fd' : FuncData} (F : FunV K d fd) (F' : FunV K d fd') : fd = fd' := by
  obtain ⟨_, _, _, _, _, _, _, _, _, _, _, l, _⟩ := F.ex
  obtain ⟨_, _, _, _, _, _, _, _, _, _, _, l', _⟩ := F'.ex
  rw [l] at l'
  cases l'
  rfl
/-- the law's def, from what the head shows -/
theorem law_end {P : Program} {w : World} {K : Frag} {mg : Str → Option Value} {G : Gam} {d : VDef} {k : Nat} {x : Str} {mf : MF} {fd : FuncData} (F : FunV K d fd) (h : ∀ base : Heap, K.In base → base.Ns mainGlobals mg → Ok P w K mg base G d k [x] mf) (base : Heap) (h1 : K.In base) (h2 : base.Ns mainGlobals mg) :
    FnOk P w K mg base (L2.CX P w) k (d.ad K) fd [x] (spV G 1 mf) := by
  obtain ⟨fd', F', q⟩ := h base h1 h2
  cases F.uniq F'
  exact q
theorem cx_none {P : Program} {w : World} (H : Hp) (s : Shared) (e : Value) (s' : Shared) (h : L2.CX P w [] H s (fun _ _ _ => False) e s') : False := by
  obtain ⟨_, _, _, _, _, _, _, _, _, _, _, _, z⟩ := h
  exact z
/-- the goal of the head: from the law's function on trees -/
theorem walk_ofV {l : PySem.W.OpenLaw} {n k : Nat} {q : Program} {loose : List Str} {XP : (Str → Option Value) → Heap → Prop} {YP : World → Heap → Prop} {r : DefRec} {x : Str} {mf : MF} {G : Frag → World → Gam} (hG : ∀ K w, (G K w).K = K)
    (hn : l.most = some n) (hn2 : n ≤ sizeLine) (hdf : r.params.defaults = []) (hr : Room k callerA) (hlaw : ∀ ns : List Int, ns.length ≤ n → ∃ fs, mf [.scr ns] = .ok (.bl true) fs)
    (F : ∀ (w : World) (mg : Str → Option Value) (f : Addr) (h : Heap), YP w h → h.Ns mainGlobals mg → mg r.name = some (.ref f) → ∃ (K : Frag) (fd : FuncData), K.In h ∧ (∀ (s : Shared) (u : Value), BindsTo s fd ⟨[u], []⟩ [(x, u)]) ∧
      ∀ base : Heap, K.In base → base.Ns mainGlobals mg → FnOk l.prog w K mg base (L2.CX l.prog w) k f fd [x] (spV (G K w) 1 mf)) :
    PySem.W.WalkO q loose XP YP l.row.toRowW r [] (fun f vs => PySem.call f vs) := by
  refine Att.attach_call hn hdf fun w s0 s1 mg mb f o pm cd doc a vs ns Gr Y ho hd hcd hmg hobj hints hlen hg => ?_
  obtain ⟨K, fd, KX, hb, hF⟩ := F w mg f _ Y Gr.T.g hmg
  obtain ⟨fs, hl⟩ := hlaw ns hlen
  exact law_call KX Gr.T.g Gr.T.b Gr.T.builtins Gr.T.nolimit hg hobj hints (Nat.le_trans hlen hn2) hr hF hb (fun H hO hS => law_sp (hG K w) hl hO hS) fun H e s' z => cx_none H s1 e s' z
end VL
/-! VL, part Z: the functions run, by simp. -/
namespace VL
open PySem L2
section
variable {ρ : VEnv} {m m1 m2 m3 : ME} {a b : MS} {i j : Nat} {ms : List ME}
@[simp] theorem z_evalM0 : evalM [] ρ = .ok [] ρ := rfl
@[simp] theorem z_evalM1 : evalM (m :: ms) ρ = match m ρ with
    | .ok v ρ1 => (match evalM ms ρ1 with
      | .ok vs ρ2 => .ok (v :: vs) ρ2
      | .exc e ρ2 => .exc e ρ2
      | .bad => .bad)
    | .exc e ρ1 => .exc e ρ1
    | .bad => .bad := rfl
@[simp] theorem z_fun {sem : List Val → Option Val} : mFun sem ms ρ = match evalM ms ρ with
  | .ok vs ρ' => (match sem vs with
    | some v => .ok v ρ'
    | none => .bad)
  | .exc e ρ' => .exc e ρ'
  | .bad => .bad := rfl
@[simp] theorem z_var : mVar i ρ = match ρ[i]? with
  | some (some v) => .ok v ρ
  | _ => .bad := rfl
@[simp] theorem z_c {v : Val} : mC v ρ = .ok v ρ := rfl
@[simp] theorem z_stab : mStab m ρ = match m ρ with
  | .ok v ρ' => if v.fz = true then .ok v ρ' else .bad
  | .exc e ρ' => .exc e ρ'
  | .bad => .bad := rfl
@[simp] theorem z_frz : mFrz i ρ = match ρ[i]? with
  | some (some v) => .ok v.frz (ρ.set i (some v.frz))
  | _ => .bad := rfl
@[simp] theorem z_fz : mFz m ρ = match m ρ with
  | .ok v ρ' => .ok v.frz ρ'
  | .exc e ρ' => .exc e ρ'
  | .bad => .bad := rfl
@[simp] theorem z_not : mNot m ρ = match m ρ with
  | .ok (.bl b) ρ' => .ok (.bl (!b)) ρ'
  | .ok _ _ => .bad
  | .exc e ρ' => .exc e ρ'
  | .bad => .bad := rfl
@[simp] theorem z_and : mAnd m1 m2 ρ = match m1 ρ with
  | .ok (.bl b) ρ' => if b = true then m2 ρ' else .ok (.bl false) ρ'
  | .ok _ _ => .bad
  | .exc e ρ' => .exc e ρ'
  | .bad => .bad := rfl
@[simp] theorem z_or : mOr m1 m2 ρ = match m1 ρ with
  | .ok (.bl b) ρ' => if b = true then .ok (.bl true) ρ' else m2 ρ'
  | .ok _ _ => .bad
  | .exc e ρ' => .exc e ρ'
  | .bad => .bad := rfl
@[simp] theorem z_if : mIf m1 m2 m3 ρ = match m1 ρ with
  | .ok (.bl b) ρ' => if b = true then m2 ρ' else m3 ρ'
  | .ok _ _ => .bad
  | .exc e ρ' => .exc e ρ'
  | .bad => .bad := rfl
@[simp] theorem z_lst : mLst ms ρ = match evalM ms ρ with
  | .ok vs ρ' => .ok (.lst true vs) ρ'
  | .exc e ρ' => .exc e ρ'
  | .bad => .bad := rfl
@[simp] theorem z_tup : mTup ms ρ = match evalM ms ρ with
  | .ok vs ρ' => .ok (.tup vs) ρ'
  | .exc e ρ' => .exc e ρ'
  | .bad => .bad := rfl
@[simp] theorem z_next : mNext ρ = .nx ρ := rfl
@[simp] theorem z_seq : mSeq a b ρ = match a ρ with
  | .nx ρ' => b ρ'
  | r => r := rfl
@[simp] theorem z_drop : mDrop m ρ = match m ρ with
  | .ok _ ρ' => .nx ρ'
  | .exc e ρ' => .exc e ρ'
  | .bad => .bad := rfl
@[simp] theorem z_ret : mRet m ρ = match m ρ with
  | .ok v ρ' => .rt v ρ'
  | .exc e ρ' => .exc e ρ'
  | .bad => .bad := rfl
@[simp] theorem z_ifs : mIfS m a b ρ = match m ρ with
  | .ok (.bl t) ρ' => if t = true then a ρ' else b ρ'
  | .ok _ _ => .bad
  | .exc e ρ' => .exc e ρ'
  | .bad => .bad := rfl
@[simp] theorem z_set : mSet i m ρ = match m ρ with
  | .ok v ρ' => if i < ρ'.length then .nx (ρ'.set i (some v)) else .bad
  | .exc e ρ' => .exc e ρ'
  | .bad => .bad := rfl
@[simp] theorem z_par : mPar i j m1 m2 ρ = match evalM [m1, m2] ρ with
  | .ok [v, w] ρ' => if i < ρ'.length ∧ j < ρ'.length then .nx ((ρ'.set i (some v)).set j (some w)) else .bad
  | .ok _ _ => .bad
  | .exc e ρ' => .exc e ρ'
  | .bad => .bad := rfl
@[simp] theorem z_setF {cs : List Nat} {f : Str} : mSetF cs i f m ρ = match m ρ with
  | .ok v ρ1 => (match ρ1[i]? with
    | some (some (.obj true n fs xs)) => if n ∈ cs ∧ fs.length < 1000 then .nx (ρ1.set i (some (.obj true n (putFn f fs) (putFv f v fs xs)))) else .bad
    | _ => .bad)
  | .exc e ρ' => .exc e ρ'
  | .bad => .bad := rfl
@[simp] theorem z_putL {mi : ME} : mPutL i mi m ρ = match m ρ with
  | .ok v ρ1 => (match mi ρ1 with
    | .ok (.int k) ρ2 => if ρ2 = ρ1 then (match ρ2[i]? with
      | some (some (.lst true xs)) => (match ixN xs.length k with
        | some j => .nx (ρ2.set i (some (.lst true (xs.set j v))))
        | none => .bad)
      | _ => .bad) else .bad
    | _ => .bad)
  | .exc e ρ' => .exc e ρ'
  | .bad => .bad := rfl
@[simp] theorem z_call {mf : MF} {as : List Arg} : mCall mf as ρ = if refsOk ρ as = true then (match evalM ((vals as).map Op.m) ρ with
  | .ok vs ρ1 => (match fill as ρ1 vs with
    | some (us, ρ2) => (match mf us with
      | .ok v fs => .ok v (back as fs ρ2)
      | .exc e fs => .exc e (back as fs ρ2)
      | .bad => .bad)
    | none => .bad)
  | .exc e ρ1 => .exc e ρ1
  | .bad => .bad) else .bad := rfl
end
section
variable {a b : Int} {x y : Str} {o : Bool} {xs ys : List Val} {ns : List Int} {c : Bool} {u v : Val}
@[simp] theorem z_add : semAdd [.int a, .int b] = some (.int (a + b)) := rfl
@[simp] theorem z_addS : semAdd [.str x, .str y] = if x.length + y.length ≤ 16777216 then some (.str (x ++ y)) else none := rfl
@[simp] theorem z_addL {p : Bool} : semAdd [.lst o xs, .lst p ys] = if xs.length + ys.length ≤ 16777216 ∧ fzs xs = true ∧ fzs ys = true then some (.lst true (xs ++ ys)) else none := rfl
@[simp] theorem z_sub : semSub [.int a, .int b] = some (.int (a - b)) := rfl
@[simp] theorem z_mul : semMul [.int a, .int b] = if mulOk a b then some (.int (a * b)) else none := rfl
@[simp] theorem z_div : semDiv [.int a, .int b] = if divOk b then some (.int (a / b)) else none := rfl
@[simp] theorem z_mod : semMod [.int a, .int b] = if 0 < b then some (.int (a % b)) else none := rfl
@[simp] theorem z_pow : semPow [.int a, .int b] = if powOk a b then some (.int (a ^ b.toNat)) else none := rfl
@[simp] theorem z_neg : semNeg [.int a] = some (.int (-a)) := rfl
@[simp] theorem z_cmp {f : Int → Int → Bool} : semCmp f [.int a, .int b] = some (.bl (f a b)) := rfl
@[simp] theorem z_lenL : semLen [.lst o xs] = some (.int xs.length) := rfl
@[simp] theorem z_lenT : semLen [.tup xs] = some (.int xs.length) := rfl
@[simp] theorem z_lenW : semLen [.wtp xs] = some (.int xs.length) := rfl
@[simp] theorem z_lenS : semLen [.scr ns] = some (.int ns.length) := rfl
@[simp] theorem z_int : semInt [.int a] = some (.int a) := rfl
@[simp] theorem z_intB : semInt [.bl c] = some (.int (if c then 1 else 0)) := rfl
@[simp] theorem z_str : semStr [.int a] = if a.natAbs.log2 < 1920 then some (.str (toString a)) else none := rfl
@[simp] theorem z_max : semMax2 [.int a, .int b] = some (.int (if b > a then b else a)) := rfl
@[simp] theorem z_min : semMin2 [.int a, .int b] = some (.int (if b < a then b else a)) := rfl
@[simp] theorem z_ixS : semIx [.scr ns, .int a] = match atI ns a with
    | some n => some (.int n)
    | none => none := rfl
@[simp] theorem z_ixL : semIx [.lst o xs, .int a] = match atI xs a with
    | some v => if v.fz = true then some v else none
    | none => none := rfl
@[simp] theorem z_ixT : semIx [.tup xs, .int a] = match atI xs a with
    | some v => if v.fz = true then some v else none
    | none => none := rfl
@[simp] theorem z_fzI : (Val.int a).fz = true := rfl
@[simp] theorem z_fzB : (Val.bl c).fz = true := rfl
@[simp] theorem z_fzN : Val.non.fz = true := rfl
@[simp] theorem z_fzS : (Val.str x).fz = true := rfl
@[simp] theorem z_fzC : (Val.scr ns).fz = true := rfl
@[simp] theorem z_fzL : (Val.lst o xs).fz = (!o && fzs xs) := by simp only [Val.fz]
@[simp] theorem z_fzT : (Val.tup xs).fz = fzs xs := by simp only [Val.fz]
@[simp] theorem z_fzO {n : Nat} {fs : List Str} : (Val.obj o n fs xs).fz = (!o && fzs xs) := by simp only [Val.fz]
@[simp] theorem z_fzs0 : fzs [] = true := by simp only [fzs]
@[simp] theorem z_fzs1 : fzs (v :: xs) = (v.fz && fzs xs) := by simp only [fzs]
@[simp] theorem z_frI : (Val.int a).frz = .int a := by simp only [Val.frz]
@[simp] theorem z_frB : (Val.bl c).frz = .bl c := by simp only [Val.frz]
@[simp] theorem z_frN : Val.non.frz = .non := by simp only [Val.frz]
@[simp] theorem z_frS : (Val.str x).frz = .str x := by simp only [Val.frz]
@[simp] theorem z_frL : (Val.lst o xs).frz = .lst false (frzs xs) := by simp only [Val.frz]
@[simp] theorem z_frT : (Val.tup xs).frz = .tup (frzs xs) := by simp only [Val.frz]
@[simp] theorem z_frO {n : Nat} {fs : List Str} : (Val.obj o n fs xs).frz = .obj false n fs (frzs xs) := by simp only [Val.frz]
@[simp] theorem z_frzs0 : frzs [] = [] := by simp only [frzs]
@[simp] theorem z_frzs1 : frzs (v :: xs) = v.frz :: frzs xs := by simp only [frzs]
mutual
theorem frz_of_fz : ∀ {v : Val}, v.fz = true → v.frz = v
  | .non, _ => by simp
  | .bl _, _ => by simp
  | .int _, _ => by simp
  | .str _, _ => by simp
  | .ty _, _ => by simp only [Val.frz]
  | .cn _, _ => by simp only [Val.frz]
  | .tup xs, h => by simp only [Val.fz] at h; simp only [Val.frz, frzs_of_fzs h]
  | .lst o xs, h => by
    simp only [Val.fz, Bool.and_eq_true, Bool.not_eq_true'] at h
    simp only [Val.frz, frzs_of_fzs h.2, h.1]
  | .dct o d ks xs, h => by
    simp only [Val.fz, Bool.and_eq_true, Bool.not_eq_true'] at h
    simp only [Val.frz, frzs_of_fzs h.2, h.1]
  | .obj o C fs xs, h => by
    simp only [Val.fz, Bool.and_eq_true, Bool.not_eq_true'] at h
    simp only [Val.frz, frzs_of_fzs h.2, h.1]
  | .exn _ _ _, _ => by simp only [Val.frz]
  | .scr _, _ => by simp only [Val.frz]
  | .wdk _ _, _ => by simp only [Val.frz]
  | .wtp _, _ => by simp only [Val.frz]
theorem frzs_of_fzs : ∀ {vs : List Val}, fzs vs = true → frzs vs = vs
  | [], _ => by simp
  | v :: vs, h => by
    simp only [fzs, Bool.and_eq_true] at h
    simp only [frzs, frz_of_fz h.1, frzs_of_fzs h.2]
end
end
section
variable {ρ : VEnv} {as : List Arg} {i : Nat} {op : Op} {v : Val} {vs : List Val} {x : V}
@[simp] theorem z_v0 : vals [] = [] := rfl
@[simp] theorem z_v1 : vals (.v op :: as) = op :: vals as := rfl
@[simp] theorem z_v2 : vals (.r i :: as) = vals as := rfl
@[simp] theorem z_v3 : vals (.k x v :: as) = vals as := rfl
@[simp] theorem z_r0 : refsOk ρ [] = true := rfl
@[simp] theorem z_r1 : refsOk ρ (.v op :: as) = refsOk ρ as := rfl
@[simp] theorem z_r2 : refsOk ρ (.r i :: as) = (slotOk ρ i && refsOk ρ as) := rfl
@[simp] theorem z_r3 : refsOk ρ (.k x v :: as) = refsOk ρ as := rfl
@[simp] theorem z_slot : slotOk ρ i = match ρ[i]? with
  | some (some _) => true
  | _ => false := rfl
@[simp] theorem z_f0 : fill [] ρ [] = some ([], ρ) := rfl
@[simp] theorem z_f1 : fill (.v op :: as) ρ (v :: vs) = match fill as ρ vs with
    | some (us, ρ') => some (v :: us, ρ')
    | none => none := rfl
@[simp] theorem z_f2 : fill (.r i :: as) ρ vs = match ρ[i]? with
    | some (some v) => (match fill as (ρ.set i none) vs with
      | some (us, ρ') => some (v :: us, ρ')
      | none => none)
    | _ => none := rfl
@[simp] theorem z_f3 : fill (.k x v :: as) ρ vs = match fill as ρ vs with
    | some (us, ρ') => some (v :: us, ρ')
    | none => none := rfl
@[simp] theorem z_b0 {fs : VEnv} : back [] fs ρ = ρ := rfl
@[simp] theorem z_b1 {f : Option Val} {fs : VEnv} : back (.v op :: as) (f :: fs) ρ = back as fs ρ := by cases f <;> rfl
@[simp] theorem z_b2 {f : Val} {fs : VEnv} : back (.r i :: as) (some f :: fs) ρ = back as fs (ρ.set i (some f)) := rfl
@[simp] theorem z_b3 {f : Option Val} {fs : VEnv} : back (.k x v :: as) (f :: fs) ρ = back as fs ρ := by cases f <;> rfl
@[simp] theorem z_o0 : outs [] ρ = [] := rfl
@[simp] theorem z_o1 {b : Bool} {bs : List Bool} {f : Option Val} : outs (b :: bs) (f :: ρ) = (if b = true then f else none) :: outs bs ρ := rfl
end
section
variable {ρ : VEnv} {m : ME} {ms : List ME} {acc a b : Str}
@[simp] theorem z_j0 : mJoin [] acc ρ = .ok (.str acc) ρ := rfl
@[simp] theorem z_j1 : mJoin (m :: ms) acc ρ = match m ρ with
    | .ok (.str y) ρ1 => if (acc ++ y).length ≤ 16777216 then mJoin ms (acc ++ y) ρ1 else .bad
    | .ok _ _ => .bad
    | .exc e ρ1 => .exc e ρ1
    | .bad => .bad := rfl
theorem char_lt (c : Char) : c.toNat < 0x110000 := by
  have := c.valid
  unfold Char.toNat
  rcases this with h | h
  · have : c.val.toNat < 0xd800 := h
    omega
  · exact h.2
theorem strOk_of (s : String) : PyData.strOk (Str.ofString s) = true := by
  unfold PyData.strOk
  rw [← Array.all_toList, PyProof.Rows.signs_ofString, List.all_map, List.all_eq_true]
  exact fun c _ => decide_eq_true (char_lt c)
theorem strOk_app (h : PyData.strOk a = true) (h' : PyData.strOk b = true) : PyData.strOk (a ++ b) = true := by
  unfold PyData.strOk at *
  show (a.cps ++ b.cps).all _ = true
  simp only [Array.all_append, h, h', Bool.and_self]
theorem str_app_len : (a ++ b).length = a.length + b.length := by
  show (a.cps ++ b.cps).size = _
  simp [Str.length]
end
end VL
set_option maxHeartbeats 0
/-! Each def of the program as a function on trees, and the proof that it computes it: printed by gen.py. -/
namespace K01
open PySem L2 VL
def top (i : Nat) : Stmt := PySem.Challenge.pw_gatheredbells_k01_shares_reckoned.main.body.getD i (.Pass ⟨0, 0, 0, 0⟩)
def clsNames : List Str := ["Share"]
def gam (K : PySem.W.Frag) (w : World) : Gam := ⟨K, clsAt clsNames K, [], w⟩
def sub (n m : Nat) : Bool := [(1, 1), (2, 2), (2, 1), (0, 0)].contains (n, m)
def d_stream : VDef := { ad := fun K => He.ga K "_law_stream", name := "_law_stream", qual := "_law_stream", params := defArgs (top 12), body := defBody (top 12), scope := defScope (top 12), dfl := [], kwd := [] }
theorem sc_stream : FnScope ["_law_script", "_law_k", "_law_cell", "_law_size", "_law_mixed"] ["_law_script", "_law_k"] d_stream.scope := ⟨rfl, rfl, rfl, by decide +kernel, rfl, by decide +kernel, by decide +kernel⟩
def d_draw : VDef := { ad := fun K => He.ga K "_law_draw", name := "_law_draw", qual := "_law_draw", params := defArgs (top 13), body := defBody (top 13), scope := defScope (top 13), dfl := [], kwd := [] }
theorem sc_draw : FnScope ["_law_stream_here", "_law_count", "_law_result"] ["_law_stream_here", "_law_count"] d_draw.scope := ⟨rfl, rfl, rfl, by decide +kernel, rfl, by decide +kernel, by decide +kernel⟩
def d_choose : VDef := { ad := fun K => He.ga K "_law_choose", name := "_law_choose", qual := "_law_choose", params := defArgs (top 14), body := defBody (top 14), scope := defScope (top 14), dfl := [], kwd := [] }
theorem sc_choose : FnScope ["_law_stream_here", "_law_items"] ["_law_stream_here", "_law_items"] d_choose.scope := ⟨rfl, rfl, rfl, by decide +kernel, rfl, by decide +kernel, by decide +kernel⟩
def d_pair : VDef := { ad := fun K => He.ga K "_law_pair", name := "_law_pair", qual := "_law_pair", params := defArgs (top 15), body := defBody (top 15), scope := defScope (top 15), dfl := [], kwd := [] }
theorem sc_pair : FnScope ["_law_stream_here", "_law_top"] ["_law_stream_here"] d_pair.scope := ⟨rfl, rfl, rfl, by decide +kernel, rfl, by decide +kernel, by decide +kernel⟩
def d_is_integer : VDef := { ad := fun K => He.ga K "is_integer", name := "is_integer", qual := "is_integer", params := defArgs (top 4), body := defBody (top 4), scope := defScope (top 4), dfl := [], kwd := [] }
theorem sc_is_integer : FnScope ["value"] ["value"] d_is_integer.scope := ⟨rfl, rfl, rfl, by decide +kernel, rfl, by decide +kernel, by decide +kernel⟩
def d_common : VDef := { ad := fun K => He.ga K "common", name := "common", qual := "common", params := defArgs (top 6), body := defBody (top 6), scope := defScope (top 6), dfl := [], kwd := [] }
theorem sc_common : FnScope ["one", "other"] ["one", "other"] d_common.scope := ⟨rfl, rfl, rfl, by decide +kernel, rfl, by decide +kernel, by decide +kernel⟩
def d_Share_init : VDef := { ad := fun K => He.ma K (He.ga K "Share") "__init__", name := "__init__", qual := "Share.__init__", params := defArgs (inClass (top 7) 0), body := defBody (inClass (top 7) 0), scope := defScope (inClass (top 7) 0), dfl := [.int 1], kwd := [] }
theorem sc_Share_init : FnScope ["self", "top", "bottom", "divisor"] ["self", "top", "bottom"] d_Share_init.scope := ⟨rfl, rfl, rfl, by decide +kernel, rfl, by decide +kernel, by decide +kernel⟩
def d_Share_bottom : VDef := { ad := fun K => getr K (He.ma K (He.ga K "Share") "bottom") 0, name := "bottom", qual := "Share.bottom", params := defArgs (inClass (top 7) 2), body := defBody (inClass (top 7) 2), scope := defScope (inClass (top 7) 2), dfl := [], kwd := [] }
theorem sc_Share_bottom : FnScope ["self"] ["self"] d_Share_bottom.scope := ⟨rfl, rfl, rfl, by decide +kernel, rfl, by decide +kernel, by decide +kernel⟩
def d_Share_top : VDef := { ad := fun K => getr K (He.ma K (He.ga K "Share") "top") 0, name := "top", qual := "Share.top", params := defArgs (inClass (top 7) 1), body := defBody (inClass (top 7) 1), scope := defScope (inClass (top 7) 1), dfl := [], kwd := [] }
theorem sc_Share_top : FnScope ["self"] ["self"] d_Share_top.scope := ⟨rfl, rfl, rfl, by decide +kernel, rfl, by decide +kernel, by decide +kernel⟩
def d_Share_str : VDef := { ad := fun K => He.ma K (He.ga K "Share") "__str__", name := "__str__", qual := "Share.__str__", params := defArgs (inClass (top 7) 11), body := defBody (inClass (top 7) 11), scope := defScope (inClass (top 7) 11), dfl := [], kwd := [] }
theorem sc_Share_str : FnScope ["self"] ["self"] d_Share_str.scope := ⟨rfl, rfl, rfl, by decide +kernel, rfl, by decide +kernel, by decide +kernel⟩
def d_told_right : VDef := { ad := fun K => He.ga K "_law_told_right", name := "_law_told_right", qual := "_law_told_right", params := defArgs (top 17), body := defBody (top 17), scope := defScope (top 17), dfl := [], kwd := [] }
theorem sc_told_right : FnScope ["_law_share", "_law_top", "_law_bottom", "_law_one", "_law_two"] ["_law_share", "_law_top", "_law_bottom"] d_told_right.scope := ⟨rfl, rfl, rfl, by decide +kernel, rfl, by decide +kernel, by decide +kernel⟩
def d_over : VDef := { ad := fun K => He.ga K "_law_over", name := "_law_over", qual := "_law_over", params := defArgs (top 16), body := defBody (top 16), scope := defScope (top 16), dfl := [], kwd := [] }
theorem sc_over : FnScope ["_law_thing"] ["_law_thing"] d_over.scope := ⟨rfl, rfl, rfl, by decide +kernel, rfl, by decide +kernel, by decide +kernel⟩
def d_is_number : VDef := { ad := fun K => He.ga K "is_number", name := "is_number", qual := "is_number", params := defArgs (top 8), body := defBody (top 8), scope := defScope (top 8), dfl := [], kwd := [] }
theorem sc_is_number : FnScope ["value"] ["value"] d_is_number.scope := ⟨rfl, rfl, rfl, by decide +kernel, rfl, by decide +kernel, by decide +kernel⟩
def d_over_of : VDef := { ad := fun K => He.ga K "over_of", name := "over_of", qual := "over_of", params := defArgs (top 9), body := defBody (top 9), scope := defScope (top 9), dfl := [], kwd := [] }
theorem sc_over_of : FnScope ["value"] ["value"] d_over_of.scope := ⟨rfl, rfl, rfl, by decide +kernel, rfl, by decide +kernel, by decide +kernel⟩
def d_under_of : VDef := { ad := fun K => He.ga K "under_of", name := "under_of", qual := "under_of", params := defArgs (top 10), body := defBody (top 10), scope := defScope (top 10), dfl := [], kwd := [] }
theorem sc_under_of : FnScope ["value"] ["value"] d_under_of.scope := ⟨rfl, rfl, rfl, by decide +kernel, rfl, by decide +kernel, by decide +kernel⟩
def d_Share_add : VDef := { ad := fun K => He.ma K (He.ga K "Share") "__add__", name := "__add__", qual := "Share.__add__", params := defArgs (inClass (top 7) 3), body := defBody (inClass (top 7) 3), scope := defScope (inClass (top 7) 3), dfl := [], kwd := [] }
theorem sc_Share_add : FnScope ["self", "other"] ["self", "other"] d_Share_add.scope := ⟨rfl, rfl, rfl, by decide +kernel, rfl, by decide +kernel, by decide +kernel⟩
def d_Share_radd : VDef := { ad := fun K => He.ma K (He.ga K "Share") "__radd__", name := "__radd__", qual := "Share.__radd__", params := defArgs (inClass (top 7) 4), body := defBody (inClass (top 7) 4), scope := defScope (inClass (top 7) 4), dfl := [], kwd := [] }
theorem sc_Share_radd : FnScope ["self", "other"] ["self", "other"] d_Share_radd.scope := ⟨rfl, rfl, rfl, by decide +kernel, rfl, by decide +kernel, by decide +kernel⟩
def d_Share_sub : VDef := { ad := fun K => He.ma K (He.ga K "Share") "__sub__", name := "__sub__", qual := "Share.__sub__", params := defArgs (inClass (top 7) 5), body := defBody (inClass (top 7) 5), scope := defScope (inClass (top 7) 5), dfl := [], kwd := [] }
theorem sc_Share_sub : FnScope ["self", "other"] ["self", "other"] d_Share_sub.scope := ⟨rfl, rfl, rfl, by decide +kernel, rfl, by decide +kernel, by decide +kernel⟩
def d_Share_rsub : VDef := { ad := fun K => He.ma K (He.ga K "Share") "__rsub__", name := "__rsub__", qual := "Share.__rsub__", params := defArgs (inClass (top 7) 6), body := defBody (inClass (top 7) 6), scope := defScope (inClass (top 7) 6), dfl := [], kwd := [] }
theorem sc_Share_rsub : FnScope ["self", "other"] ["self", "other"] d_Share_rsub.scope := ⟨rfl, rfl, rfl, by decide +kernel, rfl, by decide +kernel, by decide +kernel⟩
def d_Share_mul : VDef := { ad := fun K => He.ma K (He.ga K "Share") "__mul__", name := "__mul__", qual := "Share.__mul__", params := defArgs (inClass (top 7) 7), body := defBody (inClass (top 7) 7), scope := defScope (inClass (top 7) 7), dfl := [], kwd := [] }
theorem sc_Share_mul : FnScope ["self", "other"] ["self", "other"] d_Share_mul.scope := ⟨rfl, rfl, rfl, by decide +kernel, rfl, by decide +kernel, by decide +kernel⟩
def d_Share_rmul : VDef := { ad := fun K => He.ma K (He.ga K "Share") "__rmul__", name := "__rmul__", qual := "Share.__rmul__", params := defArgs (inClass (top 7) 8), body := defBody (inClass (top 7) 8), scope := defScope (inClass (top 7) 8), dfl := [], kwd := [] }
theorem sc_Share_rmul : FnScope ["self", "other"] ["self", "other"] d_Share_rmul.scope := ⟨rfl, rfl, rfl, by decide +kernel, rfl, by decide +kernel, by decide +kernel⟩
def d_Share_eq : VDef := { ad := fun K => He.ma K (He.ga K "Share") "__eq__", name := "__eq__", qual := "Share.__eq__", params := defArgs (inClass (top 7) 9), body := defBody (inClass (top 7) 9), scope := defScope (inClass (top 7) 9), dfl := [], kwd := [] }
theorem sc_Share_eq : FnScope ["self", "other"] ["self", "other"] d_Share_eq.scope := ⟨rfl, rfl, rfl, by decide +kernel, rfl, by decide +kernel, by decide +kernel⟩
def d_reckoned : VDef := { ad := fun K => He.ga K "_law_reckoned", name := "_law_reckoned", qual := "_law_reckoned", params := defArgs (top 18), body := defBody (top 18), scope := defScope (top 18), dfl := [], kwd := [] }
theorem sc_reckoned : FnScope ["_law_one", "_law_two", "_law_near", "_law_far", "_law_under", "_law_total", "_law_rest"] ["_law_one", "_law_two"] d_reckoned.scope := ⟨rfl, rfl, rfl, by decide +kernel, rfl, by decide +kernel, by decide +kernel⟩
def d_Share_is_more : VDef := { ad := fun K => He.ma K (He.ga K "Share") "is_more", name := "is_more", qual := "Share.is_more", params := defArgs (inClass (top 7) 10), body := defBody (inClass (top 7) 10), scope := defScope (inClass (top 7) 10), dfl := [], kwd := [] }
theorem sc_Share_is_more : FnScope ["self", "other"] ["self", "other"] d_Share_is_more.scope := ⟨rfl, rfl, rfl, by decide +kernel, rfl, by decide +kernel, by decide +kernel⟩
def d_law : VDef := { ad := fun K => He.ga K "law", name := "law", qual := "law", params := defArgs (top 19), body := defBody (top 19), scope := defScope (top 19), dfl := [], kwd := [] }
theorem sc_law : FnScope ["_law_script", "_law_k", "_law_stream_here", "_law_pairs", "_law_turn", "_law_shares", "_law_pair_here", "_law_numbers", "_law_at", "_law_one", "_law_two", "_law_near", "_law_far"] ["_law_script"] d_law.scope := ⟨rfl, rfl, rfl, by decide +kernel, rfl, by decide +kernel, by decide +kernel⟩
theorem boot_len : bootBuiltins "len" = some (.builtin "len") := by decide +kernel
theorem boot_min : bootBuiltins "min" = some (.builtin "min") := by decide +kernel
theorem boot_max : bootBuiltins "max" = some (.builtin "max") := by decide +kernel
theorem boot_int : bootBuiltins "int" = some (.type "int") := by decide +kernel
theorem boot_isinstance : bootBuiltins "isinstance" = some (.builtin "isinstance") := by decide +kernel
theorem boot_bool : bootBuiltins "bool" = some (.type "bool") := by decide +kernel
theorem boot_str : bootBuiltins "str" = some (.type "str") := by decide +kernel
/-- what the walks ask of the text -/
structure Txt (K : PySem.W.Frag) (mg : Str → Option Value) : Prop where
  n_len : mg "len" = none
  n_min : mg "min" = none
  n_max : mg "max" = none
  n_range : mg "range" = none
  g_stream : mg "_law_stream" = some (.ref (He.ga K "_law_stream"))
  g_pair : mg "_law_pair" = some (.ref (He.ga K "_law_pair"))
  mk_Share : Mk K (He.ga K "Share") (He.ma K (He.ga K "Share") "__init__")
  g_Share : mg "Share" = some (.ref (He.ga K "Share"))
  g_draw : mg "_law_draw" = some (.ref (He.ga K "_law_draw"))
  g_told_right : mg "_law_told_right" = some (.ref (He.ga K "_law_told_right"))
  g_reckoned : mg "_law_reckoned" = some (.ref (He.ga K "_law_reckoned"))
  g_over : mg "_law_over" = some (.ref (He.ga K "_law_over"))
  mt_Share_is_more : Meth K (He.ga K "Share") "is_more" (He.ma K (He.ga K "Share") "is_more")
  cl_Share : Cls K (He.ga K "Share")
  eq_Share : OwnEq K (He.ga K "Share") (He.ma K (He.ga K "Share") "__eq__")
  pr_Share_top : PropOf K (He.ga K "Share") "top" (He.ma K (He.ga K "Share") "top") (getr K (He.ma K (He.ga K "Share") "top") 0)
  pr_Share_bottom : PropOf K (He.ga K "Share") "bottom" (He.ma K (He.ga K "Share") "bottom") (getr K (He.ma K (He.ga K "Share") "bottom") 0)
  g_is_integer : mg "is_integer" = some (.ref (He.ga K "is_integer"))
  g_common : mg "common" = some (.ref (He.ga K "common"))
  na_Share_over : NoAttr K (He.ga K "Share") "over"
  na_Share_under : NoAttr K (He.ga K "Share") "under"
  n_int : mg "int" = none
  n_isinstance : mg "isinstance" = none
  n_bool : mg "bool" = none
  g_is_number : mg "is_number" = some (.ref (He.ga K "is_number"))
  g_over_of : mg "over_of" = some (.ref (He.ga K "over_of"))
  g_under_of : mg "under_of" = some (.ref (He.ga K "under_of"))
  n_str : mg "str" = none
  st_Share : PySem.W.findIn K (.ref (He.ga K "Share")) "__str__" = some (some (.ref (He.ma K (He.ga K "Share") "__str__")))
  sf_Share : PySem.W.isFn K (.ref (He.ma K (He.ga K "Share") "__str__")) = true
  g_choose : mg "_law_choose" = some (.ref (He.ga K "_law_choose"))
  op_Share_add : OwnOp K (He.ga K "Share") "add" (He.ma K (He.ga K "Share") "__add__") (He.ma K (He.ga K "Share") "__radd__")
  op_Share_sub : OwnOp K (He.ga K "Share") "sub" (He.ma K (He.ga K "Share") "__sub__") (He.ma K (He.ga K "Share") "__rsub__")
  op_Share_mul : OwnOp K (He.ga K "Share") "mul" (He.ma K (He.ga K "Share") "__mul__") (He.ma K (He.ga K "Share") "__rmul__")
  isi : ∀ w, IsiFacts (gam K w) sub
theorem isi_facts {K : PySem.W.Frag} {mg : Str → Option Value} {w : World} (T : Txt K mg) : IsiFacts (gam K w) sub := T.isi w
theorem fld_over {K : PySem.W.Frag} {mg : Str → Option Value} {w : World} (T : Txt K mg) : FldF (gam K w) K [0] "over" := by
  intro n hn C hC
  simp only [List.mem_cons, List.not_mem_nil, or_false] at hn
  subst hn
  · have e : He.ga K "Share" = C := Option.some.inj hC
    subst e
    exact ⟨T.cl_Share, T.na_Share_over⟩
theorem fld_under {K : PySem.W.Frag} {mg : Str → Option Value} {w : World} (T : Txt K mg) : FldF (gam K w) K [0] "under" := by
  intro n hn C hC
  simp only [List.mem_cons, List.not_mem_nil, or_false] at hn
  subst hn
  · have e : He.ga K "Share" = C := Option.some.inj hC
    subst e
    exact ⟨T.cl_Share, T.na_Share_under⟩
theorem dfl_stream_2 {K : PySem.W.Frag} {w : World} : DflL (gam K w) [] := by
  intro q hq; cases hq
theorem bnd_stream_2 {K : PySem.W.Frag} {fd : FuncData} (F : FunV K d_stream fd) : ∃ ds, Vals (([] : List (V × Val)).map (·.1)) ds ∧ Binds K fd ["_law_script", "_law_k"] ds := by
  exact ⟨[], .nil, F.bindsN fun _ _ _ _ _ _ us hl => match us, hl with | [_, _], _ => rfl⟩
theorem dfl_pair_1 {K : PySem.W.Frag} {w : World} : DflL (gam K w) [] := by
  intro q hq; cases hq
theorem bnd_pair_1 {K : PySem.W.Frag} {fd : FuncData} (F : FunV K d_pair fd) : ∃ ds, Vals (([] : List (V × Val)).map (·.1)) ds ∧ Binds K fd ["_law_stream_here"] ds := by
  exact ⟨[], .nil, F.bindsN fun _ _ _ _ _ _ us hl => match us, hl with | [_], _ => rfl⟩
theorem dfl_Share_init_3 {K : PySem.W.Frag} {w : World} : DflL (gam K w) [] := by
  intro q hq; cases hq
theorem bnd_Share_init_3 {K : PySem.W.Frag} {fd : FuncData} (F : FunV K d_Share_init fd) : ∃ ds, Vals (([] : List (V × Val)).map (·.1)) ds ∧ Binds K fd ["self", "top", "bottom"] ds := by
  obtain ⟨ds, v, b⟩ := F.binds1 (ps := ["self", "top", "bottom"]) 3 1 (List.cons_ne_nil _ _) rfl fun _ _ _ _ _ _ _ us its h1 h2 => match us, its, h1, h2 with | [_, _, _], [_], _, _ => ⟨_, rfl, rfl⟩
  exact ⟨ds, v, b⟩
theorem dfl_Share_init_2 {K : PySem.W.Frag} {w : World} : DflL (gam K w) [(.int 1, .int 1)] := by
  intro q hq W H
  simp only [List.mem_cons, List.not_mem_nil, or_false] at hq
  subst hq
  · exact .int _
theorem bnd_Share_init_2 {K : PySem.W.Frag} {fd : FuncData} (F : FunV K d_Share_init fd) : ∃ ds, Vals (([(.int 1, .int 1)] : List (V × Val)).map (·.1)) ds ∧ Binds K fd ["self", "top", "bottom"] ds := by
  obtain ⟨ds, v, b⟩ := F.binds1 (ps := ["self", "top", "bottom"]) 2 0 (List.cons_ne_nil _ _) rfl fun _ _ _ _ _ _ _ us its h1 h2 => match us, its, h1, h2 with | [_, _], [_], _, _ => ⟨_, rfl, rfl⟩
  exact ⟨ds, v, b⟩
theorem dfl_draw_2 {K : PySem.W.Frag} {w : World} : DflL (gam K w) [] := by
  intro q hq; cases hq
theorem bnd_draw_2 {K : PySem.W.Frag} {fd : FuncData} (F : FunV K d_draw fd) : ∃ ds, Vals (([] : List (V × Val)).map (·.1)) ds ∧ Binds K fd ["_law_stream_here", "_law_count"] ds := by
  exact ⟨[], .nil, F.bindsN fun _ _ _ _ _ _ us hl => match us, hl with | [_, _], _ => rfl⟩
theorem dfl_told_right_3 {K : PySem.W.Frag} {w : World} : DflL (gam K w) [] := by
  intro q hq; cases hq
theorem bnd_told_right_3 {K : PySem.W.Frag} {fd : FuncData} (F : FunV K d_told_right fd) : ∃ ds, Vals (([] : List (V × Val)).map (·.1)) ds ∧ Binds K fd ["_law_share", "_law_top", "_law_bottom"] ds := by
  exact ⟨[], .nil, F.bindsN fun _ _ _ _ _ _ us hl => match us, hl with | [_, _, _], _ => rfl⟩
theorem dfl_reckoned_2 {K : PySem.W.Frag} {w : World} : DflL (gam K w) [] := by
  intro q hq; cases hq
theorem bnd_reckoned_2 {K : PySem.W.Frag} {fd : FuncData} (F : FunV K d_reckoned fd) : ∃ ds, Vals (([] : List (V × Val)).map (·.1)) ds ∧ Binds K fd ["_law_one", "_law_two"] ds := by
  exact ⟨[], .nil, F.bindsN fun _ _ _ _ _ _ us hl => match us, hl with | [_, _], _ => rfl⟩
theorem dfl_over_1 {K : PySem.W.Frag} {w : World} : DflL (gam K w) [] := by
  intro q hq; cases hq
theorem bnd_over_1 {K : PySem.W.Frag} {fd : FuncData} (F : FunV K d_over fd) : ∃ ds, Vals (([] : List (V × Val)).map (·.1)) ds ∧ Binds K fd ["_law_thing"] ds := by
  exact ⟨[], .nil, F.bindsN fun _ _ _ _ _ _ us hl => match us, hl with | [_], _ => rfl⟩
theorem dfl_Share_is_more_2 {K : PySem.W.Frag} {w : World} : DflL (gam K w) [] := by
  intro q hq; cases hq
theorem bnd_Share_is_more_2 {K : PySem.W.Frag} {fd : FuncData} (F : FunV K d_Share_is_more fd) : ∃ ds, Vals (([] : List (V × Val)).map (·.1)) ds ∧ Binds K fd ["self", "other"] ds := by
  exact ⟨[], .nil, F.bindsN fun _ _ _ _ _ _ us hl => match us, hl with | [_, _], _ => rfl⟩
theorem dfl_Share_eq_2 {K : PySem.W.Frag} {w : World} : DflL (gam K w) [] := by
  intro q hq; cases hq
theorem bnd_Share_eq_2 {K : PySem.W.Frag} {fd : FuncData} (F : FunV K d_Share_eq fd) : ∃ ds, Vals (([] : List (V × Val)).map (·.1)) ds ∧ Binds K fd ["self", "other"] ds := by
  exact ⟨[], .nil, F.bindsN fun _ _ _ _ _ _ us hl => match us, hl with | [_, _], _ => rfl⟩
theorem dfl_Share_top_1 {K : PySem.W.Frag} {w : World} : DflL (gam K w) [] := by
  intro q hq; cases hq
theorem bnd_Share_top_1 {K : PySem.W.Frag} {fd : FuncData} (F : FunV K d_Share_top fd) : ∃ ds, Vals (([] : List (V × Val)).map (·.1)) ds ∧ Binds K fd ["self"] ds := by
  exact ⟨[], .nil, F.bindsN fun _ _ _ _ _ _ us hl => match us, hl with | [_], _ => rfl⟩
theorem dfl_Share_bottom_1 {K : PySem.W.Frag} {w : World} : DflL (gam K w) [] := by
  intro q hq; cases hq
theorem bnd_Share_bottom_1 {K : PySem.W.Frag} {fd : FuncData} (F : FunV K d_Share_bottom fd) : ∃ ds, Vals (([] : List (V × Val)).map (·.1)) ds ∧ Binds K fd ["self"] ds := by
  exact ⟨[], .nil, F.bindsN fun _ _ _ _ _ _ us hl => match us, hl with | [_], _ => rfl⟩
theorem dfl_is_integer_1 {K : PySem.W.Frag} {w : World} : DflL (gam K w) [] := by
  intro q hq; cases hq
theorem bnd_is_integer_1 {K : PySem.W.Frag} {fd : FuncData} (F : FunV K d_is_integer fd) : ∃ ds, Vals (([] : List (V × Val)).map (·.1)) ds ∧ Binds K fd ["value"] ds := by
  exact ⟨[], .nil, F.bindsN fun _ _ _ _ _ _ us hl => match us, hl with | [_], _ => rfl⟩
theorem dfl_common_2 {K : PySem.W.Frag} {w : World} : DflL (gam K w) [] := by
  intro q hq; cases hq
theorem bnd_common_2 {K : PySem.W.Frag} {fd : FuncData} (F : FunV K d_common fd) : ∃ ds, Vals (([] : List (V × Val)).map (·.1)) ds ∧ Binds K fd ["one", "other"] ds := by
  exact ⟨[], .nil, F.bindsN fun _ _ _ _ _ _ us hl => match us, hl with | [_, _], _ => rfl⟩
theorem dfl_is_number_1 {K : PySem.W.Frag} {w : World} : DflL (gam K w) [] := by
  intro q hq; cases hq
theorem bnd_is_number_1 {K : PySem.W.Frag} {fd : FuncData} (F : FunV K d_is_number fd) : ∃ ds, Vals (([] : List (V × Val)).map (·.1)) ds ∧ Binds K fd ["value"] ds := by
  exact ⟨[], .nil, F.bindsN fun _ _ _ _ _ _ us hl => match us, hl with | [_], _ => rfl⟩
theorem dfl_over_of_1 {K : PySem.W.Frag} {w : World} : DflL (gam K w) [] := by
  intro q hq; cases hq
theorem bnd_over_of_1 {K : PySem.W.Frag} {fd : FuncData} (F : FunV K d_over_of fd) : ∃ ds, Vals (([] : List (V × Val)).map (·.1)) ds ∧ Binds K fd ["value"] ds := by
  exact ⟨[], .nil, F.bindsN fun _ _ _ _ _ _ us hl => match us, hl with | [_], _ => rfl⟩
theorem dfl_under_of_1 {K : PySem.W.Frag} {w : World} : DflL (gam K w) [] := by
  intro q hq; cases hq
theorem bnd_under_of_1 {K : PySem.W.Frag} {fd : FuncData} (F : FunV K d_under_of fd) : ∃ ds, Vals (([] : List (V × Val)).map (·.1)) ds ∧ Binds K fd ["value"] ds := by
  exact ⟨[], .nil, F.bindsN fun _ _ _ _ _ _ us hl => match us, hl with | [_], _ => rfl⟩
theorem dfl_Share_str_1 {K : PySem.W.Frag} {w : World} : DflL (gam K w) [] := by
  intro q hq; cases hq
theorem bnd_Share_str_1 {K : PySem.W.Frag} {fd : FuncData} (F : FunV K d_Share_str fd) : ∃ ds, Vals (([] : List (V × Val)).map (·.1)) ds ∧ Binds K fd ["self"] ds := by
  exact ⟨[], .nil, F.bindsN fun _ _ _ _ _ _ us hl => match us, hl with | [_], _ => rfl⟩
theorem dfl_choose_2 {K : PySem.W.Frag} {w : World} : DflL (gam K w) [] := by
  intro q hq; cases hq
theorem bnd_choose_2 {K : PySem.W.Frag} {fd : FuncData} (F : FunV K d_choose fd) : ∃ ds, Vals (([] : List (V × Val)).map (·.1)) ds ∧ Binds K fd ["_law_stream_here", "_law_items"] ds := by
  exact ⟨[], .nil, F.bindsN fun _ _ _ _ _ _ us hl => match us, hl with | [_, _], _ => rfl⟩
theorem dfl_Share_add_2 {K : PySem.W.Frag} {w : World} : DflL (gam K w) [] := by
  intro q hq; cases hq
theorem bnd_Share_add_2 {K : PySem.W.Frag} {fd : FuncData} (F : FunV K d_Share_add fd) : ∃ ds, Vals (([] : List (V × Val)).map (·.1)) ds ∧ Binds K fd ["self", "other"] ds := by
  exact ⟨[], .nil, F.bindsN fun _ _ _ _ _ _ us hl => match us, hl with | [_, _], _ => rfl⟩
theorem dfl_Share_radd_2 {K : PySem.W.Frag} {w : World} : DflL (gam K w) [] := by
  intro q hq; cases hq
theorem bnd_Share_radd_2 {K : PySem.W.Frag} {fd : FuncData} (F : FunV K d_Share_radd fd) : ∃ ds, Vals (([] : List (V × Val)).map (·.1)) ds ∧ Binds K fd ["self", "other"] ds := by
  exact ⟨[], .nil, F.bindsN fun _ _ _ _ _ _ us hl => match us, hl with | [_, _], _ => rfl⟩
theorem dfl_Share_sub_2 {K : PySem.W.Frag} {w : World} : DflL (gam K w) [] := by
  intro q hq; cases hq
theorem bnd_Share_sub_2 {K : PySem.W.Frag} {fd : FuncData} (F : FunV K d_Share_sub fd) : ∃ ds, Vals (([] : List (V × Val)).map (·.1)) ds ∧ Binds K fd ["self", "other"] ds := by
  exact ⟨[], .nil, F.bindsN fun _ _ _ _ _ _ us hl => match us, hl with | [_, _], _ => rfl⟩
theorem dfl_Share_rsub_2 {K : PySem.W.Frag} {w : World} : DflL (gam K w) [] := by
  intro q hq; cases hq
theorem bnd_Share_rsub_2 {K : PySem.W.Frag} {fd : FuncData} (F : FunV K d_Share_rsub fd) : ∃ ds, Vals (([] : List (V × Val)).map (·.1)) ds ∧ Binds K fd ["self", "other"] ds := by
  exact ⟨[], .nil, F.bindsN fun _ _ _ _ _ _ us hl => match us, hl with | [_, _], _ => rfl⟩
theorem dfl_Share_mul_2 {K : PySem.W.Frag} {w : World} : DflL (gam K w) [] := by
  intro q hq; cases hq
theorem bnd_Share_mul_2 {K : PySem.W.Frag} {fd : FuncData} (F : FunV K d_Share_mul fd) : ∃ ds, Vals (([] : List (V × Val)).map (·.1)) ds ∧ Binds K fd ["self", "other"] ds := by
  exact ⟨[], .nil, F.bindsN fun _ _ _ _ _ _ us hl => match us, hl with | [_, _], _ => rfl⟩
theorem dfl_Share_rmul_2 {K : PySem.W.Frag} {w : World} : DflL (gam K w) [] := by
  intro q hq; cases hq
theorem bnd_Share_rmul_2 {K : PySem.W.Frag} {fd : FuncData} (F : FunV K d_Share_rmul fd) : ∃ ds, Vals (([] : List (V × Val)).map (·.1)) ds ∧ Binds K fd ["self", "other"] ds := by
  exact ⟨[], .nil, F.bindsN fun _ _ _ _ _ _ us hl => match us, hl with | [_, _], _ => rfl⟩
def m_stream : MS :=
    (mSeq (mSet 2 (mC (.int 0)))
    (mSeq (mIfS (mFun (semCmp fun i j => decide (i < j)) [(mVar 1), (mFun semLen [(mVar 0)])]) (mSet 2 (mFun semIx [(mVar 0), (mVar 1)])) mNext)
    (mSeq (mSet 3 (mFun semMax2 [(mFun semInt [(mVar 2)]), (mFun semInt [(mFun semSub [(mFun semNeg [(mC (.int 1))]), (mVar 2)])])]))
    (mSeq (mSet 4 (mFun semMod [(mFun semInt [(mFun semMul [(mFun semAdd [(mFun semAdd [(mFun semAdd [(mFun semMod [(mFun semInt [(mVar 3)]), (mC (.int 2147483629))]), (mFun semMul [(mFun semMul [(mC (.int 7919)), (mVar 1)]), (mVar 1)])]), (mFun semMul [(mC (.int 31)), (mVar 1)])]), (mC (.int 17))]), (mC (.int 48271))])]), (mC (.int 2147483647))]))
    (mRet (mLst [(mFun semMul [(mVar 3), (mFun semInt [(mFun (semCmp fun i j => decide (j ≤ i)) [(mVar 3), (mFun semPow [(mC (.int 10)), (mC (.int 18))])])])]), (mStab (mVar 4))]))))))
def f_stream : MF := mBody [false, false] 5 m_stream
theorem ok_stream {P : Program} {w : World} {K : PySem.W.Frag} {mg : Str → Option Value} {base : Heap} (T : Txt K mg) (F : ∃ fd, FunV K d_stream fd)  : Ok P w K mg base (gam K w) d_stream 1 ["_law_script", "_law_k"] f_stream := by
  refine ok_of F sc_stream rfl fun cdv A outer s H E hr tk hp σ0 => ?_
  exact (vss_cons (vs_set (i := 2) sc_stream.nd (by rfl) (by first | exact Or.inl rfl | exact Or.inr rfl) (ve_c pe_int (fun _ _ => .int _)))
      (vss_cons (vs_if (vt_cmp op_lt ok_cmp (ve_var (pv 1)) (ve_callB (call_lenV (by rfl)) ok_len (by rfl) T.n_len boot_len (va_cons (ve_var (pv 0)) va_nil)) (nomark _)) (vss_one (vs_set (i := 2) sc_stream.nd (by rfl) (by first | exact Or.inl rfl | exact Or.inr rfl) (ve_ix (ix_any (by rfl) (by rfl) (hu_of hr)) ok_ix (ve_var (pv 0)) (ve_var (pv 1)) (fun _ _ => (by rfl))))) vss_nil)
      (vss_cons (vs_set (i := 3) sc_stream.nd (by rfl) (by first | exact Or.inl rfl | exact Or.inr rfl) (ve_callB (call_max2 (by rfl)) ok_max2 (by rfl) T.n_max boot_max (va_cons (ve_callTy call_int1 ok_int (by rfl) T.n_int boot_int (va_cons (ve_var (pv 2)) va_nil)) (va_cons (ve_callTy call_int1 ok_int (by rfl) T.n_int boot_int (va_cons (ve_bin op_sub ok_sub (ve_un un_neg ok_neg (ve_c pe_int (fun _ _ => .int _))) (ve_var (pv 2))) va_nil)) va_nil))))
      (vss_cons (vs_set (i := 4) sc_stream.nd (by rfl) (by first | exact Or.inl rfl | exact Or.inr rfl) (ve_bin op_mod ok_mod (ve_callTy call_int1 ok_int (by rfl) T.n_int boot_int (va_cons (ve_bin (op_mulV (by rfl)) ok_mul (ve_bin (op_addV (by rfl)) ok_add (ve_bin (op_addV (by rfl)) ok_add (ve_bin (op_addV (by rfl)) ok_add (ve_bin op_mod ok_mod (ve_callTy call_int1 ok_int (by rfl) T.n_int boot_int (va_cons (ve_var (pv 3)) va_nil)) (ve_c pe_int (fun _ _ => .int _))) (ve_bin (op_mulV (by rfl)) ok_mul (ve_bin (op_mulV (by rfl)) ok_mul (ve_c pe_int (fun _ _ => .int _)) (ve_var (pv 1))) (ve_var (pv 1)))) (ve_bin (op_mulV (by rfl)) ok_mul (ve_c pe_int (fun _ _ => .int _)) (ve_var (pv 1)))) (ve_c pe_int (fun _ _ => .int _))) (ve_c pe_int (fun _ _ => .int _))) va_nil)) (ve_c pe_int (fun _ _ => .int _))))
      (vss_one (vs_ret (ve_lst (va_cons (ve_bin (op_mulV (by rfl)) ok_mul (ve_var (pv 3)) (ve_callTy call_int1 ok_int (by rfl) T.n_int boot_int (va_cons (ve_cmp op_ge ok_cmp (ve_var (pv 3)) (ve_bin op_pow ok_pow (ve_c pe_int (fun _ _ => .int _)) (ve_c pe_int (fun _ _ => .int _))) (nomark _)) va_nil))) (va_cons (ve_stab (ve_var (pv 4))) va_nil)))))))))
def m_draw : MS :=
    (mSeq (mIfS (mFun (semCmp fun i j => decide (j < i)) [(mFun semIx [(mVar 0), (mC (.int 0))]), (mC (.int 0))]) (mSeq (mSet 2 (mFun semMod [(mFun semInt [(mFun semIx [(mVar 0), (mC (.int 0))])]), (mVar 1)]))
    (mSeq (mPutL 0 (mC (.int 0)) (mFun semDiv [(mFun semIx [(mVar 0), (mC (.int 0))]), (mVar 1)]))
    (mRet (mStab (mVar 2))))) mNext)
    (mSeq (mPutL 0 (mC (.int 1)) (mFun semMod [(mFun semInt [(mFun semAdd [(mFun semMul [(mFun semIx [(mVar 0), (mC (.int 1))]), (mC (.int 39373))]), (mC (.int 7))])]), (mC (.int 2147483647))]))
    (mRet (mFun semMod [(mFun semInt [(mFun semDiv [(mFun semMod [(mFun semInt [(mFun semMul [(mFun semIx [(mVar 0), (mC (.int 1))]), (mFun semIx [(mVar 0), (mC (.int 1))])])]), (mC (.int 2147483629))]), (mC (.int 32))])]), (mVar 1)]))))
def f_draw : MF := mBody [true, false] 3 m_draw
theorem ok_draw {P : Program} {w : World} {K : PySem.W.Frag} {mg : Str → Option Value} {base : Heap} (T : Txt K mg) (F : ∃ fd, FunV K d_draw fd)  : Ok P w K mg base (gam K w) d_draw 1 ["_law_stream_here", "_law_count"] f_draw := by
  refine ok_of F sc_draw rfl fun cdv A outer s H E hr tk hp σ0 => ?_
  exact (vss_cons (vs_if (vt_cmp op_gt ok_cmp (ve_ix (ix_any (by rfl) (by rfl) (hu_of hr)) ok_ix (ve_var (pv 0)) (ve_c pe_int (fun _ _ => .int _)) (fun _ _ => (by rfl))) (ve_c pe_int (fun _ _ => .int _)) (nomark _)) (vss_cons (vs_set (i := 2) sc_draw.nd (by rfl) (by first | exact Or.inl rfl | exact Or.inr rfl) (ve_bin op_mod ok_mod (ve_callTy call_int1 ok_int (by rfl) T.n_int boot_int (va_cons (ve_ix (ix_any (by rfl) (by rfl) (hu_of hr)) ok_ix (ve_var (pv 0)) (ve_c pe_int (fun _ _ => .int _)) (fun _ _ => (by rfl))) va_nil)) (ve_var (pv 1))))
      (vss_cons (vs_putL (i := 0) (pv 0) (ve_c pe_int (fun _ _ => .int _)) (ve_bin op_fdivW ok_div (ve_ix (ix_any (by rfl) (by rfl) (hu_of hr)) ok_ix (ve_var (pv 0)) (ve_c pe_int (fun _ _ => .int _)) (fun _ _ => (by rfl))) (ve_var (pv 1))))
      (vss_one (vs_ret (ve_stab (ve_var (pv 2))))))) vss_nil)
      (vss_cons (vs_putL (i := 0) (pv 0) (ve_c pe_int (fun _ _ => .int _)) (ve_bin op_mod ok_mod (ve_callTy call_int1 ok_int (by rfl) T.n_int boot_int (va_cons (ve_bin (op_addV (by rfl)) ok_add (ve_bin (op_mulV (by rfl)) ok_mul (ve_ix (ix_any (by rfl) (by rfl) (hu_of hr)) ok_ix (ve_var (pv 0)) (ve_c pe_int (fun _ _ => .int _)) (fun _ _ => (by rfl))) (ve_c pe_int (fun _ _ => .int _))) (ve_c pe_int (fun _ _ => .int _))) va_nil)) (ve_c pe_int (fun _ _ => .int _))))
      (vss_one (vs_ret (ve_bin op_mod ok_mod (ve_callTy call_int1 ok_int (by rfl) T.n_int boot_int (va_cons (ve_bin op_fdivW ok_div (ve_bin op_mod ok_mod (ve_callTy call_int1 ok_int (by rfl) T.n_int boot_int (va_cons (ve_bin (op_mulV (by rfl)) ok_mul (ve_ix (ix_any (by rfl) (by rfl) (hu_of hr)) ok_ix (ve_var (pv 0)) (ve_c pe_int (fun _ _ => .int _)) (fun _ _ => (by rfl))) (ve_ix (ix_any (by rfl) (by rfl) (hu_of hr)) ok_ix (ve_var (pv 0)) (ve_c pe_int (fun _ _ => .int _)) (fun _ _ => (by rfl)))) va_nil)) (ve_c pe_int (fun _ _ => .int _))) (ve_c pe_int (fun _ _ => .int _))) va_nil)) (ve_var (pv 1)))))))
def m_choose : MS :=
    (mRet (mFun semIx [(mStab (mVar 1)), (mCall f_draw [.r 0, .v ⟨true, true, (mFun semLen [(mVar 1)])⟩])]))
def f_choose : MF := mBody [true, false] 2 m_choose
theorem ok_choose {P : Program} {w : World} {K : PySem.W.Frag} {mg : Str → Option Value} {base : Heap} (T : Txt K mg) (F : ∃ fd, FunV K d_choose fd) (h_draw : Ok P w K mg base (gam K w) d_draw 1 ["_law_stream_here", "_law_count"] f_draw) : Ok P w K mg base (gam K w) d_choose 2 ["_law_stream_here", "_law_items"] f_choose := by
  obtain ⟨fd_draw, F_draw, G_draw⟩ := h_draw
  obtain ⟨ds_draw_2, v_draw_2, b_draw_2⟩ := bnd_draw_2 F_draw
  cases v_draw_2
  have v_draw_2 : Vals (([] : List (V × Val)).map (·.1)) [] := .nil
  refine ok_of F sc_choose rfl fun cdv A outer s H E hr tk hp σ0 => ?_
  exact (vss_one (vs_ret (ve_ix (ix_any (by rfl) (by rfl) (hu_of hr)) ok_ix (ve_stab (ve_var (pv 1))) (ve_call (cal_fn G_draw (hr.mono (by decide)) b_draw_2 v_draw_2 tk) (by rfl) T.g_draw F_draw.kp (vg_r (pv 0) (vg_v (ve_callB (call_lenV (by rfl)) ok_len (by rfl) T.n_len boot_len (va_cons (ve_var (pv 1)) va_nil)) vg_nil)) dfl_draw_2) (fun _ _ => (by rfl)))))
def m_pair : MS :=
    (mSeq (mSet 1 (mCall f_choose [.r 0, .v ⟨false, true, (mFz (mLst [(mFun semSub [(mCall f_draw [.r 0, .v ⟨true, true, (mC (.int 13))⟩]), (mC (.int 6))]), (mFun semSub [(mCall f_draw [.r 0, .v ⟨true, true, (mFun semMul [(mC (.int 2)), (mFun semPow [(mC (.int 10)), (mC (.int 12))])])⟩]), (mFun semPow [(mC (.int 10)), (mC (.int 12))])]), (mC (.int 0))]))⟩]))
    (mRet (mLst [(mStab (mVar 1)), (mFun semAdd [(mC (.int 1)), (mCall f_choose [.r 0, .v ⟨false, true, (mFz (mLst [(mCall f_draw [.r 0, .v ⟨true, true, (mC (.int 12))⟩]), (mCall f_draw [.r 0, .v ⟨true, true, (mFun semPow [(mC (.int 10)), (mC (.int 12))])⟩])]))⟩])])])))
def f_pair : MF := mBody [true] 2 m_pair
theorem ok_pair {P : Program} {w : World} {K : PySem.W.Frag} {mg : Str → Option Value} {base : Heap} (T : Txt K mg) (F : ∃ fd, FunV K d_pair fd) (h_draw : Ok P w K mg base (gam K w) d_draw 1 ["_law_stream_here", "_law_count"] f_draw) (h_choose : Ok P w K mg base (gam K w) d_choose 2 ["_law_stream_here", "_law_items"] f_choose) : Ok P w K mg base (gam K w) d_pair 3 ["_law_stream_here"] f_pair := by
  obtain ⟨fd_draw, F_draw, G_draw⟩ := h_draw
  obtain ⟨fd_choose, F_choose, G_choose⟩ := h_choose
  obtain ⟨ds_choose_2, v_choose_2, b_choose_2⟩ := bnd_choose_2 F_choose
  obtain ⟨ds_draw_2, v_draw_2, b_draw_2⟩ := bnd_draw_2 F_draw
  cases v_choose_2
  have v_choose_2 : Vals (([] : List (V × Val)).map (·.1)) [] := .nil
  cases v_draw_2
  have v_draw_2 : Vals (([] : List (V × Val)).map (·.1)) [] := .nil
  refine ok_of F sc_pair rfl fun cdv A outer s H E hr tk hp σ0 => ?_
  exact (vss_cons (vs_set (i := 1) sc_pair.nd (by rfl) (by first | exact Or.inl rfl | exact Or.inr rfl) (ve_call (cal_fn G_choose (hr.mono (by decide)) b_choose_2 v_choose_2 tk) (by rfl) T.g_choose F_choose.kp (vg_r (pv 0) (vg_v (ve_fz (ve_lst (va_cons (ve_bin op_sub ok_sub (ve_call (cal_fn G_draw (hr.mono (by decide)) b_draw_2 v_draw_2 tk) (by rfl) T.g_draw F_draw.kp (vg_r (pv 0) (vg_v (ve_c pe_int (fun _ _ => .int _)) vg_nil)) dfl_draw_2) (ve_c pe_int (fun _ _ => .int _))) (va_cons (ve_bin op_sub ok_sub (ve_call (cal_fn G_draw (hr.mono (by decide)) b_draw_2 v_draw_2 tk) (by rfl) T.g_draw F_draw.kp (vg_r (pv 0) (vg_v (ve_bin (op_mulV (by rfl)) ok_mul (ve_c pe_int (fun _ _ => .int _)) (ve_bin op_pow ok_pow (ve_c pe_int (fun _ _ => .int _)) (ve_c pe_int (fun _ _ => .int _)))) vg_nil)) dfl_draw_2) (ve_bin op_pow ok_pow (ve_c pe_int (fun _ _ => .int _)) (ve_c pe_int (fun _ _ => .int _)))) (va_cons (ve_c pe_int (fun _ _ => .int _)) va_nil))))) vg_nil)) dfl_choose_2))
      (vss_one (vs_ret (ve_lst (va_cons (ve_stab (ve_var (pv 1))) (va_cons (ve_bin (op_addV (by rfl)) ok_add (ve_c pe_int (fun _ _ => .int _)) (ve_call (cal_fn G_choose (hr.mono (by decide)) b_choose_2 v_choose_2 tk) (by rfl) T.g_choose F_choose.kp (vg_r (pv 0) (vg_v (ve_fz (ve_lst (va_cons (ve_call (cal_fn G_draw (hr.mono (by decide)) b_draw_2 v_draw_2 tk) (by rfl) T.g_draw F_draw.kp (vg_r (pv 0) (vg_v (ve_c pe_int (fun _ _ => .int _)) vg_nil)) dfl_draw_2) (va_cons (ve_call (cal_fn G_draw (hr.mono (by decide)) b_draw_2 v_draw_2 tk) (by rfl) T.g_draw F_draw.kp (vg_r (pv 0) (vg_v (ve_bin op_pow ok_pow (ve_c pe_int (fun _ _ => .int _)) (ve_c pe_int (fun _ _ => .int _))) vg_nil)) dfl_draw_2) va_nil)))) vg_nil)) dfl_choose_2)) va_nil))))))
def m_is_integer : MS :=
    (mRet (mAnd (mFun (semIsi sub) [(mVar 0), (mC (.ty "int"))]) (mNot (mFun (semIsi sub) [(mVar 0), (mC (.ty "bool"))]))))
def f_is_integer : MF := mBody [false] 1 m_is_integer
theorem ok_is_integer {P : Program} {w : World} {K : PySem.W.Frag} {mg : Str → Option Value} {base : Heap} (T : Txt K mg) (F : ∃ fd, FunV K d_is_integer fd)  : Ok P w K mg base (gam K w) d_is_integer 1 ["value"] f_is_integer := by
  refine ok_of F sc_is_integer rfl fun cdv A outer s H E hr tk hp σ0 => ?_
  exact (vss_one (vs_ret (ve_and (ve_callB call_isi (ok_isi (isi_facts T)) (by rfl) T.n_isinstance boot_isinstance (va_cons (ve_var (pv 0)) (va_cons (ve_c (pe_bltn (by rfl) T.n_int boot_int (by rfl)) (fun _ _ => .ty _)) va_nil))) (ve_one (ve_not (ve_callB call_isi (ok_isi (isi_facts T)) (by rfl) T.n_isinstance boot_isinstance (va_cons (ve_var (pv 0)) (va_cons (ve_c (pe_bltn (by rfl) T.n_bool boot_bool (by rfl)) (fun _ _ => .ty _)) va_nil))))))))
def m_common : MS :=
    (mSeq (mPar 0 1 (mFun semMax2 [(mVar 0), (mFun semNeg [(mVar 0)])]) (mFun semMax2 [(mVar 1), (mFun semNeg [(mVar 1)])]))
    (mSeq (mWhile (fuelAt 1) (mFun (semCmp fun i j => decide (j < i)) [(mVar 1), (mC (.int 0))]) (mPar 0 1 (mStab (mVar 1)) (mFun semMod [(mVar 0), (mVar 1)])))
    (mRet (mStab (mVar 0)))))
def f_common : MF := mBody [false, false] 2 m_common
theorem ok_common {P : Program} {w : World} {K : PySem.W.Frag} {mg : Str → Option Value} {base : Heap} (T : Txt K mg) (F : ∃ fd, FunV K d_common fd)  : Ok P w K mg base (gam K w) d_common 1 ["one", "other"] f_common := by
  refine ok_of F sc_common rfl fun cdv A outer s H E hr tk hp σ0 => ?_
  exact (vss_cons (vs_par (i := 0) (j := 1) (by rfl) sc_common.nd (by rfl) (by rfl) (by decide) (by rfl) (by rfl) (ve_callB (call_max2 (by rfl)) ok_max2 (by rfl) T.n_max boot_max (va_cons (ve_var (pv 0)) (va_cons (ve_un un_neg ok_neg (ve_var (pv 0))) va_nil))) (ve_callB (call_max2 (by rfl)) ok_max2 (by rfl) T.n_max boot_max (va_cons (ve_var (pv 1)) (va_cons (ve_un un_neg ok_neg (ve_var (pv 1))) va_nil))) (by rfl))
      (vss_cons (vs_while (fuelAt 1) hp (vt_cmp op_gt ok_cmp (ve_var (pv 1)) (ve_c pe_int (fun _ _ => .int _)) (nomark _)) (vss_one (vs_par (i := 0) (j := 1) (by rfl) sc_common.nd (by rfl) (by rfl) (by decide) (by rfl) (by rfl) (ve_stab (ve_var (pv 1))) (ve_bin op_mod ok_mod (ve_var (pv 0)) (ve_var (pv 1))) (by rfl))))
      (vss_one (vs_ret (ve_stab (ve_var (pv 0)))))))
def m_Share_init : MS :=
    (mSeq (mIfS (mNot (mCall f_is_integer [.v ⟨true, true, (mStab (mVar 1))⟩])) mNever mNext)
    (mSeq (mIfS (mOr (mNot (mCall f_is_integer [.v ⟨true, true, (mStab (mVar 2))⟩])) (mFun (semCmp fun i j => decide (i < j)) [(mVar 2), (mC (.int 1))])) mNever mNext)
    (mSeq (mSet 3 (mCall f_common [.v ⟨true, true, (mStab (mVar 1))⟩, .v ⟨true, true, (mStab (mVar 2))⟩]))
    (mSeq (mSetF [0] 0 "over" (mFun semDiv [(mVar 1), (mVar 3)]))
    (mSetF [0] 0 "under" (mFun semDiv [(mVar 2), (mVar 3)]))))))
def f_Share_init : MF := mBody [true, false, false] 4 m_Share_init
theorem ok_Share_init {P : Program} {w : World} {K : PySem.W.Frag} {mg : Str → Option Value} {base : Heap} (T : Txt K mg) (F : ∃ fd, FunV K d_Share_init fd) (h_is_integer : Ok P w K mg base (gam K w) d_is_integer 1 ["value"] f_is_integer) (h_common : Ok P w K mg base (gam K w) d_common 1 ["one", "other"] f_common) : Ok P w K mg base (gam K w) d_Share_init 2 ["self", "top", "bottom"] f_Share_init := by
  obtain ⟨fd_is_integer, F_is_integer, G_is_integer⟩ := h_is_integer
  obtain ⟨fd_common, F_common, G_common⟩ := h_common
  obtain ⟨ds_common_2, v_common_2, b_common_2⟩ := bnd_common_2 F_common
  obtain ⟨ds_is_integer_1, v_is_integer_1, b_is_integer_1⟩ := bnd_is_integer_1 F_is_integer
  cases v_common_2
  have v_common_2 : Vals (([] : List (V × Val)).map (·.1)) [] := .nil
  cases v_is_integer_1
  have v_is_integer_1 : Vals (([] : List (V × Val)).map (·.1)) [] := .nil
  refine ok_of F sc_Share_init rfl fun cdv A outer s H E hr tk hp σ0 => ?_
  exact (vss_cons (vs_if (vt_not (vt_val (ve_call (cal_fn G_is_integer (hr.mono (by decide)) b_is_integer_1 v_is_integer_1 tk) (by rfl) T.g_is_integer F_is_integer.kp (vg_v (ve_stab (ve_var (pv 1))) vg_nil) dfl_is_integer_1))) vss_never vss_nil)
      (vss_cons (vs_if (vt_of (vw_or (vt_not (vt_val (ve_call (cal_fn G_is_integer (hr.mono (by decide)) b_is_integer_1 v_is_integer_1 tk) (by rfl) T.g_is_integer F_is_integer.kp (vg_v (ve_stab (ve_var (pv 2))) vg_nil) dfl_is_integer_1))) (vw_or1 (vt_cmp op_lt ok_cmp (ve_var (pv 2)) (ve_c pe_int (fun _ _ => .int _)) (nomark _))))) vss_never vss_nil)
      (vss_cons (vs_set (i := 3) sc_Share_init.nd (by rfl) (by first | exact Or.inl rfl | exact Or.inr rfl) (ve_call (cal_fn G_common (hr.mono (by decide)) b_common_2 v_common_2 tk) (by rfl) T.g_common F_common.kp (vg_v (ve_stab (ve_var (pv 1))) (vg_v (ve_stab (ve_var (pv 2))) vg_nil)) dfl_common_2))
      (vss_cons (vs_setF (cs := [0]) (i := 0) (fld_over T) (pv 0) (ve_bin op_fdivW ok_div (ve_var (pv 1)) (ve_var (pv 3))))
      (vss_one (vs_setF (cs := [0]) (i := 0) (fld_under T) (pv 0) (ve_bin op_fdivW ok_div (ve_var (pv 2)) (ve_var (pv 3)))))))))
def m_Share_bottom : MS :=
    (mRet (mFun (semFld [0] "under") [(mVar 0)]))
def f_Share_bottom : MF := mBody [true] 1 m_Share_bottom
theorem ok_Share_bottom {P : Program} {w : World} {K : PySem.W.Frag} {mg : Str → Option Value} {base : Heap} (T : Txt K mg) (F : ∃ fd, FunV K d_Share_bottom fd)  : Ok P w K mg base (gam K w) d_Share_bottom 1 ["self"] f_Share_bottom := by
  refine ok_of F sc_Share_bottom rfl fun cdv A outer s H E hr tk hp σ0 => ?_
  exact (vss_one (vs_ret (ve_fld (cs := [0]) (fld_under T) (ve_var (pv 0)))))
def m_Share_top : MS :=
    (mRet (mFun (semFld [0] "over") [(mVar 0)]))
def f_Share_top : MF := mBody [true] 1 m_Share_top
theorem ok_Share_top {P : Program} {w : World} {K : PySem.W.Frag} {mg : Str → Option Value} {base : Heap} (T : Txt K mg) (F : ∃ fd, FunV K d_Share_top fd)  : Ok P w K mg base (gam K w) d_Share_top 1 ["self"] f_Share_top := by
  refine ok_of F sc_Share_top rfl fun cdv A outer s H E hr tk hp σ0 => ?_
  exact (vss_one (vs_ret (ve_fld (cs := [0]) (fld_over T) (ve_var (pv 0)))))
def m_Share_str : MS :=
    (mRet (mJoin [(mFun semFmt1 [(mFun (semFld [0] "over") [(mVar 0)])]), (mC (.str "/")), (mFun semFmt1 [(mFun (semFld [0] "under") [(mVar 0)])])] Str.empty))
def f_Share_str : MF := mBody [true] 1 m_Share_str
theorem ok_Share_str {P : Program} {w : World} {K : PySem.W.Frag} {mg : Str → Option Value} {base : Heap} (T : Txt K mg) (F : ∃ fd, FunV K d_Share_str fd)  : Ok P w K mg base (gam K w) d_Share_str 1 ["self"] f_Share_str := by
  refine ok_of F sc_Share_str rfl fun cdv A outer s H E hr tk hp σ0 => ?_
  exact (vss_one (vs_ret (ve_join (.cons (ve_fmt (ve_fld (cs := [0]) (fld_over T) (ve_var (pv 0)))) (.cons (ve_c pe_str (fun _ _ => .str _)) (.cons (ve_fmt (ve_fld (cs := [0]) (fld_under T) (ve_var (pv 0)))) .nil))))))
def m_told_right : MS :=
    (mSeq (mIfS (mOr (mFun semNe [(mFun semMul [(mPropR 0 f_Share_top 0), (mVar 2)]), (mFun semMul [(mStab (mVar 1)), (mPropR 0 f_Share_bottom 0)])]) (mFun (semCmp fun i j => decide (i < j)) [(mPropR 0 f_Share_bottom 0), (mC (.int 1))])) (mRet (mC (.bl false))) mNext)
    (mSeq (mPar 3 4 (mFun semMax2 [(mPropR 0 f_Share_top 0), (mFun semNeg [(mPropR 0 f_Share_top 0)])]) (mPropR 0 f_Share_bottom 0))
    (mSeq (mWhile (fuelAt 4) (mFun (semCmp fun i j => decide (j < i)) [(mVar 4), (mC (.int 0))]) (mPar 3 4 (mStab (mVar 4)) (mFun semMod [(mFun semInt [(mVar 3)]), (mVar 4)])))
    (mRet (mAnd (mFun semEq [(mVar 3), (mC (.int 1))]) (mFun semEq [(mCall (mfStr 0 f_Share_str) [.v ⟨true, true, (mStab (mVar 0))⟩]), (mFun semAdd [(mFun semAdd [(mFun semStr [(mPropR 0 f_Share_top 0)]), (mC (.str "/"))]), (mFun semStr [(mPropR 0 f_Share_bottom 0)])])]))))))
def f_told_right : MF := mBody [false, false, false] 5 m_told_right
theorem ok_told_right {P : Program} {w : World} {K : PySem.W.Frag} {mg : Str → Option Value} {base : Heap} (T : Txt K mg) (F : ∃ fd, FunV K d_told_right fd) (h_Share_bottom : Ok P w K mg base (gam K w) d_Share_bottom 1 ["self"] f_Share_bottom) (h_Share_top : Ok P w K mg base (gam K w) d_Share_top 1 ["self"] f_Share_top) (h_Share_str : Ok P w K mg base (gam K w) d_Share_str 1 ["self"] f_Share_str) : Ok P w K mg base (gam K w) d_told_right 4 ["_law_share", "_law_top", "_law_bottom"] f_told_right := by
  obtain ⟨fd_Share_bottom, F_Share_bottom, G_Share_bottom⟩ := h_Share_bottom
  obtain ⟨fd_Share_top, F_Share_top, G_Share_top⟩ := h_Share_top
  obtain ⟨fd_Share_str, F_Share_str, G_Share_str⟩ := h_Share_str
  obtain ⟨ds_Share_bottom_1, v_Share_bottom_1, b_Share_bottom_1⟩ := bnd_Share_bottom_1 F_Share_bottom
  obtain ⟨ds_Share_str_1, v_Share_str_1, b_Share_str_1⟩ := bnd_Share_str_1 F_Share_str
  obtain ⟨ds_Share_top_1, v_Share_top_1, b_Share_top_1⟩ := bnd_Share_top_1 F_Share_top
  cases v_Share_bottom_1
  have v_Share_bottom_1 : Vals (([] : List (V × Val)).map (·.1)) [] := .nil
  cases v_Share_str_1
  have v_Share_str_1 : Vals (([] : List (V × Val)).map (·.1)) [] := .nil
  cases v_Share_top_1
  have v_Share_top_1 : Vals (([] : List (V × Val)).map (·.1)) [] := .nil
  refine ok_of F sc_told_right rfl fun cdv A outer s H E hr tk hp σ0 => ?_
  exact (vss_cons (vs_if (vt_of (vw_or (vt_cmp (op_neD hr.units) ok_ne (ve_bin (op_mulV (by rfl)) ok_mul (ve_propR (c := 0) (pv 0) (by rfl) T.cl_Share T.pr_Share_top G_Share_top (hr.mono (by decide)) b_Share_top_1) (ve_var (pv 2))) (ve_bin (op_mulV (by rfl)) ok_mul (ve_stab (ve_var (pv 1))) (ve_propR (c := 0) (pv 0) (by rfl) T.cl_Share T.pr_Share_bottom G_Share_bottom (hr.mono (by decide)) b_Share_bottom_1)) (nomark _)) (vw_or1 (vt_cmp op_lt ok_cmp (ve_propR (c := 0) (pv 0) (by rfl) T.cl_Share T.pr_Share_bottom G_Share_bottom (hr.mono (by decide)) b_Share_bottom_1) (ve_c pe_int (fun _ _ => .int _)) (nomark _))))) (vss_one (vs_ret (ve_c pe_bl (fun _ _ => .bl _)))) vss_nil)
      (vss_cons (vs_par (i := 3) (j := 4) (by rfl) sc_told_right.nd (by rfl) (by rfl) (by decide) (by rfl) (by rfl) (ve_callB (call_max2 (by rfl)) ok_max2 (by rfl) T.n_max boot_max (va_cons (ve_propR (c := 0) (pv 0) (by rfl) T.cl_Share T.pr_Share_top G_Share_top (hr.mono (by decide)) b_Share_top_1) (va_cons (ve_un un_neg ok_neg (ve_propR (c := 0) (pv 0) (by rfl) T.cl_Share T.pr_Share_top G_Share_top (hr.mono (by decide)) b_Share_top_1)) va_nil))) (ve_propR (c := 0) (pv 0) (by rfl) T.cl_Share T.pr_Share_bottom G_Share_bottom (hr.mono (by decide)) b_Share_bottom_1) (by rfl))
      (vss_cons (vs_while (fuelAt 4) hp (vt_cmp op_gt ok_cmp (ve_var (pv 4)) (ve_c pe_int (fun _ _ => .int _)) (nomark _)) (vss_one (vs_par (i := 3) (j := 4) (by rfl) sc_told_right.nd (by rfl) (by rfl) (by decide) (by rfl) (by rfl) (ve_stab (ve_var (pv 4))) (ve_bin op_mod ok_mod (ve_callTy call_int1 ok_int (by rfl) T.n_int boot_int (va_cons (ve_var (pv 3)) va_nil)) (ve_var (pv 4))) (by rfl))))
      (vss_one (vs_ret (ve_and (ve_cmp (op_eqD hr.units) ok_eq (ve_var (pv 3)) (ve_c pe_int (fun _ _ => .int _)) (nomark _)) (ve_one (ve_cmp (op_eqD hr.units) ok_eq (ve_strO (c := 0) T.st_Share T.sf_Share G_Share_str (hr.mono (by decide)) b_Share_str_1 (by rfl) (by rfl) T.n_str boot_str (ve_stab (ve_var (pv 0)))) (ve_bin (op_addV (by rfl)) ok_add (ve_bin (op_addV (by rfl)) ok_add (ve_callTy call_str_int ok_str (by rfl) T.n_str boot_str (va_cons (ve_propR (c := 0) (pv 0) (by rfl) T.cl_Share T.pr_Share_top G_Share_top (hr.mono (by decide)) b_Share_top_1) va_nil)) (ve_c pe_str (fun _ _ => .str _))) (ve_callTy call_str_int ok_str (by rfl) T.n_str boot_str (va_cons (ve_propR (c := 0) (pv 0) (by rfl) T.cl_Share T.pr_Share_bottom G_Share_bottom (hr.mono (by decide)) b_Share_bottom_1) va_nil))) (nomark _)))))))))
def m_over : MS :=
    (mRet (mIf (mFun (semIsi sub) [(mVar 0), (mC (.ty "int"))]) (mLst [(mStab (mVar 0)), (mC (.int 1))]) (mLst [(mPropR 0 f_Share_top 0), (mPropR 0 f_Share_bottom 0)])))
def f_over : MF := mBody [false] 1 m_over
theorem ok_over {P : Program} {w : World} {K : PySem.W.Frag} {mg : Str → Option Value} {base : Heap} (T : Txt K mg) (F : ∃ fd, FunV K d_over fd) (h_Share_bottom : Ok P w K mg base (gam K w) d_Share_bottom 1 ["self"] f_Share_bottom) (h_Share_top : Ok P w K mg base (gam K w) d_Share_top 1 ["self"] f_Share_top) : Ok P w K mg base (gam K w) d_over 3 ["_law_thing"] f_over := by
  obtain ⟨fd_Share_bottom, F_Share_bottom, G_Share_bottom⟩ := h_Share_bottom
  obtain ⟨fd_Share_top, F_Share_top, G_Share_top⟩ := h_Share_top
  obtain ⟨ds_Share_bottom_1, v_Share_bottom_1, b_Share_bottom_1⟩ := bnd_Share_bottom_1 F_Share_bottom
  obtain ⟨ds_Share_top_1, v_Share_top_1, b_Share_top_1⟩ := bnd_Share_top_1 F_Share_top
  cases v_Share_bottom_1
  have v_Share_bottom_1 : Vals (([] : List (V × Val)).map (·.1)) [] := .nil
  cases v_Share_top_1
  have v_Share_top_1 : Vals (([] : List (V × Val)).map (·.1)) [] := .nil
  refine ok_of F sc_over rfl fun cdv A outer s H E hr tk hp σ0 => ?_
  exact (vss_one (vs_ret (ve_if (vt_val (ve_callB call_isi (ok_isi (isi_facts T)) (by rfl) T.n_isinstance boot_isinstance (va_cons (ve_var (pv 0)) (va_cons (ve_c (pe_bltn (by rfl) T.n_int boot_int (by rfl)) (fun _ _ => .ty _)) va_nil)))) (ve_lst (va_cons (ve_stab (ve_var (pv 0))) (va_cons (ve_c pe_int (fun _ _ => .int _)) va_nil))) (ve_lst (va_cons (ve_propR (c := 0) (pv 0) (by rfl) T.cl_Share T.pr_Share_top G_Share_top (hr.mono (by decide)) b_Share_top_1) (va_cons (ve_propR (c := 0) (pv 0) (by rfl) T.cl_Share T.pr_Share_bottom G_Share_bottom (hr.mono (by decide)) b_Share_bottom_1) va_nil))))))
def m_is_number : MS :=
    (mRet (mOr (mFun (semIsi sub) [(mVar 0), (mC (.cn 0))]) (mCall f_is_integer [.v ⟨true, true, (mStab (mVar 0))⟩])))
def f_is_number : MF := mBody [false] 1 m_is_number
theorem ok_is_number {P : Program} {w : World} {K : PySem.W.Frag} {mg : Str → Option Value} {base : Heap} (T : Txt K mg) (F : ∃ fd, FunV K d_is_number fd) (h_is_integer : Ok P w K mg base (gam K w) d_is_integer 1 ["value"] f_is_integer) : Ok P w K mg base (gam K w) d_is_number 2 ["value"] f_is_number := by
  obtain ⟨fd_is_integer, F_is_integer, G_is_integer⟩ := h_is_integer
  obtain ⟨ds_is_integer_1, v_is_integer_1, b_is_integer_1⟩ := bnd_is_integer_1 F_is_integer
  cases v_is_integer_1
  have v_is_integer_1 : Vals (([] : List (V × Val)).map (·.1)) [] := .nil
  refine ok_of F sc_is_number rfl fun cdv A outer s H E hr tk hp σ0 => ?_
  exact (vss_one (vs_ret (ve_or (ve_callB call_isi (ok_isi (isi_facts T)) (by rfl) T.n_isinstance boot_isinstance (va_cons (ve_var (pv 0)) (va_cons (ve_c (pe_glob (by rfl) T.g_Share (by rfl)) (fun _ _ => .cn (by rfl))) va_nil))) (ve_one (ve_call (cal_fn G_is_integer (hr.mono (by decide)) b_is_integer_1 v_is_integer_1 tk) (by rfl) T.g_is_integer F_is_integer.kp (vg_v (ve_stab (ve_var (pv 0))) vg_nil) dfl_is_integer_1)))))
def m_over_of : MS :=
    (mRet (mIf (mFun (semIsi sub) [(mVar 0), (mC (.cn 0))]) (mFun (semFld [0] "over") [(mVar 0)]) (mStab (mVar 0))))
def f_over_of : MF := mBody [false] 1 m_over_of
theorem ok_over_of {P : Program} {w : World} {K : PySem.W.Frag} {mg : Str → Option Value} {base : Heap} (T : Txt K mg) (F : ∃ fd, FunV K d_over_of fd)  : Ok P w K mg base (gam K w) d_over_of 1 ["value"] f_over_of := by
  refine ok_of F sc_over_of rfl fun cdv A outer s H E hr tk hp σ0 => ?_
  exact (vss_one (vs_ret (ve_if (vt_val (ve_callB call_isi (ok_isi (isi_facts T)) (by rfl) T.n_isinstance boot_isinstance (va_cons (ve_var (pv 0)) (va_cons (ve_c (pe_glob (by rfl) T.g_Share (by rfl)) (fun _ _ => .cn (by rfl))) va_nil)))) (ve_fld (cs := [0]) (fld_over T) (ve_var (pv 0))) (ve_stab (ve_var (pv 0))))))
def m_under_of : MS :=
    (mRet (mIf (mFun (semIsi sub) [(mVar 0), (mC (.cn 0))]) (mFun (semFld [0] "under") [(mVar 0)]) (mC (.int 1))))
def f_under_of : MF := mBody [false] 1 m_under_of
theorem ok_under_of {P : Program} {w : World} {K : PySem.W.Frag} {mg : Str → Option Value} {base : Heap} (T : Txt K mg) (F : ∃ fd, FunV K d_under_of fd)  : Ok P w K mg base (gam K w) d_under_of 1 ["value"] f_under_of := by
  refine ok_of F sc_under_of rfl fun cdv A outer s H E hr tk hp σ0 => ?_
  exact (vss_one (vs_ret (ve_if (vt_val (ve_callB call_isi (ok_isi (isi_facts T)) (by rfl) T.n_isinstance boot_isinstance (va_cons (ve_var (pv 0)) (va_cons (ve_c (pe_glob (by rfl) T.g_Share (by rfl)) (fun _ _ => .cn (by rfl))) va_nil)))) (ve_fld (cs := [0]) (fld_under T) (ve_var (pv 0))) (ve_c pe_int (fun _ _ => .int _)))))
def m_Share_add : MS :=
    (mSeq (mIfS (mNot (mCall f_is_number [.v ⟨true, true, (mStab (mVar 1))⟩])) mNever mNext)
    (mRet (mCall (mMake 0 f_Share_init) [.v ⟨true, true, (mFun semAdd [(mFun semMul [(mFun (semFld [0] "over") [(mVar 0)]), (mCall f_under_of [.v ⟨true, true, (mStab (mVar 1))⟩])]), (mFun semMul [(mCall f_over_of [.v ⟨true, true, (mStab (mVar 1))⟩]), (mFun (semFld [0] "under") [(mVar 0)])])])⟩, .v ⟨true, true, (mFun semMul [(mFun (semFld [0] "under") [(mVar 0)]), (mCall f_under_of [.v ⟨true, true, (mStab (mVar 1))⟩])])⟩])))
def f_Share_add : MF := mBody [true, false] 2 m_Share_add
theorem ok_Share_add {P : Program} {w : World} {K : PySem.W.Frag} {mg : Str → Option Value} {base : Heap} (T : Txt K mg) (F : ∃ fd, FunV K d_Share_add fd) (h_Share_init : Ok P w K mg base (gam K w) d_Share_init 2 ["self", "top", "bottom"] f_Share_init) (h_is_number : Ok P w K mg base (gam K w) d_is_number 2 ["value"] f_is_number) (h_over_of : Ok P w K mg base (gam K w) d_over_of 1 ["value"] f_over_of) (h_under_of : Ok P w K mg base (gam K w) d_under_of 1 ["value"] f_under_of) : Ok P w K mg base (gam K w) d_Share_add 4 ["self", "other"] f_Share_add := by
  obtain ⟨fd_Share_init, F_Share_init, G_Share_init⟩ := h_Share_init
  obtain ⟨fd_is_number, F_is_number, G_is_number⟩ := h_is_number
  obtain ⟨fd_over_of, F_over_of, G_over_of⟩ := h_over_of
  obtain ⟨fd_under_of, F_under_of, G_under_of⟩ := h_under_of
  obtain ⟨ds_Share_init_3, v_Share_init_3, b_Share_init_3⟩ := bnd_Share_init_3 F_Share_init
  obtain ⟨ds_is_number_1, v_is_number_1, b_is_number_1⟩ := bnd_is_number_1 F_is_number
  obtain ⟨ds_over_of_1, v_over_of_1, b_over_of_1⟩ := bnd_over_of_1 F_over_of
  obtain ⟨ds_under_of_1, v_under_of_1, b_under_of_1⟩ := bnd_under_of_1 F_under_of
  cases v_Share_init_3
  have v_Share_init_3 : Vals (([] : List (V × Val)).map (·.1)) [] := .nil
  cases v_is_number_1
  have v_is_number_1 : Vals (([] : List (V × Val)).map (·.1)) [] := .nil
  cases v_over_of_1
  have v_over_of_1 : Vals (([] : List (V × Val)).map (·.1)) [] := .nil
  cases v_under_of_1
  have v_under_of_1 : Vals (([] : List (V × Val)).map (·.1)) [] := .nil
  refine ok_of F sc_Share_add rfl fun cdv A outer s H E hr tk hp σ0 => ?_
  exact (vss_cons (vs_if (vt_not (vt_val (ve_call (cal_fn G_is_number (hr.mono (by decide)) b_is_number_1 v_is_number_1 tk) (by rfl) T.g_is_number F_is_number.kp (vg_v (ve_stab (ve_var (pv 1))) vg_nil) dfl_is_number_1))) vss_never vss_nil)
      (vss_one (vs_ret (ve_call (cal_make (c := 0) (by rfl) T.mk_Share G_Share_init (hr.mono (by decide)) b_Share_init_3 v_Share_init_3 tk) (by rfl) T.g_Share T.mk_Share.kp (vg_v (ve_bin (op_addV (by rfl)) ok_add (ve_bin (op_mulV (by rfl)) ok_mul (ve_fld (cs := [0]) (fld_over T) (ve_var (pv 0))) (ve_call (cal_fn G_under_of (hr.mono (by decide)) b_under_of_1 v_under_of_1 tk) (by rfl) T.g_under_of F_under_of.kp (vg_v (ve_stab (ve_var (pv 1))) vg_nil) dfl_under_of_1)) (ve_bin (op_mulV (by rfl)) ok_mul (ve_call (cal_fn G_over_of (hr.mono (by decide)) b_over_of_1 v_over_of_1 tk) (by rfl) T.g_over_of F_over_of.kp (vg_v (ve_stab (ve_var (pv 1))) vg_nil) dfl_over_of_1) (ve_fld (cs := [0]) (fld_under T) (ve_var (pv 0))))) (vg_v (ve_bin (op_mulV (by rfl)) ok_mul (ve_fld (cs := [0]) (fld_under T) (ve_var (pv 0))) (ve_call (cal_fn G_under_of (hr.mono (by decide)) b_under_of_1 v_under_of_1 tk) (by rfl) T.g_under_of F_under_of.kp (vg_v (ve_stab (ve_var (pv 1))) vg_nil) dfl_under_of_1)) vg_nil)) dfl_Share_init_3))))
def m_Share_radd : MS :=
    (mRet (mCall (mfBin 0 f_Share_add mfBad) [.v ⟨true, true, (mStab (mVar 0))⟩, .v ⟨true, true, (mStab (mVar 1))⟩]))
def f_Share_radd : MF := mBody [true, false] 2 m_Share_radd
theorem ok_Share_radd {P : Program} {w : World} {K : PySem.W.Frag} {mg : Str → Option Value} {base : Heap} (T : Txt K mg) (F : ∃ fd, FunV K d_Share_radd fd) (h_Share_add : Ok P w K mg base (gam K w) d_Share_add 4 ["self", "other"] f_Share_add) : Ok P w K mg base (gam K w) d_Share_radd 5 ["self", "other"] f_Share_radd := by
  obtain ⟨fd_Share_add, F_Share_add, G_Share_add⟩ := h_Share_add
  obtain ⟨ds_Share_add_2, v_Share_add_2, b_Share_add_2⟩ := bnd_Share_add_2 F_Share_add
  cases v_Share_add_2
  have v_Share_add_2 : Vals (([] : List (V × Val)).map (·.1)) [] := .nil
  refine ok_of F sc_Share_radd rfl fun cdv A outer s H E hr tk hp σ0 => ?_
  exact (vss_one (vs_ret (ve_ownbin (op := .Add) (c := 0) T.op_Share_add int_add (by rfl) (cal_fn G_Share_add (hr.mono (by decide)) b_Share_add_2 .nil tk) cal_bad (ve_stab (ve_var (pv 0))) (ve_stab (ve_var (pv 1))))))
def m_Share_sub : MS :=
    (mSeq (mIfS (mNot (mCall f_is_number [.v ⟨true, true, (mStab (mVar 1))⟩])) mNever mNext)
    (mRet (mCall (mMake 0 f_Share_init) [.v ⟨true, true, (mFun semSub [(mFun semMul [(mFun (semFld [0] "over") [(mVar 0)]), (mCall f_under_of [.v ⟨true, true, (mStab (mVar 1))⟩])]), (mFun semMul [(mCall f_over_of [.v ⟨true, true, (mStab (mVar 1))⟩]), (mFun (semFld [0] "under") [(mVar 0)])])])⟩, .v ⟨true, true, (mFun semMul [(mFun (semFld [0] "under") [(mVar 0)]), (mCall f_under_of [.v ⟨true, true, (mStab (mVar 1))⟩])])⟩])))
def f_Share_sub : MF := mBody [true, false] 2 m_Share_sub
theorem ok_Share_sub {P : Program} {w : World} {K : PySem.W.Frag} {mg : Str → Option Value} {base : Heap} (T : Txt K mg) (F : ∃ fd, FunV K d_Share_sub fd) (h_Share_init : Ok P w K mg base (gam K w) d_Share_init 2 ["self", "top", "bottom"] f_Share_init) (h_is_number : Ok P w K mg base (gam K w) d_is_number 2 ["value"] f_is_number) (h_over_of : Ok P w K mg base (gam K w) d_over_of 1 ["value"] f_over_of) (h_under_of : Ok P w K mg base (gam K w) d_under_of 1 ["value"] f_under_of) : Ok P w K mg base (gam K w) d_Share_sub 4 ["self", "other"] f_Share_sub := by
  obtain ⟨fd_Share_init, F_Share_init, G_Share_init⟩ := h_Share_init
  obtain ⟨fd_is_number, F_is_number, G_is_number⟩ := h_is_number
  obtain ⟨fd_over_of, F_over_of, G_over_of⟩ := h_over_of
  obtain ⟨fd_under_of, F_under_of, G_under_of⟩ := h_under_of
  obtain ⟨ds_Share_init_3, v_Share_init_3, b_Share_init_3⟩ := bnd_Share_init_3 F_Share_init
  obtain ⟨ds_is_number_1, v_is_number_1, b_is_number_1⟩ := bnd_is_number_1 F_is_number
  obtain ⟨ds_over_of_1, v_over_of_1, b_over_of_1⟩ := bnd_over_of_1 F_over_of
  obtain ⟨ds_under_of_1, v_under_of_1, b_under_of_1⟩ := bnd_under_of_1 F_under_of
  cases v_Share_init_3
  have v_Share_init_3 : Vals (([] : List (V × Val)).map (·.1)) [] := .nil
  cases v_is_number_1
  have v_is_number_1 : Vals (([] : List (V × Val)).map (·.1)) [] := .nil
  cases v_over_of_1
  have v_over_of_1 : Vals (([] : List (V × Val)).map (·.1)) [] := .nil
  cases v_under_of_1
  have v_under_of_1 : Vals (([] : List (V × Val)).map (·.1)) [] := .nil
  refine ok_of F sc_Share_sub rfl fun cdv A outer s H E hr tk hp σ0 => ?_
  exact (vss_cons (vs_if (vt_not (vt_val (ve_call (cal_fn G_is_number (hr.mono (by decide)) b_is_number_1 v_is_number_1 tk) (by rfl) T.g_is_number F_is_number.kp (vg_v (ve_stab (ve_var (pv 1))) vg_nil) dfl_is_number_1))) vss_never vss_nil)
      (vss_one (vs_ret (ve_call (cal_make (c := 0) (by rfl) T.mk_Share G_Share_init (hr.mono (by decide)) b_Share_init_3 v_Share_init_3 tk) (by rfl) T.g_Share T.mk_Share.kp (vg_v (ve_bin op_sub ok_sub (ve_bin (op_mulV (by rfl)) ok_mul (ve_fld (cs := [0]) (fld_over T) (ve_var (pv 0))) (ve_call (cal_fn G_under_of (hr.mono (by decide)) b_under_of_1 v_under_of_1 tk) (by rfl) T.g_under_of F_under_of.kp (vg_v (ve_stab (ve_var (pv 1))) vg_nil) dfl_under_of_1)) (ve_bin (op_mulV (by rfl)) ok_mul (ve_call (cal_fn G_over_of (hr.mono (by decide)) b_over_of_1 v_over_of_1 tk) (by rfl) T.g_over_of F_over_of.kp (vg_v (ve_stab (ve_var (pv 1))) vg_nil) dfl_over_of_1) (ve_fld (cs := [0]) (fld_under T) (ve_var (pv 0))))) (vg_v (ve_bin (op_mulV (by rfl)) ok_mul (ve_fld (cs := [0]) (fld_under T) (ve_var (pv 0))) (ve_call (cal_fn G_under_of (hr.mono (by decide)) b_under_of_1 v_under_of_1 tk) (by rfl) T.g_under_of F_under_of.kp (vg_v (ve_stab (ve_var (pv 1))) vg_nil) dfl_under_of_1)) vg_nil)) dfl_Share_init_3))))
def m_Share_rsub : MS :=
    (mSeq (mIfS (mNot (mCall f_is_number [.v ⟨true, true, (mStab (mVar 1))⟩])) mNever mNext)
    (mRet (mCall (mMake 0 f_Share_init) [.v ⟨true, true, (mFun semSub [(mFun semMul [(mCall f_over_of [.v ⟨true, true, (mStab (mVar 1))⟩]), (mFun (semFld [0] "under") [(mVar 0)])]), (mFun semMul [(mFun (semFld [0] "over") [(mVar 0)]), (mCall f_under_of [.v ⟨true, true, (mStab (mVar 1))⟩])])])⟩, .v ⟨true, true, (mFun semMul [(mFun (semFld [0] "under") [(mVar 0)]), (mCall f_under_of [.v ⟨true, true, (mStab (mVar 1))⟩])])⟩])))
def f_Share_rsub : MF := mBody [true, false] 2 m_Share_rsub
theorem ok_Share_rsub {P : Program} {w : World} {K : PySem.W.Frag} {mg : Str → Option Value} {base : Heap} (T : Txt K mg) (F : ∃ fd, FunV K d_Share_rsub fd) (h_Share_init : Ok P w K mg base (gam K w) d_Share_init 2 ["self", "top", "bottom"] f_Share_init) (h_is_number : Ok P w K mg base (gam K w) d_is_number 2 ["value"] f_is_number) (h_over_of : Ok P w K mg base (gam K w) d_over_of 1 ["value"] f_over_of) (h_under_of : Ok P w K mg base (gam K w) d_under_of 1 ["value"] f_under_of) : Ok P w K mg base (gam K w) d_Share_rsub 4 ["self", "other"] f_Share_rsub := by
  obtain ⟨fd_Share_init, F_Share_init, G_Share_init⟩ := h_Share_init
  obtain ⟨fd_is_number, F_is_number, G_is_number⟩ := h_is_number
  obtain ⟨fd_over_of, F_over_of, G_over_of⟩ := h_over_of
  obtain ⟨fd_under_of, F_under_of, G_under_of⟩ := h_under_of
  obtain ⟨ds_Share_init_3, v_Share_init_3, b_Share_init_3⟩ := bnd_Share_init_3 F_Share_init
  obtain ⟨ds_is_number_1, v_is_number_1, b_is_number_1⟩ := bnd_is_number_1 F_is_number
  obtain ⟨ds_over_of_1, v_over_of_1, b_over_of_1⟩ := bnd_over_of_1 F_over_of
  obtain ⟨ds_under_of_1, v_under_of_1, b_under_of_1⟩ := bnd_under_of_1 F_under_of
  cases v_Share_init_3
  have v_Share_init_3 : Vals (([] : List (V × Val)).map (·.1)) [] := .nil
  cases v_is_number_1
  have v_is_number_1 : Vals (([] : List (V × Val)).map (·.1)) [] := .nil
  cases v_over_of_1
  have v_over_of_1 : Vals (([] : List (V × Val)).map (·.1)) [] := .nil
  cases v_under_of_1
  have v_under_of_1 : Vals (([] : List (V × Val)).map (·.1)) [] := .nil
  refine ok_of F sc_Share_rsub rfl fun cdv A outer s H E hr tk hp σ0 => ?_
  exact (vss_cons (vs_if (vt_not (vt_val (ve_call (cal_fn G_is_number (hr.mono (by decide)) b_is_number_1 v_is_number_1 tk) (by rfl) T.g_is_number F_is_number.kp (vg_v (ve_stab (ve_var (pv 1))) vg_nil) dfl_is_number_1))) vss_never vss_nil)
      (vss_one (vs_ret (ve_call (cal_make (c := 0) (by rfl) T.mk_Share G_Share_init (hr.mono (by decide)) b_Share_init_3 v_Share_init_3 tk) (by rfl) T.g_Share T.mk_Share.kp (vg_v (ve_bin op_sub ok_sub (ve_bin (op_mulV (by rfl)) ok_mul (ve_call (cal_fn G_over_of (hr.mono (by decide)) b_over_of_1 v_over_of_1 tk) (by rfl) T.g_over_of F_over_of.kp (vg_v (ve_stab (ve_var (pv 1))) vg_nil) dfl_over_of_1) (ve_fld (cs := [0]) (fld_under T) (ve_var (pv 0)))) (ve_bin (op_mulV (by rfl)) ok_mul (ve_fld (cs := [0]) (fld_over T) (ve_var (pv 0))) (ve_call (cal_fn G_under_of (hr.mono (by decide)) b_under_of_1 v_under_of_1 tk) (by rfl) T.g_under_of F_under_of.kp (vg_v (ve_stab (ve_var (pv 1))) vg_nil) dfl_under_of_1))) (vg_v (ve_bin (op_mulV (by rfl)) ok_mul (ve_fld (cs := [0]) (fld_under T) (ve_var (pv 0))) (ve_call (cal_fn G_under_of (hr.mono (by decide)) b_under_of_1 v_under_of_1 tk) (by rfl) T.g_under_of F_under_of.kp (vg_v (ve_stab (ve_var (pv 1))) vg_nil) dfl_under_of_1)) vg_nil)) dfl_Share_init_3))))
def m_Share_mul : MS :=
    (mSeq (mIfS (mNot (mCall f_is_number [.v ⟨true, true, (mStab (mVar 1))⟩])) mNever mNext)
    (mRet (mCall (mMake 0 f_Share_init) [.v ⟨true, true, (mFun semMul [(mFun (semFld [0] "over") [(mVar 0)]), (mCall f_over_of [.v ⟨true, true, (mStab (mVar 1))⟩])])⟩, .v ⟨true, true, (mFun semMul [(mFun (semFld [0] "under") [(mVar 0)]), (mCall f_under_of [.v ⟨true, true, (mStab (mVar 1))⟩])])⟩])))
def f_Share_mul : MF := mBody [true, false] 2 m_Share_mul
theorem ok_Share_mul {P : Program} {w : World} {K : PySem.W.Frag} {mg : Str → Option Value} {base : Heap} (T : Txt K mg) (F : ∃ fd, FunV K d_Share_mul fd) (h_Share_init : Ok P w K mg base (gam K w) d_Share_init 2 ["self", "top", "bottom"] f_Share_init) (h_is_number : Ok P w K mg base (gam K w) d_is_number 2 ["value"] f_is_number) (h_over_of : Ok P w K mg base (gam K w) d_over_of 1 ["value"] f_over_of) (h_under_of : Ok P w K mg base (gam K w) d_under_of 1 ["value"] f_under_of) : Ok P w K mg base (gam K w) d_Share_mul 4 ["self", "other"] f_Share_mul := by
  obtain ⟨fd_Share_init, F_Share_init, G_Share_init⟩ := h_Share_init
  obtain ⟨fd_is_number, F_is_number, G_is_number⟩ := h_is_number
  obtain ⟨fd_over_of, F_over_of, G_over_of⟩ := h_over_of
  obtain ⟨fd_under_of, F_under_of, G_under_of⟩ := h_under_of
  obtain ⟨ds_Share_init_3, v_Share_init_3, b_Share_init_3⟩ := bnd_Share_init_3 F_Share_init
  obtain ⟨ds_is_number_1, v_is_number_1, b_is_number_1⟩ := bnd_is_number_1 F_is_number
  obtain ⟨ds_over_of_1, v_over_of_1, b_over_of_1⟩ := bnd_over_of_1 F_over_of
  obtain ⟨ds_under_of_1, v_under_of_1, b_under_of_1⟩ := bnd_under_of_1 F_under_of
  cases v_Share_init_3
  have v_Share_init_3 : Vals (([] : List (V × Val)).map (·.1)) [] := .nil
  cases v_is_number_1
  have v_is_number_1 : Vals (([] : List (V × Val)).map (·.1)) [] := .nil
  cases v_over_of_1
  have v_over_of_1 : Vals (([] : List (V × Val)).map (·.1)) [] := .nil
  cases v_under_of_1
  have v_under_of_1 : Vals (([] : List (V × Val)).map (·.1)) [] := .nil
  refine ok_of F sc_Share_mul rfl fun cdv A outer s H E hr tk hp σ0 => ?_
  exact (vss_cons (vs_if (vt_not (vt_val (ve_call (cal_fn G_is_number (hr.mono (by decide)) b_is_number_1 v_is_number_1 tk) (by rfl) T.g_is_number F_is_number.kp (vg_v (ve_stab (ve_var (pv 1))) vg_nil) dfl_is_number_1))) vss_never vss_nil)
      (vss_one (vs_ret (ve_call (cal_make (c := 0) (by rfl) T.mk_Share G_Share_init (hr.mono (by decide)) b_Share_init_3 v_Share_init_3 tk) (by rfl) T.g_Share T.mk_Share.kp (vg_v (ve_bin (op_mulV (by rfl)) ok_mul (ve_fld (cs := [0]) (fld_over T) (ve_var (pv 0))) (ve_call (cal_fn G_over_of (hr.mono (by decide)) b_over_of_1 v_over_of_1 tk) (by rfl) T.g_over_of F_over_of.kp (vg_v (ve_stab (ve_var (pv 1))) vg_nil) dfl_over_of_1)) (vg_v (ve_bin (op_mulV (by rfl)) ok_mul (ve_fld (cs := [0]) (fld_under T) (ve_var (pv 0))) (ve_call (cal_fn G_under_of (hr.mono (by decide)) b_under_of_1 v_under_of_1 tk) (by rfl) T.g_under_of F_under_of.kp (vg_v (ve_stab (ve_var (pv 1))) vg_nil) dfl_under_of_1)) vg_nil)) dfl_Share_init_3))))
def m_Share_rmul : MS :=
    (mRet (mCall (mfBin 0 f_Share_mul mfBad) [.v ⟨true, true, (mStab (mVar 0))⟩, .v ⟨true, true, (mStab (mVar 1))⟩]))
def f_Share_rmul : MF := mBody [true, false] 2 m_Share_rmul
theorem ok_Share_rmul {P : Program} {w : World} {K : PySem.W.Frag} {mg : Str → Option Value} {base : Heap} (T : Txt K mg) (F : ∃ fd, FunV K d_Share_rmul fd) (h_Share_mul : Ok P w K mg base (gam K w) d_Share_mul 4 ["self", "other"] f_Share_mul) : Ok P w K mg base (gam K w) d_Share_rmul 5 ["self", "other"] f_Share_rmul := by
  obtain ⟨fd_Share_mul, F_Share_mul, G_Share_mul⟩ := h_Share_mul
  obtain ⟨ds_Share_mul_2, v_Share_mul_2, b_Share_mul_2⟩ := bnd_Share_mul_2 F_Share_mul
  cases v_Share_mul_2
  have v_Share_mul_2 : Vals (([] : List (V × Val)).map (·.1)) [] := .nil
  refine ok_of F sc_Share_rmul rfl fun cdv A outer s H E hr tk hp σ0 => ?_
  exact (vss_one (vs_ret (ve_ownbin (op := .Mult) (c := 0) T.op_Share_mul int_mul (by rfl) (cal_fn G_Share_mul (hr.mono (by decide)) b_Share_mul_2 .nil tk) cal_bad (ve_stab (ve_var (pv 0))) (ve_stab (ve_var (pv 1))))))
def m_Share_eq : MS :=
    (mRet (mAnd (mCall f_is_number [.v ⟨true, true, (mStab (mVar 1))⟩]) (mAnd (mFun semEq [(mFun (semFld [0] "over") [(mVar 0)]), (mCall f_over_of [.v ⟨true, true, (mStab (mVar 1))⟩])]) (mFun semEq [(mFun (semFld [0] "under") [(mVar 0)]), (mCall f_under_of [.v ⟨true, true, (mStab (mVar 1))⟩])]))))
def f_Share_eq : MF := mBody [true, false] 2 m_Share_eq
theorem ok_Share_eq {P : Program} {w : World} {K : PySem.W.Frag} {mg : Str → Option Value} {base : Heap} (T : Txt K mg) (F : ∃ fd, FunV K d_Share_eq fd) (h_is_number : Ok P w K mg base (gam K w) d_is_number 2 ["value"] f_is_number) (h_over_of : Ok P w K mg base (gam K w) d_over_of 1 ["value"] f_over_of) (h_under_of : Ok P w K mg base (gam K w) d_under_of 1 ["value"] f_under_of) : Ok P w K mg base (gam K w) d_Share_eq 3 ["self", "other"] f_Share_eq := by
  obtain ⟨fd_is_number, F_is_number, G_is_number⟩ := h_is_number
  obtain ⟨fd_over_of, F_over_of, G_over_of⟩ := h_over_of
  obtain ⟨fd_under_of, F_under_of, G_under_of⟩ := h_under_of
  obtain ⟨ds_is_number_1, v_is_number_1, b_is_number_1⟩ := bnd_is_number_1 F_is_number
  obtain ⟨ds_over_of_1, v_over_of_1, b_over_of_1⟩ := bnd_over_of_1 F_over_of
  obtain ⟨ds_under_of_1, v_under_of_1, b_under_of_1⟩ := bnd_under_of_1 F_under_of
  cases v_is_number_1
  have v_is_number_1 : Vals (([] : List (V × Val)).map (·.1)) [] := .nil
  cases v_over_of_1
  have v_over_of_1 : Vals (([] : List (V × Val)).map (·.1)) [] := .nil
  cases v_under_of_1
  have v_under_of_1 : Vals (([] : List (V × Val)).map (·.1)) [] := .nil
  refine ok_of F sc_Share_eq rfl fun cdv A outer s H E hr tk hp σ0 => ?_
  exact (vss_one (vs_ret (ve_and (ve_call (cal_fn G_is_number (hr.mono (by decide)) b_is_number_1 v_is_number_1 tk) (by rfl) T.g_is_number F_is_number.kp (vg_v (ve_stab (ve_var (pv 1))) vg_nil) dfl_is_number_1) (ve_and (ve_cmp (op_eqD hr.units) ok_eq (ve_fld (cs := [0]) (fld_over T) (ve_var (pv 0))) (ve_call (cal_fn G_over_of (hr.mono (by decide)) b_over_of_1 v_over_of_1 tk) (by rfl) T.g_over_of F_over_of.kp (vg_v (ve_stab (ve_var (pv 1))) vg_nil) dfl_over_of_1) (nomark _)) (ve_one (ve_cmp (op_eqD hr.units) ok_eq (ve_fld (cs := [0]) (fld_under T) (ve_var (pv 0))) (ve_call (cal_fn G_under_of (hr.mono (by decide)) b_under_of_1 v_under_of_1 tk) (by rfl) T.g_under_of F_under_of.kp (vg_v (ve_stab (ve_var (pv 1))) vg_nil) dfl_under_of_1) (nomark _)))))))
def m_reckoned : MS :=
    (mSeq (mPar 2 3 (mFz (mCall f_over [.v ⟨true, true, (mStab (mVar 0))⟩])) (mFz (mCall f_over [.v ⟨true, true, (mStab (mVar 1))⟩])))
    (mSeq (mSet 4 (mFun semMul [(mFun semIx [(mVar 2), (mC (.int 1))]), (mFun semIx [(mVar 3), (mC (.int 1))])]))
    (mSeq (mSet 5 (mFun semAdd [(mFun semMul [(mFun semIx [(mVar 2), (mC (.int 0))]), (mFun semIx [(mVar 3), (mC (.int 1))])]), (mFun semMul [(mFun semIx [(mVar 3), (mC (.int 0))]), (mFun semIx [(mVar 2), (mC (.int 1))])])]))
    (mSeq (mSet 6 (mFun semSub [(mFun semMul [(mFun semIx [(mVar 2), (mC (.int 0))]), (mFun semIx [(mVar 3), (mC (.int 1))])]), (mFun semMul [(mFun semIx [(mVar 3), (mC (.int 0))]), (mFun semIx [(mVar 2), (mC (.int 1))])])]))
    (mSeq (mIfS (mOr (mNot (mCall f_told_right [.v ⟨true, true, (mFz (mCall (mfBin 0 f_Share_add f_Share_radd) [.v ⟨true, true, (mStab (mVar 0))⟩, .v ⟨true, true, (mStab (mVar 1))⟩]))⟩, .v ⟨true, true, (mStab (mVar 5))⟩, .v ⟨true, true, (mStab (mVar 4))⟩])) (mNot (mCall f_told_right [.v ⟨true, true, (mFz (mCall (mfBin 0 f_Share_sub f_Share_rsub) [.v ⟨true, true, (mStab (mVar 0))⟩, .v ⟨true, true, (mStab (mVar 1))⟩]))⟩, .v ⟨true, true, (mStab (mVar 6))⟩, .v ⟨true, true, (mStab (mVar 4))⟩]))) (mRet (mC (.bl false))) mNext)
    (mSeq (mIfS (mNot (mCall f_told_right [.v ⟨true, true, (mFz (mCall (mfBin 0 f_Share_mul f_Share_rmul) [.v ⟨true, true, (mStab (mVar 0))⟩, .v ⟨true, true, (mStab (mVar 1))⟩]))⟩, .v ⟨true, true, (mFun semMul [(mFun semIx [(mVar 2), (mC (.int 0))]), (mFun semIx [(mVar 3), (mC (.int 0))])])⟩, .v ⟨true, true, (mStab (mVar 4))⟩])) (mRet (mC (.bl false))) mNext)
    (mRet (mAnd (mFun semEq [(mCall (mfCmp id 0 f_Share_eq) [.v ⟨true, true, (mStab (mVar 0))⟩, .v ⟨true, true, (mStab (mVar 1))⟩]), (mFun semEq [(mVar 6), (mC (.int 0))])]) (mFun semEq [(mCall (mfCmp not 0 f_Share_eq) [.v ⟨true, true, (mStab (mVar 0))⟩, .v ⟨true, true, (mStab (mVar 1))⟩]), (mFun semNe [(mVar 6), (mC (.int 0))])])))))))))
def f_reckoned : MF := mBody [false, false] 7 m_reckoned
theorem ok_reckoned {P : Program} {w : World} {K : PySem.W.Frag} {mg : Str → Option Value} {base : Heap} (T : Txt K mg) (F : ∃ fd, FunV K d_reckoned fd) (h_told_right : Ok P w K mg base (gam K w) d_told_right 4 ["_law_share", "_law_top", "_law_bottom"] f_told_right) (h_over : Ok P w K mg base (gam K w) d_over 3 ["_law_thing"] f_over) (h_Share_add : Ok P w K mg base (gam K w) d_Share_add 4 ["self", "other"] f_Share_add) (h_Share_radd : Ok P w K mg base (gam K w) d_Share_radd 5 ["self", "other"] f_Share_radd) (h_Share_sub : Ok P w K mg base (gam K w) d_Share_sub 4 ["self", "other"] f_Share_sub) (h_Share_rsub : Ok P w K mg base (gam K w) d_Share_rsub 4 ["self", "other"] f_Share_rsub) (h_Share_mul : Ok P w K mg base (gam K w) d_Share_mul 4 ["self", "other"] f_Share_mul) (h_Share_rmul : Ok P w K mg base (gam K w) d_Share_rmul 5 ["self", "other"] f_Share_rmul) (h_Share_eq : Ok P w K mg base (gam K w) d_Share_eq 3 ["self", "other"] f_Share_eq) : Ok P w K mg base (gam K w) d_reckoned 6 ["_law_one", "_law_two"] f_reckoned := by
  obtain ⟨fd_told_right, F_told_right, G_told_right⟩ := h_told_right
  obtain ⟨fd_over, F_over, G_over⟩ := h_over
  obtain ⟨fd_Share_add, F_Share_add, G_Share_add⟩ := h_Share_add
  obtain ⟨fd_Share_radd, F_Share_radd, G_Share_radd⟩ := h_Share_radd
  obtain ⟨fd_Share_sub, F_Share_sub, G_Share_sub⟩ := h_Share_sub
  obtain ⟨fd_Share_rsub, F_Share_rsub, G_Share_rsub⟩ := h_Share_rsub
  obtain ⟨fd_Share_mul, F_Share_mul, G_Share_mul⟩ := h_Share_mul
  obtain ⟨fd_Share_rmul, F_Share_rmul, G_Share_rmul⟩ := h_Share_rmul
  obtain ⟨fd_Share_eq, F_Share_eq, G_Share_eq⟩ := h_Share_eq
  obtain ⟨ds_Share_add_2, v_Share_add_2, b_Share_add_2⟩ := bnd_Share_add_2 F_Share_add
  obtain ⟨ds_Share_eq_2, v_Share_eq_2, b_Share_eq_2⟩ := bnd_Share_eq_2 F_Share_eq
  obtain ⟨ds_Share_mul_2, v_Share_mul_2, b_Share_mul_2⟩ := bnd_Share_mul_2 F_Share_mul
  obtain ⟨ds_Share_radd_2, v_Share_radd_2, b_Share_radd_2⟩ := bnd_Share_radd_2 F_Share_radd
  obtain ⟨ds_Share_rmul_2, v_Share_rmul_2, b_Share_rmul_2⟩ := bnd_Share_rmul_2 F_Share_rmul
  obtain ⟨ds_Share_rsub_2, v_Share_rsub_2, b_Share_rsub_2⟩ := bnd_Share_rsub_2 F_Share_rsub
  obtain ⟨ds_Share_sub_2, v_Share_sub_2, b_Share_sub_2⟩ := bnd_Share_sub_2 F_Share_sub
  obtain ⟨ds_over_1, v_over_1, b_over_1⟩ := bnd_over_1 F_over
  obtain ⟨ds_told_right_3, v_told_right_3, b_told_right_3⟩ := bnd_told_right_3 F_told_right
  cases v_Share_add_2
  have v_Share_add_2 : Vals (([] : List (V × Val)).map (·.1)) [] := .nil
  cases v_Share_eq_2
  have v_Share_eq_2 : Vals (([] : List (V × Val)).map (·.1)) [] := .nil
  cases v_Share_mul_2
  have v_Share_mul_2 : Vals (([] : List (V × Val)).map (·.1)) [] := .nil
  cases v_Share_radd_2
  have v_Share_radd_2 : Vals (([] : List (V × Val)).map (·.1)) [] := .nil
  cases v_Share_rmul_2
  have v_Share_rmul_2 : Vals (([] : List (V × Val)).map (·.1)) [] := .nil
  cases v_Share_rsub_2
  have v_Share_rsub_2 : Vals (([] : List (V × Val)).map (·.1)) [] := .nil
  cases v_Share_sub_2
  have v_Share_sub_2 : Vals (([] : List (V × Val)).map (·.1)) [] := .nil
  cases v_over_1
  have v_over_1 : Vals (([] : List (V × Val)).map (·.1)) [] := .nil
  cases v_told_right_3
  have v_told_right_3 : Vals (([] : List (V × Val)).map (·.1)) [] := .nil
  refine ok_of F sc_reckoned rfl fun cdv A outer s H E hr tk hp σ0 => ?_
  exact (vss_cons (vs_par (i := 2) (j := 3) (by rfl) sc_reckoned.nd (by rfl) (by rfl) (by decide) (by rfl) (by rfl) (ve_fz (ve_call (cal_fn G_over (hr.mono (by decide)) b_over_1 v_over_1 tk) (by rfl) T.g_over F_over.kp (vg_v (ve_stab (ve_var (pv 0))) vg_nil) dfl_over_1)) (ve_fz (ve_call (cal_fn G_over (hr.mono (by decide)) b_over_1 v_over_1 tk) (by rfl) T.g_over F_over.kp (vg_v (ve_stab (ve_var (pv 1))) vg_nil) dfl_over_1)) (by rfl))
      (vss_cons (vs_set (i := 4) sc_reckoned.nd (by rfl) (by first | exact Or.inl rfl | exact Or.inr rfl) (ve_bin (op_mulV (by rfl)) ok_mul (ve_ix (ix_any (by rfl) (by rfl) (hu_of hr)) ok_ix (ve_var (pv 2)) (ve_c pe_int (fun _ _ => .int _)) (fun _ _ => (by rfl))) (ve_ix (ix_any (by rfl) (by rfl) (hu_of hr)) ok_ix (ve_var (pv 3)) (ve_c pe_int (fun _ _ => .int _)) (fun _ _ => (by rfl)))))
      (vss_cons (vs_set (i := 5) sc_reckoned.nd (by rfl) (by first | exact Or.inl rfl | exact Or.inr rfl) (ve_bin (op_addV (by rfl)) ok_add (ve_bin (op_mulV (by rfl)) ok_mul (ve_ix (ix_any (by rfl) (by rfl) (hu_of hr)) ok_ix (ve_var (pv 2)) (ve_c pe_int (fun _ _ => .int _)) (fun _ _ => (by rfl))) (ve_ix (ix_any (by rfl) (by rfl) (hu_of hr)) ok_ix (ve_var (pv 3)) (ve_c pe_int (fun _ _ => .int _)) (fun _ _ => (by rfl)))) (ve_bin (op_mulV (by rfl)) ok_mul (ve_ix (ix_any (by rfl) (by rfl) (hu_of hr)) ok_ix (ve_var (pv 3)) (ve_c pe_int (fun _ _ => .int _)) (fun _ _ => (by rfl))) (ve_ix (ix_any (by rfl) (by rfl) (hu_of hr)) ok_ix (ve_var (pv 2)) (ve_c pe_int (fun _ _ => .int _)) (fun _ _ => (by rfl))))))
      (vss_cons (vs_set (i := 6) sc_reckoned.nd (by rfl) (by first | exact Or.inl rfl | exact Or.inr rfl) (ve_bin op_sub ok_sub (ve_bin (op_mulV (by rfl)) ok_mul (ve_ix (ix_any (by rfl) (by rfl) (hu_of hr)) ok_ix (ve_var (pv 2)) (ve_c pe_int (fun _ _ => .int _)) (fun _ _ => (by rfl))) (ve_ix (ix_any (by rfl) (by rfl) (hu_of hr)) ok_ix (ve_var (pv 3)) (ve_c pe_int (fun _ _ => .int _)) (fun _ _ => (by rfl)))) (ve_bin (op_mulV (by rfl)) ok_mul (ve_ix (ix_any (by rfl) (by rfl) (hu_of hr)) ok_ix (ve_var (pv 3)) (ve_c pe_int (fun _ _ => .int _)) (fun _ _ => (by rfl))) (ve_ix (ix_any (by rfl) (by rfl) (hu_of hr)) ok_ix (ve_var (pv 2)) (ve_c pe_int (fun _ _ => .int _)) (fun _ _ => (by rfl))))))
      (vss_cons (vs_if (vt_of (vw_or (vt_not (vt_val (ve_call (cal_fn G_told_right (hr.mono (by decide)) b_told_right_3 v_told_right_3 tk) (by rfl) T.g_told_right F_told_right.kp (vg_v (ve_fz (ve_ownbin (op := .Add) (c := 0) T.op_Share_add int_add (by rfl) (cal_fn G_Share_add (hr.mono (by decide)) b_Share_add_2 .nil tk) (cal_fn G_Share_radd (hr.mono (by decide)) b_Share_radd_2 .nil tk) (ve_stab (ve_var (pv 0))) (ve_stab (ve_var (pv 1))))) (vg_v (ve_stab (ve_var (pv 5))) (vg_v (ve_stab (ve_var (pv 4))) vg_nil))) dfl_told_right_3))) (vw_or1 (vt_not (vt_val (ve_call (cal_fn G_told_right (hr.mono (by decide)) b_told_right_3 v_told_right_3 tk) (by rfl) T.g_told_right F_told_right.kp (vg_v (ve_fz (ve_ownbin (op := .Sub) (c := 0) T.op_Share_sub int_sub (by rfl) (cal_fn G_Share_sub (hr.mono (by decide)) b_Share_sub_2 .nil tk) (cal_fn G_Share_rsub (hr.mono (by decide)) b_Share_rsub_2 .nil tk) (ve_stab (ve_var (pv 0))) (ve_stab (ve_var (pv 1))))) (vg_v (ve_stab (ve_var (pv 6))) (vg_v (ve_stab (ve_var (pv 4))) vg_nil))) dfl_told_right_3)))))) (vss_one (vs_ret (ve_c pe_bl (fun _ _ => .bl _)))) vss_nil)
      (vss_cons (vs_if (vt_not (vt_val (ve_call (cal_fn G_told_right (hr.mono (by decide)) b_told_right_3 v_told_right_3 tk) (by rfl) T.g_told_right F_told_right.kp (vg_v (ve_fz (ve_ownbin (op := .Mult) (c := 0) T.op_Share_mul int_mul (by rfl) (cal_fn G_Share_mul (hr.mono (by decide)) b_Share_mul_2 .nil tk) (cal_fn G_Share_rmul (hr.mono (by decide)) b_Share_rmul_2 .nil tk) (ve_stab (ve_var (pv 0))) (ve_stab (ve_var (pv 1))))) (vg_v (ve_bin (op_mulV (by rfl)) ok_mul (ve_ix (ix_any (by rfl) (by rfl) (hu_of hr)) ok_ix (ve_var (pv 2)) (ve_c pe_int (fun _ _ => .int _)) (fun _ _ => (by rfl))) (ve_ix (ix_any (by rfl) (by rfl) (hu_of hr)) ok_ix (ve_var (pv 3)) (ve_c pe_int (fun _ _ => .int _)) (fun _ _ => (by rfl)))) (vg_v (ve_stab (ve_var (pv 4))) vg_nil))) dfl_told_right_3))) (vss_one (vs_ret (ve_c pe_bl (fun _ _ => .bl _)))) vss_nil)
      (vss_one (vs_ret (ve_and (ve_cmp (op_eqD hr.units) ok_eq (ve_cmpo (pc_eqo (c := 0) T.eq_Share (by rfl) (Nat.lt_of_succ_lt (hu_of hr)) (by rfl) (cal_fn G_Share_eq (hr.mono (by decide)) b_Share_eq_2 .nil tk) (ve_stab (ve_var (pv 0))) (ve_stab (ve_var (pv 1)))) (nomark _)) (ve_cmp (op_eqD hr.units) ok_eq (ve_var (pv 6)) (ve_c pe_int (fun _ _ => .int _)) (nomark _)) (nomark _)) (ve_one (ve_cmp (op_eqD hr.units) ok_eq (ve_cmpo (pc_neo (c := 0) T.eq_Share (by rfl) (hu_of hr) (by rfl) G_Share_eq (hr.mono (by decide)) b_Share_eq_2 tk (ve_stab (ve_var (pv 0))) (ve_stab (ve_var (pv 1)))) (nomark _)) (ve_cmp (op_neD hr.units) ok_ne (ve_var (pv 6)) (ve_c pe_int (fun _ _ => .int _)) (nomark _)) (nomark _))))))))))))
def m_Share_is_more : MS :=
    (mSeq (mIfS (mNot (mCall f_is_number [.v ⟨true, true, (mStab (mVar 1))⟩])) mNever mNext)
    (mRet (mFun (semCmp fun i j => decide (j < i)) [(mFun semMul [(mFun (semFld [0] "over") [(mVar 0)]), (mCall f_under_of [.v ⟨true, true, (mStab (mVar 1))⟩])]), (mFun semMul [(mCall f_over_of [.v ⟨true, true, (mStab (mVar 1))⟩]), (mFun (semFld [0] "under") [(mVar 0)])])])))
def f_Share_is_more : MF := mBody [true, false] 2 m_Share_is_more
theorem ok_Share_is_more {P : Program} {w : World} {K : PySem.W.Frag} {mg : Str → Option Value} {base : Heap} (T : Txt K mg) (F : ∃ fd, FunV K d_Share_is_more fd) (h_is_number : Ok P w K mg base (gam K w) d_is_number 2 ["value"] f_is_number) (h_over_of : Ok P w K mg base (gam K w) d_over_of 1 ["value"] f_over_of) (h_under_of : Ok P w K mg base (gam K w) d_under_of 1 ["value"] f_under_of) : Ok P w K mg base (gam K w) d_Share_is_more 3 ["self", "other"] f_Share_is_more := by
  obtain ⟨fd_is_number, F_is_number, G_is_number⟩ := h_is_number
  obtain ⟨fd_over_of, F_over_of, G_over_of⟩ := h_over_of
  obtain ⟨fd_under_of, F_under_of, G_under_of⟩ := h_under_of
  obtain ⟨ds_is_number_1, v_is_number_1, b_is_number_1⟩ := bnd_is_number_1 F_is_number
  obtain ⟨ds_over_of_1, v_over_of_1, b_over_of_1⟩ := bnd_over_of_1 F_over_of
  obtain ⟨ds_under_of_1, v_under_of_1, b_under_of_1⟩ := bnd_under_of_1 F_under_of
  cases v_is_number_1
  have v_is_number_1 : Vals (([] : List (V × Val)).map (·.1)) [] := .nil
  cases v_over_of_1
  have v_over_of_1 : Vals (([] : List (V × Val)).map (·.1)) [] := .nil
  cases v_under_of_1
  have v_under_of_1 : Vals (([] : List (V × Val)).map (·.1)) [] := .nil
  refine ok_of F sc_Share_is_more rfl fun cdv A outer s H E hr tk hp σ0 => ?_
  exact (vss_cons (vs_if (vt_not (vt_val (ve_call (cal_fn G_is_number (hr.mono (by decide)) b_is_number_1 v_is_number_1 tk) (by rfl) T.g_is_number F_is_number.kp (vg_v (ve_stab (ve_var (pv 1))) vg_nil) dfl_is_number_1))) vss_never vss_nil)
      (vss_one (vs_ret (ve_cmp op_gt ok_cmp (ve_bin (op_mulV (by rfl)) ok_mul (ve_fld (cs := [0]) (fld_over T) (ve_var (pv 0))) (ve_call (cal_fn G_under_of (hr.mono (by decide)) b_under_of_1 v_under_of_1 tk) (by rfl) T.g_under_of F_under_of.kp (vg_v (ve_stab (ve_var (pv 1))) vg_nil) dfl_under_of_1)) (ve_bin (op_mulV (by rfl)) ok_mul (ve_call (cal_fn G_over_of (hr.mono (by decide)) b_over_of_1 v_over_of_1 tk) (by rfl) T.g_over_of F_over_of.kp (vg_v (ve_stab (ve_var (pv 1))) vg_nil) dfl_over_of_1) (ve_fld (cs := [0]) (fld_under T) (ve_var (pv 0)))) (nomark _)))))
def m_law : MS :=
    (mSeq (mFor (mRng1 (mFun semMax2 [(mC (.int 1)), (mFun semMin2 [(mC (.int 12)), (mFun semLen [(mVar 0)])])])) (gV 1) (mSeq (mSet 2 (mCall f_stream [.v ⟨true, true, (mStab (mVar 0))⟩, .v ⟨true, true, (mStab (mVar 1))⟩]))
    (mSeq (mSet 3 (mFz (mLc (mRng1 (mC (.int 3))) (gV 4) mYes (mFz (mCall f_pair [.r 2])) [4])))
    (mSeq (mSet 5 (mFz (mLc (mItemsL (mVar 3)) (gV 6) mYes (mFz (mCall (mMake 0 f_Share_init) [.v ⟨true, true, (mFun semIx [(mVar 6), (mC (.int 0))])⟩, .v ⟨true, true, (mFun semIx [(mVar 6), (mC (.int 1))])⟩])) [6])))
    (mSeq (mSet 5 (mFz (mFun semAdd [(mVar 5), (mLst [(mFz (mCall (mMake 0 f_Share_init) [.v ⟨true, true, (mFun semMul [(mFun semIx [(mFun semIx [(mVar 3), (mC (.int 0))]), (mC (.int 0))]), (mC (.int 6))])⟩, .v ⟨true, true, (mFun semMul [(mFun semIx [(mFun semIx [(mVar 3), (mC (.int 0))]), (mC (.int 1))]), (mC (.int 6))])⟩])), (mFz (mCall (mMake 0 f_Share_init) [.v ⟨true, true, (mFun semIx [(mFun semIx [(mVar 3), (mC (.int 1))]), (mC (.int 0))])⟩, .k (.int 1) (.int 1)]))])])))
    (mSeq (mSet 7 (mFz (mLst [(mFun semSub [(mCall f_draw [.r 2, .v ⟨true, true, (mC (.int 9))⟩]), (mC (.int 4))]), (mFun semDiv [(mFun semIx [(mFun semIx [(mVar 3), (mC (.int 0))]), (mC (.int 0))]), (mFun semIx [(mFun semIx [(mVar 3), (mC (.int 0))]), (mC (.int 1))])]), (mFun semPow [(mC (.int 10)), (mC (.int 12))])])))
    (mSeq (mFor (mRng1 (mC (.int 3))) (gV 8) (mIfS (mNot (mCall f_told_right [.v ⟨true, true, (mFun semIx [(mVar 5), (mVar 8)])⟩, .v ⟨true, true, (mFun semIx [(mFun semIx [(mVar 3), (mVar 8)]), (mC (.int 0))])⟩, .v ⟨true, true, (mFun semIx [(mFun semIx [(mVar 3), (mVar 8)]), (mC (.int 1))])⟩])) (mRet (mC (.bl false))) mNext))
    (mSeq (mFor (mItemsL (mVar 5)) (gV 9) (mSeq (mFor (mItemsL (mFz (mFun semAdd [(mVar 5), (mVar 7)]))) (gV 10) (mSeq (mIfS (mOr (mNot (mCall f_reckoned [.v ⟨true, true, (mStab (mVar 9))⟩, .v ⟨true, true, (mStab (mVar 10))⟩])) (mNot (mCall f_reckoned [.v ⟨true, true, (mStab (mVar 10))⟩, .v ⟨true, true, (mStab (mVar 9))⟩]))) (mRet (mC (.bl false))) mNext)
    (mSeq (mPar 11 12 (mFz (mCall f_over [.v ⟨true, true, (mStab (mVar 9))⟩])) (mFz (mCall f_over [.v ⟨true, true, (mStab (mVar 10))⟩])))
    (mIfS (mFun semNe [(mMethR 0 "is_more" f_Share_is_more 9 [.v ⟨true, true, (mStab (mVar 10))⟩]), (mFun (semCmp fun i j => decide (j < i)) [(mFun semMul [(mFun semIx [(mVar 11), (mC (.int 0))]), (mFun semIx [(mVar 12), (mC (.int 1))])]), (mFun semMul [(mFun semIx [(mVar 12), (mC (.int 0))]), (mFun semIx [(mVar 11), (mC (.int 1))])])])]) (mRet (mC (.bl false))) mNext))))
    (mIfS (mOr (mCall (mfCmp id 0 f_Share_eq) [.v ⟨true, true, (mStab (mVar 9))⟩, .v ⟨true, true, (mC (.str "1/1"))⟩]) (mOr (mCall (mfCmp id 0 f_Share_eq) [.v ⟨true, true, (mStab (mVar 9))⟩, .v ⟨false, true, (mTup [(mPropR 0 f_Share_top 9), (mPropR 0 f_Share_bottom 9)])⟩]) (mCall (mfCmp id 0 f_Share_eq) [.v ⟨true, true, (mStab (mVar 9))⟩, .v ⟨true, true, (mFz (mLst []))⟩]))) (mRet (mC (.bl false))) mNext)))
    (mIfS (mOr (mNot (mCall f_told_right [.v ⟨true, true, (mFun semIx [(mVar 5), (mC (.int 0))])⟩, .v ⟨true, true, (mFun semIx [(mFun semIx [(mVar 3), (mC (.int 0))]), (mC (.int 0))])⟩, .v ⟨true, true, (mFun semIx [(mFun semIx [(mVar 3), (mC (.int 0))]), (mC (.int 1))])⟩])) (mCall (mfCmp not 0 f_Share_eq) [.v ⟨true, true, (mFun semIx [(mVar 5), (mC (.int 0))])⟩, .v ⟨true, true, (mFun semIx [(mVar 5), (mC (.int 3))])⟩])) (mRet (mC (.bl false))) mNext)))))))))
    (mRet (mC (.bl true))))
def f_law : MF := mBody [false] 13 m_law
theorem ok_law {P : Program} {w : World} {K : PySem.W.Frag} {mg : Str → Option Value} {base : Heap} (T : Txt K mg) (F : ∃ fd, FunV K d_law fd) (h_stream : Ok P w K mg base (gam K w) d_stream 1 ["_law_script", "_law_k"] f_stream) (h_draw : Ok P w K mg base (gam K w) d_draw 1 ["_law_stream_here", "_law_count"] f_draw) (h_pair : Ok P w K mg base (gam K w) d_pair 3 ["_law_stream_here"] f_pair) (h_Share_init : Ok P w K mg base (gam K w) d_Share_init 2 ["self", "top", "bottom"] f_Share_init) (h_Share_bottom : Ok P w K mg base (gam K w) d_Share_bottom 1 ["self"] f_Share_bottom) (h_Share_top : Ok P w K mg base (gam K w) d_Share_top 1 ["self"] f_Share_top) (h_told_right : Ok P w K mg base (gam K w) d_told_right 4 ["_law_share", "_law_top", "_law_bottom"] f_told_right) (h_over : Ok P w K mg base (gam K w) d_over 3 ["_law_thing"] f_over) (h_Share_eq : Ok P w K mg base (gam K w) d_Share_eq 3 ["self", "other"] f_Share_eq) (h_reckoned : Ok P w K mg base (gam K w) d_reckoned 6 ["_law_one", "_law_two"] f_reckoned) (h_Share_is_more : Ok P w K mg base (gam K w) d_Share_is_more 3 ["self", "other"] f_Share_is_more) : Ok P w K mg base (gam K w) d_law 7 ["_law_script"] f_law := by
  obtain ⟨fd_stream, F_stream, G_stream⟩ := h_stream
  obtain ⟨fd_draw, F_draw, G_draw⟩ := h_draw
  obtain ⟨fd_pair, F_pair, G_pair⟩ := h_pair
  obtain ⟨fd_Share_init, F_Share_init, G_Share_init⟩ := h_Share_init
  obtain ⟨fd_Share_bottom, F_Share_bottom, G_Share_bottom⟩ := h_Share_bottom
  obtain ⟨fd_Share_top, F_Share_top, G_Share_top⟩ := h_Share_top
  obtain ⟨fd_told_right, F_told_right, G_told_right⟩ := h_told_right
  obtain ⟨fd_over, F_over, G_over⟩ := h_over
  obtain ⟨fd_Share_eq, F_Share_eq, G_Share_eq⟩ := h_Share_eq
  obtain ⟨fd_reckoned, F_reckoned, G_reckoned⟩ := h_reckoned
  obtain ⟨fd_Share_is_more, F_Share_is_more, G_Share_is_more⟩ := h_Share_is_more
  obtain ⟨ds_Share_bottom_1, v_Share_bottom_1, b_Share_bottom_1⟩ := bnd_Share_bottom_1 F_Share_bottom
  obtain ⟨ds_Share_eq_2, v_Share_eq_2, b_Share_eq_2⟩ := bnd_Share_eq_2 F_Share_eq
  obtain ⟨ds_Share_init_2, v_Share_init_2, b_Share_init_2⟩ := bnd_Share_init_2 F_Share_init
  obtain ⟨ds_Share_init_3, v_Share_init_3, b_Share_init_3⟩ := bnd_Share_init_3 F_Share_init
  obtain ⟨ds_Share_is_more_2, v_Share_is_more_2, b_Share_is_more_2⟩ := bnd_Share_is_more_2 F_Share_is_more
  obtain ⟨ds_Share_top_1, v_Share_top_1, b_Share_top_1⟩ := bnd_Share_top_1 F_Share_top
  obtain ⟨ds_draw_2, v_draw_2, b_draw_2⟩ := bnd_draw_2 F_draw
  obtain ⟨ds_over_1, v_over_1, b_over_1⟩ := bnd_over_1 F_over
  obtain ⟨ds_pair_1, v_pair_1, b_pair_1⟩ := bnd_pair_1 F_pair
  obtain ⟨ds_reckoned_2, v_reckoned_2, b_reckoned_2⟩ := bnd_reckoned_2 F_reckoned
  obtain ⟨ds_stream_2, v_stream_2, b_stream_2⟩ := bnd_stream_2 F_stream
  obtain ⟨ds_told_right_3, v_told_right_3, b_told_right_3⟩ := bnd_told_right_3 F_told_right
  cases v_Share_bottom_1
  have v_Share_bottom_1 : Vals (([] : List (V × Val)).map (·.1)) [] := .nil
  cases v_Share_eq_2
  have v_Share_eq_2 : Vals (([] : List (V × Val)).map (·.1)) [] := .nil
  cases v_Share_init_3
  have v_Share_init_3 : Vals (([] : List (V × Val)).map (·.1)) [] := .nil
  cases v_Share_is_more_2
  have v_Share_is_more_2 : Vals (([] : List (V × Val)).map (·.1)) [] := .nil
  cases v_Share_top_1
  have v_Share_top_1 : Vals (([] : List (V × Val)).map (·.1)) [] := .nil
  cases v_draw_2
  have v_draw_2 : Vals (([] : List (V × Val)).map (·.1)) [] := .nil
  cases v_over_1
  have v_over_1 : Vals (([] : List (V × Val)).map (·.1)) [] := .nil
  cases v_pair_1
  have v_pair_1 : Vals (([] : List (V × Val)).map (·.1)) [] := .nil
  cases v_reckoned_2
  have v_reckoned_2 : Vals (([] : List (V × Val)).map (·.1)) [] := .nil
  cases v_stream_2
  have v_stream_2 : Vals (([] : List (V × Val)).map (·.1)) [] := .nil
  cases v_told_right_3
  have v_told_right_3 : Vals (([] : List (V × Val)).map (·.1)) [] := .nil
  refine ok_of F sc_law rfl fun cdv A outer s H E hr tk hp σ0 => ?_
  exact (vss_cons (vs_for hp (by rfl) (vi_rng1 (by rfl) T.n_range (ve_callB (call_max2 (by rfl)) ok_max2 (by rfl) T.n_max boot_max (va_cons (ve_c pe_int (fun _ _ => .int _)) (va_cons (ve_callB (call_min2 (by rfl)) ok_min2 (by rfl) T.n_min boot_min (va_cons (ve_c pe_int (fun _ _ => .int _)) (va_cons (ve_callB (call_lenV (by rfl)) ok_len (by rfl) T.n_len boot_len (va_cons (ve_var (pv 0)) va_nil)) va_nil))) va_nil)))) (vg_name (i := 1) sc_law.nd (by rfl) (by first | exact Or.inl rfl | exact Or.inr rfl)) (vss_cons (vs_set (i := 2) sc_law.nd (by rfl) (by first | exact Or.inl rfl | exact Or.inr rfl) (ve_call (cal_fn G_stream (hr.mono (by decide)) b_stream_2 v_stream_2 tk) (by rfl) T.g_stream F_stream.kp (vg_v (ve_stab (ve_var (pv 0))) (vg_v (ve_stab (ve_var (pv 1))) vg_nil)) dfl_stream_2))
      (vss_cons (vs_setLc (i := 3) (p := true) (sb := false) (own := [("_law_turn", 4)]) rd_fz (by rfl) sc_law.nd (by rfl) (by rfl) (sw_true (by rfl) (by rfl) (by rfl) (by decide +kernel)) (vi_rng1 (by rfl) T.n_range (ve_c pe_int (fun _ _ => .int _))) (blkOk_by (own := [("_law_turn", 4)]) (N := ["_law_script", "_law_k", "_law_stream_here", "_law_pairs", "_law_turn", "_law_shares", "_law_pair_here", "_law_numbers", "_law_at", "_law_one", "_law_two", "_law_near", "_law_far"]) (sc := d_law.scope) (by decide +kernel)) (fun _ _ _ _ _ _ => (vg_name (i := 4) sc_law.nd (by rfl) (by first | exact Or.inl rfl | exact Or.inr rfl) (fun z => absurd (show some false = some true from z) (by decide)))) (fun _ _ _ _ _ => vts0) (fun _ _ _ _ _ => (ve_fz (ve_call (cal_fn G_pair (hr.mono (by decide)) b_pair_1 v_pair_1 takesF) (by rfl) T.g_pair F_pair.kp (vg_r (pv 2) vg_nil) dfl_pair_1))))
      (vss_cons (vs_setLc (i := 5) (p := true) (sb := true) (own := [("_law_pair_here", 6)]) rd_fz (by rfl) sc_law.nd (by rfl) (by rfl) (sw_true (by rfl) (by rfl) (by rfl) (by decide +kernel)) (vi_list (by rfl) (ve_var (pv 3))) (blkOk_by (own := [("_law_pair_here", 6)]) (N := ["_law_script", "_law_k", "_law_stream_here", "_law_pairs", "_law_turn", "_law_shares", "_law_pair_here", "_law_numbers", "_law_at", "_law_one", "_law_two", "_law_near", "_law_far"]) (sc := d_law.scope) (by decide +kernel)) (fun _ _ _ _ _ _ => (vg_name (i := 6) sc_law.nd (by rfl) (by first | exact Or.inl rfl | exact Or.inr rfl) (fun z => absurd (show some false = some true from z) (by decide)))) (fun _ _ _ _ _ => vts0) (fun _ _ _ _ _ => (ve_fz (ve_call (cal_make (c := 0) (by rfl) T.mk_Share G_Share_init (hr.mono (by decide)) b_Share_init_3 v_Share_init_3 takesF) (by rfl) T.g_Share T.mk_Share.kp (vg_v (ve_ix (ix_any (by rfl) (by rfl) (hu_of hr)) ok_ix (ve_var (pv 6)) (ve_c pe_int (fun _ _ => .int _)) (fun _ _ => (by rfl))) (vg_v (ve_ix (ix_any (by rfl) (by rfl) (hu_of hr)) ok_ix (ve_var (pv 6)) (ve_c pe_int (fun _ _ => .int _)) (fun _ _ => (by rfl))) vg_nil)) dfl_Share_init_3))))
      (vss_cons (vs_set (i := 5) sc_law.nd (by rfl) (by first | exact Or.inl rfl | exact Or.inr rfl) (ve_fz (ve_bin (op_addV (by rfl)) ok_add (ve_var (pv 5)) (ve_lst (va_cons (ve_fz (ve_call (cal_make (c := 0) (by rfl) T.mk_Share G_Share_init (hr.mono (by decide)) b_Share_init_3 v_Share_init_3 tk) (by rfl) T.g_Share T.mk_Share.kp (vg_v (ve_bin (op_mulV (by rfl)) ok_mul (ve_ix (ix_any (by rfl) (by rfl) (hu_of hr)) ok_ix (ve_ix (ix_any (by rfl) (by rfl) (hu_of hr)) ok_ix (ve_var (pv 3)) (ve_c pe_int (fun _ _ => .int _)) (fun _ _ => (by rfl))) (ve_c pe_int (fun _ _ => .int _)) (fun _ _ => (by rfl))) (ve_c pe_int (fun _ _ => .int _))) (vg_v (ve_bin (op_mulV (by rfl)) ok_mul (ve_ix (ix_any (by rfl) (by rfl) (hu_of hr)) ok_ix (ve_ix (ix_any (by rfl) (by rfl) (hu_of hr)) ok_ix (ve_var (pv 3)) (ve_c pe_int (fun _ _ => .int _)) (fun _ _ => (by rfl))) (ve_c pe_int (fun _ _ => .int _)) (fun _ _ => (by rfl))) (ve_c pe_int (fun _ _ => .int _))) vg_nil)) dfl_Share_init_3)) (va_cons (ve_fz (ve_call (cal_make (c := 0) (by rfl) T.mk_Share G_Share_init (hr.mono (by decide)) b_Share_init_2 v_Share_init_2 tk) (by rfl) T.g_Share T.mk_Share.kp (vg_v (ve_ix (ix_any (by rfl) (by rfl) (hu_of hr)) ok_ix (ve_ix (ix_any (by rfl) (by rfl) (hu_of hr)) ok_ix (ve_var (pv 3)) (ve_c pe_int (fun _ _ => .int _)) (fun _ _ => (by rfl))) (ve_c pe_int (fun _ _ => .int _)) (fun _ _ => (by rfl))) vg_nil) dfl_Share_init_2)) va_nil))))))
      (vss_cons (vs_set (i := 7) sc_law.nd (by rfl) (by first | exact Or.inl rfl | exact Or.inr rfl) (ve_fz (ve_lst (va_cons (ve_bin op_sub ok_sub (ve_call (cal_fn G_draw (hr.mono (by decide)) b_draw_2 v_draw_2 tk) (by rfl) T.g_draw F_draw.kp (vg_r (pv 2) (vg_v (ve_c pe_int (fun _ _ => .int _)) vg_nil)) dfl_draw_2) (ve_c pe_int (fun _ _ => .int _))) (va_cons (ve_bin op_fdivW ok_div (ve_ix (ix_any (by rfl) (by rfl) (hu_of hr)) ok_ix (ve_ix (ix_any (by rfl) (by rfl) (hu_of hr)) ok_ix (ve_var (pv 3)) (ve_c pe_int (fun _ _ => .int _)) (fun _ _ => (by rfl))) (ve_c pe_int (fun _ _ => .int _)) (fun _ _ => (by rfl))) (ve_ix (ix_any (by rfl) (by rfl) (hu_of hr)) ok_ix (ve_ix (ix_any (by rfl) (by rfl) (hu_of hr)) ok_ix (ve_var (pv 3)) (ve_c pe_int (fun _ _ => .int _)) (fun _ _ => (by rfl))) (ve_c pe_int (fun _ _ => .int _)) (fun _ _ => (by rfl)))) (va_cons (ve_bin op_pow ok_pow (ve_c pe_int (fun _ _ => .int _)) (ve_c pe_int (fun _ _ => .int _))) va_nil))))))
      (vss_cons (vs_for hp (by rfl) (vi_rng1 (by rfl) T.n_range (ve_c pe_int (fun _ _ => .int _))) (vg_name (i := 8) sc_law.nd (by rfl) (by first | exact Or.inl rfl | exact Or.inr rfl)) (vss_one (vs_if (vt_not (vt_val (ve_call (cal_fn G_told_right (hr.mono (by decide)) b_told_right_3 v_told_right_3 tk) (by rfl) T.g_told_right F_told_right.kp (vg_v (ve_ix (ix_any (by rfl) (by rfl) (hu_of hr)) ok_ix (ve_var (pv 5)) (ve_var (pv 8)) (fun _ _ => (by rfl))) (vg_v (ve_ix (ix_any (by rfl) (by rfl) (hu_of hr)) ok_ix (ve_ix (ix_any (by rfl) (by rfl) (hu_of hr)) ok_ix (ve_var (pv 3)) (ve_var (pv 8)) (fun _ _ => (by rfl))) (ve_c pe_int (fun _ _ => .int _)) (fun _ _ => (by rfl))) (vg_v (ve_ix (ix_any (by rfl) (by rfl) (hu_of hr)) ok_ix (ve_ix (ix_any (by rfl) (by rfl) (hu_of hr)) ok_ix (ve_var (pv 3)) (ve_var (pv 8)) (fun _ _ => (by rfl))) (ve_c pe_int (fun _ _ => .int _)) (fun _ _ => (by rfl))) vg_nil))) dfl_told_right_3))) (vss_one (vs_ret (ve_c pe_bl (fun _ _ => .bl _)))) vss_nil)))
      (vss_cons (vs_for hp (by rfl) (vi_list (by rfl) (ve_var (pv 5))) (vg_name (i := 9) sc_law.nd (by rfl) (by first | exact Or.inl rfl | exact Or.inr rfl)) (vss_cons (vs_for hp (by rfl) (vi_list (by rfl) (ve_fz (ve_bin (op_addV (by rfl)) ok_add (ve_var (pv 5)) (ve_var (pv 7))))) (vg_name (i := 10) sc_law.nd (by rfl) (by first | exact Or.inl rfl | exact Or.inr rfl)) (vss_cons (vs_if (vt_of (vw_or (vt_not (vt_val (ve_call (cal_fn G_reckoned (hr.mono (by decide)) b_reckoned_2 v_reckoned_2 tk) (by rfl) T.g_reckoned F_reckoned.kp (vg_v (ve_stab (ve_var (pv 9))) (vg_v (ve_stab (ve_var (pv 10))) vg_nil)) dfl_reckoned_2))) (vw_or1 (vt_not (vt_val (ve_call (cal_fn G_reckoned (hr.mono (by decide)) b_reckoned_2 v_reckoned_2 tk) (by rfl) T.g_reckoned F_reckoned.kp (vg_v (ve_stab (ve_var (pv 10))) (vg_v (ve_stab (ve_var (pv 9))) vg_nil)) dfl_reckoned_2)))))) (vss_one (vs_ret (ve_c pe_bl (fun _ _ => .bl _)))) vss_nil)
      (vss_cons (vs_par (i := 11) (j := 12) (by rfl) sc_law.nd (by rfl) (by rfl) (by decide) (by rfl) (by rfl) (ve_fz (ve_call (cal_fn G_over (hr.mono (by decide)) b_over_1 v_over_1 tk) (by rfl) T.g_over F_over.kp (vg_v (ve_stab (ve_var (pv 9))) vg_nil) dfl_over_1)) (ve_fz (ve_call (cal_fn G_over (hr.mono (by decide)) b_over_1 v_over_1 tk) (by rfl) T.g_over F_over.kp (vg_v (ve_stab (ve_var (pv 10))) vg_nil) dfl_over_1)) (by rfl))
      (vss_one (vs_if (vt_cmp (op_neD hr.units) ok_ne (ve_methR (c := 0) (pv 9) (by rfl) T.cl_Share T.mt_Share_is_more (cal_fn G_Share_is_more (hr.mono (by decide)) b_Share_is_more_2 v_Share_is_more_2 tk) (vg_v (ve_stab (ve_var (pv 10))) vg_nil) dfl_Share_is_more_2) (ve_cmp op_gt ok_cmp (ve_bin (op_mulV (by rfl)) ok_mul (ve_ix (ix_any (by rfl) (by rfl) (hu_of hr)) ok_ix (ve_var (pv 11)) (ve_c pe_int (fun _ _ => .int _)) (fun _ _ => (by rfl))) (ve_ix (ix_any (by rfl) (by rfl) (hu_of hr)) ok_ix (ve_var (pv 12)) (ve_c pe_int (fun _ _ => .int _)) (fun _ _ => (by rfl)))) (ve_bin (op_mulV (by rfl)) ok_mul (ve_ix (ix_any (by rfl) (by rfl) (hu_of hr)) ok_ix (ve_var (pv 12)) (ve_c pe_int (fun _ _ => .int _)) (fun _ _ => (by rfl))) (ve_ix (ix_any (by rfl) (by rfl) (hu_of hr)) ok_ix (ve_var (pv 11)) (ve_c pe_int (fun _ _ => .int _)) (fun _ _ => (by rfl)))) (nomark _)) (nomark _)) (vss_one (vs_ret (ve_c pe_bl (fun _ _ => .bl _)))) vss_nil)))))
      (vss_one (vs_if (vt_of (vw_or (vt_cmpo (pc_eqo (c := 0) T.eq_Share (by rfl) (Nat.lt_of_succ_lt (hu_of hr)) (by rfl) (cal_fn G_Share_eq (hr.mono (by decide)) b_Share_eq_2 .nil tk) (ve_stab (ve_var (pv 9))) (ve_c pe_str (fun _ _ => .str _))) (nomark _)) (vw_or (vt_cmpo (pc_eqo (c := 0) T.eq_Share (by rfl) (Nat.lt_of_succ_lt (hu_of hr)) (by rfl) (cal_fn G_Share_eq (hr.mono (by decide)) b_Share_eq_2 .nil tk) (ve_stab (ve_var (pv 9))) (ve_tup (va_cons (ve_propR (c := 0) (pv 9) (by rfl) T.cl_Share T.pr_Share_top G_Share_top (hr.mono (by decide)) b_Share_top_1) (va_cons (ve_propR (c := 0) (pv 9) (by rfl) T.cl_Share T.pr_Share_bottom G_Share_bottom (hr.mono (by decide)) b_Share_bottom_1) va_nil)))) (nomark _)) (vw_or1 (vt_cmpo (pc_eqo (c := 0) T.eq_Share (by rfl) (Nat.lt_of_succ_lt (hu_of hr)) (by rfl) (cal_fn G_Share_eq (hr.mono (by decide)) b_Share_eq_2 .nil tk) (ve_stab (ve_var (pv 9))) (ve_fz (ve_lst va_nil))) (nomark _)))))) (vss_one (vs_ret (ve_c pe_bl (fun _ _ => .bl _)))) vss_nil))))
      (vss_one (vs_if (vt_of (vw_or (vt_not (vt_val (ve_call (cal_fn G_told_right (hr.mono (by decide)) b_told_right_3 v_told_right_3 tk) (by rfl) T.g_told_right F_told_right.kp (vg_v (ve_ix (ix_any (by rfl) (by rfl) (hu_of hr)) ok_ix (ve_var (pv 5)) (ve_c pe_int (fun _ _ => .int _)) (fun _ _ => (by rfl))) (vg_v (ve_ix (ix_any (by rfl) (by rfl) (hu_of hr)) ok_ix (ve_ix (ix_any (by rfl) (by rfl) (hu_of hr)) ok_ix (ve_var (pv 3)) (ve_c pe_int (fun _ _ => .int _)) (fun _ _ => (by rfl))) (ve_c pe_int (fun _ _ => .int _)) (fun _ _ => (by rfl))) (vg_v (ve_ix (ix_any (by rfl) (by rfl) (hu_of hr)) ok_ix (ve_ix (ix_any (by rfl) (by rfl) (hu_of hr)) ok_ix (ve_var (pv 3)) (ve_c pe_int (fun _ _ => .int _)) (fun _ _ => (by rfl))) (ve_c pe_int (fun _ _ => .int _)) (fun _ _ => (by rfl))) vg_nil))) dfl_told_right_3))) (vw_or1 (vt_cmpo (pc_neo (c := 0) T.eq_Share (by rfl) (hu_of hr) (by rfl) G_Share_eq (hr.mono (by decide)) b_Share_eq_2 tk (ve_ix (ix_any (by rfl) (by rfl) (hu_of hr)) ok_ix (ve_var (pv 5)) (ve_c pe_int (fun _ _ => .int _)) (fun _ _ => (by rfl))) (ve_ix (ix_any (by rfl) (by rfl) (hu_of hr)) ok_ix (ve_var (pv 5)) (ve_c pe_int (fun _ _ => .int _)) (fun _ _ => (by rfl)))) (nomark _))))) (vss_one (vs_ret (ve_c pe_bl (fun _ _ => .bl _)))) vss_nil))))))))))
      (vss_one (vs_ret (ve_c pe_bl (fun _ _ => .bl _)))))
def fa : List Ftest := [
  (fun K => (He.Fa.free "len").ok K),
  (fun K => (He.Fa.free "min").ok K),
  (fun K => (He.Fa.free "max").ok K),
  (fun K => (He.Fa.free "range").ok K),
  (fun K => (He.Fa.glo "_law_stream").ok K),
  (fun K => (He.Fa.glo "_law_pair").ok K),
  (fun K => (He.Fa.mkr "Share").ok K),
  (fun K => (He.Fa.glo "Share").ok K),
  (fun K => (He.Fa.glo "_law_draw").ok K),
  (fun K => (He.Fa.glo "_law_told_right").ok K),
  (fun K => (He.Fa.glo "_law_reckoned").ok K),
  (fun K => (He.Fa.glo "_law_over").ok K),
  (fun K => (He.Fa.meth "Share" "is_more").ok K),
  (fun K => (He.Fa.cls "Share").ok K),
  (tOwnEq "Share"),
  (tProp "Share" "top"),
  (tProp "Share" "bottom"),
  (fun K => (He.Fa.glo "is_integer").ok K),
  (fun K => (He.Fa.glo "common").ok K),
  (fun K => (He.Fa.noat "Share" "over").ok K),
  (fun K => (He.Fa.noat "Share" "under").ok K),
  (fun K => (He.Fa.free "int").ok K),
  (fun K => (He.Fa.free "isinstance").ok K),
  (fun K => (He.Fa.free "bool").ok K),
  (fun K => (He.Fa.glo "is_number").ok K),
  (fun K => (He.Fa.glo "over_of").ok K),
  (fun K => (He.Fa.glo "under_of").ok K),
  (fun K => (He.Fa.free "str").ok K),
  (fun K => tFind (He.ga K "Share") "__str__" (.ref (He.ma K (He.ga K "Share") "__str__")) K),
  (fun K => PySem.W.isFn K (.ref (He.ma K (He.ga K "Share") "__str__"))),
  (fun K => (He.Fa.glo "_law_choose").ok K),
  (tOwn "Share" "add"),
  (tOwn "Share" "sub"),
  (tOwn "Share" "mul"),
  (tIsi clsNames sub),
  (fun K => (He.Fa.glo "law").ok K)]
def fn : List VDef := [d_stream, d_draw, d_choose, d_pair, d_is_integer, d_common, d_Share_init, d_Share_bottom, d_Share_top, d_Share_str, d_told_right, d_over, d_is_number, d_over_of, d_under_of, d_Share_add, d_Share_radd, d_Share_sub, d_Share_rsub, d_Share_mul, d_Share_rmul, d_Share_eq, d_reckoned, d_Share_is_more, d_law]
theorem txt_of {K : PySem.W.Frag} {h : Heap} {mg : Str → Option Value} (X : K.In h) (G : h.Ns mainGlobals mg) (c : SaysV fa fn K) : Txt K mg where
    n_len := He.free_ok X G (c.fact 0 (f := fun K => (He.Fa.free "len").ok K) rfl)
    n_min := He.free_ok X G (c.fact 1 (f := fun K => (He.Fa.free "min").ok K) rfl)
    n_max := He.free_ok X G (c.fact 2 (f := fun K => (He.Fa.free "max").ok K) rfl)
    n_range := He.free_ok X G (c.fact 3 (f := fun K => (He.Fa.free "range").ok K) rfl)
    g_stream := He.glo_ok X G (c.fact 4 (f := fun K => (He.Fa.glo "_law_stream").ok K) rfl)
    g_pair := He.glo_ok X G (c.fact 5 (f := fun K => (He.Fa.glo "_law_pair").ok K) rfl)
    mk_Share := He.mkr_ok (c.fact 6 (f := fun K => (He.Fa.mkr "Share").ok K) rfl)
    g_Share := He.glo_ok X G (c.fact 7 (f := fun K => (He.Fa.glo "Share").ok K) rfl)
    g_draw := He.glo_ok X G (c.fact 8 (f := fun K => (He.Fa.glo "_law_draw").ok K) rfl)
    g_told_right := He.glo_ok X G (c.fact 9 (f := fun K => (He.Fa.glo "_law_told_right").ok K) rfl)
    g_reckoned := He.glo_ok X G (c.fact 10 (f := fun K => (He.Fa.glo "_law_reckoned").ok K) rfl)
    g_over := He.glo_ok X G (c.fact 11 (f := fun K => (He.Fa.glo "_law_over").ok K) rfl)
    mt_Share_is_more := He.meth_ok (c.fact 12 (f := fun K => (He.Fa.meth "Share" "is_more").ok K) rfl)
    cl_Share := He.cls_ok (c.fact 13 (f := fun K => (He.Fa.cls "Share").ok K) rfl)
    eq_Share := owneq_ok (c.fact 14 (f := tOwnEq "Share") rfl)
    pr_Share_top := prop_ok (c.fact 15 (f := tProp "Share" "top") rfl)
    pr_Share_bottom := prop_ok (c.fact 16 (f := tProp "Share" "bottom") rfl)
    g_is_integer := He.glo_ok X G (c.fact 17 (f := fun K => (He.Fa.glo "is_integer").ok K) rfl)
    g_common := He.glo_ok X G (c.fact 18 (f := fun K => (He.Fa.glo "common").ok K) rfl)
    na_Share_over := He.noat_ok (c.fact 19 (f := fun K => (He.Fa.noat "Share" "over").ok K) rfl)
    na_Share_under := He.noat_ok (c.fact 20 (f := fun K => (He.Fa.noat "Share" "under").ok K) rfl)
    n_int := He.free_ok X G (c.fact 21 (f := fun K => (He.Fa.free "int").ok K) rfl)
    n_isinstance := He.free_ok X G (c.fact 22 (f := fun K => (He.Fa.free "isinstance").ok K) rfl)
    n_bool := He.free_ok X G (c.fact 23 (f := fun K => (He.Fa.free "bool").ok K) rfl)
    g_is_number := He.glo_ok X G (c.fact 24 (f := fun K => (He.Fa.glo "is_number").ok K) rfl)
    g_over_of := He.glo_ok X G (c.fact 25 (f := fun K => (He.Fa.glo "over_of").ok K) rfl)
    g_under_of := He.glo_ok X G (c.fact 26 (f := fun K => (He.Fa.glo "under_of").ok K) rfl)
    n_str := He.free_ok X G (c.fact 27 (f := fun K => (He.Fa.free "str").ok K) rfl)
    st_Share := He.eqO_ok (c.fact 28 (f := fun K => tFind (He.ga K "Share") "__str__" (.ref (He.ma K (He.ga K "Share") "__str__")) K) rfl)
    sf_Share := c.fact 29 (f := fun K => PySem.W.isFn K (.ref (He.ma K (He.ga K "Share") "__str__"))) rfl
    g_choose := He.glo_ok X G (c.fact 30 (f := fun K => (He.Fa.glo "_law_choose").ok K) rfl)
    op_Share_add := own_ok (c.fact 31 (f := tOwn "Share" "add") rfl)
    op_Share_sub := own_ok (c.fact 32 (f := tOwn "Share" "sub") rfl)
    op_Share_mul := own_ok (c.fact 33 (f := tOwn "Share" "mul") rfl)
    isi := fun w => isi_ok (L := clsNames) (fun _ _ h => h) (c.fact 34 (f := tIsi clsNames sub) rfl)
theorem all_ok {P : Program} {w : World} {K : PySem.W.Frag} {mg : Str → Option Value} {base : Heap} (T : Txt K mg) (c : SaysV fa fn K) : Ok P w K mg base (gam K w) d_law 7 ["_law_script"] f_law := by
  have k_stream := ok_stream (P := P) (w := w) (base := base) T (c.def_ 0) 
  have k_draw := ok_draw (P := P) (w := w) (base := base) T (c.def_ 1) 
  have k_choose := ok_choose (P := P) (w := w) (base := base) T (c.def_ 2) k_draw
  have k_pair := ok_pair (P := P) (w := w) (base := base) T (c.def_ 3) k_draw k_choose
  have k_is_integer := ok_is_integer (P := P) (w := w) (base := base) T (c.def_ 4) 
  have k_common := ok_common (P := P) (w := w) (base := base) T (c.def_ 5) 
  have k_Share_init := ok_Share_init (P := P) (w := w) (base := base) T (c.def_ 6) k_is_integer k_common
  have k_Share_bottom := ok_Share_bottom (P := P) (w := w) (base := base) T (c.def_ 7) 
  have k_Share_top := ok_Share_top (P := P) (w := w) (base := base) T (c.def_ 8) 
  have k_Share_str := ok_Share_str (P := P) (w := w) (base := base) T (c.def_ 9) 
  have k_told_right := ok_told_right (P := P) (w := w) (base := base) T (c.def_ 10) k_Share_bottom k_Share_top k_Share_str
  have k_over := ok_over (P := P) (w := w) (base := base) T (c.def_ 11) k_Share_bottom k_Share_top
  have k_is_number := ok_is_number (P := P) (w := w) (base := base) T (c.def_ 12) k_is_integer
  have k_over_of := ok_over_of (P := P) (w := w) (base := base) T (c.def_ 13) 
  have k_under_of := ok_under_of (P := P) (w := w) (base := base) T (c.def_ 14) 
  have k_Share_add := ok_Share_add (P := P) (w := w) (base := base) T (c.def_ 15) k_Share_init k_is_number k_over_of k_under_of
  have k_Share_radd := ok_Share_radd (P := P) (w := w) (base := base) T (c.def_ 16) k_Share_add
  have k_Share_sub := ok_Share_sub (P := P) (w := w) (base := base) T (c.def_ 17) k_Share_init k_is_number k_over_of k_under_of
  have k_Share_rsub := ok_Share_rsub (P := P) (w := w) (base := base) T (c.def_ 18) k_Share_init k_is_number k_over_of k_under_of
  have k_Share_mul := ok_Share_mul (P := P) (w := w) (base := base) T (c.def_ 19) k_Share_init k_is_number k_over_of k_under_of
  have k_Share_rmul := ok_Share_rmul (P := P) (w := w) (base := base) T (c.def_ 20) k_Share_mul
  have k_Share_eq := ok_Share_eq (P := P) (w := w) (base := base) T (c.def_ 21) k_is_number k_over_of k_under_of
  have k_reckoned := ok_reckoned (P := P) (w := w) (base := base) T (c.def_ 22) k_told_right k_over k_Share_add k_Share_radd k_Share_sub k_Share_rsub k_Share_mul k_Share_rmul k_Share_eq
  have k_Share_is_more := ok_Share_is_more (P := P) (w := w) (base := base) T (c.def_ 23) k_is_number k_over_of k_under_of
  have k_law := ok_law (P := P) (w := w) (base := base) T (c.def_ 24) k_stream k_draw k_pair k_Share_init k_Share_bottom k_Share_top k_told_right k_over k_Share_eq k_reckoned k_Share_is_more
  exact k_law
def loose0 : List PySem.Str := ["BellError", "InvalidNumber", "is_integer", "common", "Share", "is_number", "over_of", "under_of", "_law_stream", "_law_draw", "_law_choose", "_law_pair", "_law_over", "_law_told_right", "_law_reckoned"]
def loose : List PySem.Str := loose0
abbrev R : PySem.W.OpenRow := PySem.W.OpenLaw.row PySem.Challenge.rw_gatheredbells_k01_shares_reckoned
abbrev hk : PySem.W.Hook := hookV 8 fa fn
def ob (s : PySem.W.SharedT) : He.AlD := obsVG 8 fa fn (HandSHeadRun.getT s)
theorem ob_eq (s : PySem.W.SharedT) : ob s = hk.obs s.abs := obsVG_eq (HandSHeadRun.getT_eq s)
theorem run (w : World) : HandSHeadRun.RunEq R (PySem.W.view R.prog [19]) hk ob 8000 loose w := by
  intro os
  kernel_rfl
end K01
set_option maxHeartbeats 4000000
namespace K01
open PySem L2 VL
theorem a_is_integer (v : Val) (h : v.fz = true) (b : Bool) (hb : (match v with | .int _ => true | _ => false) = b) (ht : (∃ o fs xs, v = .obj o 0 fs xs) ∨ (tyName v).isSome = true) : f_is_integer [v] = .ok (.bl b) [none] := by
  subst hb
  rcases ht with ⟨o, fs, xs, rfl⟩ | ht
  · simp [f_is_integer, mBody, m_is_integer, h, semIsi, outs]
  · cases v <;> simp [tyName] at ht <;> simp [f_is_integer, mBody, m_is_integer, h, semIsi, outs, tyName, isiB]
/-- the factor on one side is small -/
theorem mul_l {i j : Int} (h1 : -(2 ^ 64) < i) (h2 : i < 2 ^ 64) : mulOk i j := .inr (.inl ⟨h1, h2⟩)
theorem mul_r {i j : Int} (h1 : -(2 ^ 64) < j) (h2 : j < 2 ^ 64) : mulOk i j := .inr (.inr ⟨h1, h2⟩)
theorem ite01 (c : Prop) [Decidable c] : (0 : Int) ≤ if c then 1 else 0 := by split <;> decide
theorem a_stream (ns : List Int) (k : Nat) (hk : k ≤ 63) : ∃ a b : Int, 0 ≤ a ∧ 0 ≤ b ∧ b < 2147483647 ∧ f_stream [.scr ns, .int k] = .ok (.lst true [.int a, .int b]) [none, none] := by
  have hm1 : mulOk 7919 (k : Int) := mul_l (by decide) (by decide)
  have hm2 : mulOk (7919 * (k : Int)) (k : Int) := mul_r (by omega) (by omega)
  have hm3 : mulOk 31 (k : Int) := mul_l (by decide) (by decide)
  have hm4 : ∀ x : Int, mulOk x 48271 := fun x => mul_r (by decide) (by decide)
  have hm5 : ∀ (x : Int) (c : Prop) [Decidable c], mulOk x (if c then 1 else 0) := fun x c _ => by split <;> exact mul_r (by decide) (by decide)
  have hm6 : ∀ x : Int, mulOk x 0 := fun x => mul_r (by decide) (by decide)
  have pos : ∀ z : Int, 0 ≤ (if z < -1 - z then -1 - z else z) := fun z => by split <;> omega
  have mod : ∀ z : Int, 0 ≤ z % 2147483647 ∧ z % 2147483647 < 2147483647 := fun z => ⟨Int.emod_nonneg _ (by decide), Int.emod_lt_of_pos _ (by decide)⟩
  have hp : powOk 10 18 := by decide
  by_cases h : (k : Int) < ns.length
  · have hlt : k < ns.length := by omega
    have hat : atI ns (k : Int) = some ns[k] := atI_nat (by simp [hlt])
    have e : f_stream [.scr ns, .int k] = .ok (.lst true [.int ((if ns[k] < -1 - ns[k] then -1 - ns[k] else ns[k]) * (if 10 ^ 18 ≤ (if ns[k] < -1 - ns[k] then -1 - ns[k] else ns[k]) then 1 else 0)), .int (((if ns[k] < -1 - ns[k] then -1 - ns[k] else ns[k]) % 2147483629 + 7919 * (k : Int) * k + 31 * k + 17) * 48271 % 2147483647)]) [none, none] := by
      simp [f_stream, mBody, m_stream, h, hat, hm1, hm2, hm3, hm4, hm5, hp]
    exact ⟨_, _, Int.mul_nonneg (pos _) (ite01 _), (mod _).1, (mod _).2, e⟩
  · have e : f_stream [.scr ns, .int k] = .ok (.lst true [.int 0, .int ((7919 * (k : Int) * k + 31 * k + 17) * 48271 % 2147483647)]) [none, none] := by
      simp [f_stream, mBody, m_stream, h, hm1, hm2, hm3, hm4, hm5, hm6, hp]
    exact ⟨_, _, by decide, (mod _).1, (mod _).2, e⟩
/-- the stream: two numbers -/
def Stm (v : Val) : Prop := ∃ a b : Int, v = .lst true [.int a, .int b] ∧ 0 ≤ a ∧ 0 ≤ b ∧ b < 2147483647
theorem a_draw {s : Val} (hs : Stm s) {c : Int} (h0 : 0 < c) (hc : c < 2 ^ 64) : ∃ (r : Int) (s' : Val), 0 ≤ r ∧ r < c ∧ Stm s' ∧ f_draw [s, .int c] = .ok (.int r) [some s', none] := by
  obtain ⟨a, b, rfl, ha, hb, hb2⟩ := hs
  have i0 : ixN 2 0 = some 0 := by decide
  have i1 : ixN 2 1 = some 1 := by decide
  have a0 : ∀ x y : Val, atI [x, y] 0 = some x := fun x y => by simp [atI, i0]
  have a1 : ∀ x y : Val, atI [x, y] 1 = some y := fun x y => by simp [atI, i1]
  have hd : divOk c := ⟨h0, by
    have : c.natAbs < 2 ^ 64 := by omega
    have := (Nat.log2_lt (by omega)).mpr this
    omega⟩
  have hd2 : divOk 32 := by decide
  by_cases h : 0 < a
  · refine ⟨_, _, Int.emod_nonneg a (by omega), Int.emod_lt_of_pos a h0, ⟨a / c, b, rfl, Int.ediv_nonneg ha (by omega), hb, hb2⟩, ?_⟩
    simp [f_draw, mBody, m_draw, a0, a1, i0, i1, h, h0, hd]
  · have m1 : mulOk b 39373 := mul_r (by decide) (by decide)
    have m2 : mulOk ((b * 39373 + 7) % 2147483647) ((b * 39373 + 7) % 2147483647) := mul_r (by have := Int.emod_nonneg (b * 39373 + 7) (show (2147483647 : Int) ≠ 0 by decide); omega) (by have := Int.emod_lt_of_pos (b * 39373 + 7) (show (0 : Int) < 2147483647 by decide); omega)
    have e : f_draw [.lst true [.int a, .int b], .int c] = .ok (.int ((b * 39373 + 7) % 2147483647 * ((b * 39373 + 7) % 2147483647) % 2147483629 / 32 % c)) [some (.lst true [.int a, .int ((b * 39373 + 7) % 2147483647)]), none] := by
      simp [f_draw, mBody, m_draw, a0, a1, i0, i1, h, h0, hd, m1, m2, hd2]
    exact ⟨_, _, Int.emod_nonneg _ (by omega), Int.emod_lt_of_pos _ h0, ⟨a, (b * 39373 + 7) % 2147483647, rfl, ha, Int.emod_nonneg _ (by decide), Int.emod_lt_of_pos _ (by decide)⟩, e⟩
theorem a_choose {s : Val} (hs : Stm s) {xs : List Val} (h0 : xs ≠ []) (hl : xs.length < 2 ^ 60) (hf : fzs xs = true) : ∃ (v s' : Val), v ∈ xs ∧ Stm s' ∧ f_choose [s, .lst false xs] = .ok v [some s', none] := by
  have hp : 0 < xs.length := List.length_pos_iff.mpr h0
  obtain ⟨r, s', r0, r1, hs', e⟩ := a_draw hs (c := xs.length) (by omega) (by omega)
  obtain ⟨n, rfl⟩ := Int.eq_ofNat_of_zero_le r0
  have hn : n < xs.length := by omega
  have hat : atI xs (n : Int) = some xs[n] := atI_nat (List.getElem?_eq_getElem hn)
  have hv : xs[n].fz = true := by
    rw [fzs_all, List.all_eq_true] at hf
    exact hf _ (List.getElem_mem _)
  refine ⟨_, s', List.getElem_mem hn, hs', ?_⟩
  simp [f_choose, mBody, m_choose, hf, e, hat, hv]
/-- what a pair may be -/
def Pr (t b : Int) : Prop := -(10 ^ 13) < t ∧ t < 10 ^ 13 ∧ 0 < b ∧ b < 10 ^ 13
theorem a_pair {s : Val} (hs : Stm s) : ∃ (t b : Int) (s' : Val), Pr t b ∧ Stm s' ∧ f_pair [s] = .ok (.lst true [.int t, .int b]) [some s'] := by
  obtain ⟨r1, s1, r10, r11, hs1, e1⟩ := a_draw hs (c := 13) (by decide) (by decide)
  obtain ⟨r2, s2, r20, r21, hs2, e2⟩ := a_draw hs1 (c := 2000000000000) (by decide) (by decide)
  obtain ⟨v, s3, hv, hs3, e3⟩ := a_choose hs2 (xs := [.int (r1 - 6), .int (r2 - 1000000000000), .int 0]) (by simp) (by simp) (by simp)
  obtain ⟨r4, s4, r40, r41, hs4, e4⟩ := a_draw hs3 (c := 12) (by decide) (by decide)
  obtain ⟨r5, s5, r50, r51, hs5, e5⟩ := a_draw hs4 (c := 1000000000000) (by decide) (by decide)
  obtain ⟨u, s6, hu, hs6, e6⟩ := a_choose hs5 (xs := [.int r4, .int r5]) (by simp) (by simp) (by simp)
  obtain ⟨t, rfl, ht⟩ : ∃ t, v = .int t ∧ -(10 ^ 13) < t ∧ t < 10 ^ 13 := by
    simp at hv
    rcases hv with rfl | rfl | rfl
    · exact ⟨_, rfl, by omega, by omega⟩
    · exact ⟨_, rfl, by omega, by omega⟩
    · exact ⟨_, rfl, by omega, by omega⟩
  obtain ⟨b, rfl, hb⟩ : ∃ b, u = .int b ∧ 0 ≤ b ∧ b < 10 ^ 12 := by
    simp at hu
    rcases hu with rfl | rfl
    · exact ⟨_, rfl, by omega, by omega⟩
    · exact ⟨_, rfl, by omega, by omega⟩
  have hp : powOk 10 12 := by decide
  have hm : mulOk 2 1000000000000 := by decide
  refine ⟨t, 1 + b, s6, ⟨ht.1, ht.2, by omega, by omega⟩, hs6, ?_⟩
  simp [f_pair, mBody, m_pair, e1, e2, e3, e4, e5, e6, hp, hm]
theorem gcd_step (x y : Nat) : Nat.gcd y (x % y) = Nat.gcd x y := by rw [Nat.gcd_comm x y, Nat.gcd_rec y x, Nat.gcd_comm]
theorem loop1 : ∀ (n x y : Nat), y < n → whileN (mFun (semCmp fun i j => decide (j < i)) [(mVar 1), (mC (.int 0))]) (mPar 0 1 (mStab (mVar 1)) (mFun semMod [(mVar 0), (mVar 1)])) n [some (.int x), some (.int y)] = .nx [some (.int (Nat.gcd x y)), some (.int 0)]
  | 0, _, _, h => absurd h (Nat.not_lt_zero _)
  | n + 1, x, 0, _ => by simp [whileN]
  | n + 1, x, y + 1, h => by
    have ih := loop1 n (y + 1) (x % (y + 1)) (Nat.lt_of_lt_of_le (Nat.mod_lt x (Nat.succ_pos y)) (by omega))
    rw [gcd_step] at ih
    have h0 : (0 : Int) < ((y + 1 : Nat) : Int) := by omega
    have e : ((x % (y + 1) : Nat) : Int) = (x : Int) % ((y + 1 : Nat) : Int) := by simp
    rw [e] at ih
    unfold whileN
    simp only [Int.natCast_add, Int.natCast_one] at *
    simp [h0, ih]
theorem max_abs (a : Int) : (if -a > a then -a else a) = (a.natAbs : Int) := by split <;> omega
theorem a_common (a b : Int) : f_common [.int a, .int b] = .ok (.int (Nat.gcd a.natAbs b.natAbs)) [none, none] := by
  have l := loop1 (b.natAbs + 1) a.natAbs b.natAbs (by omega)
  have ma := max_abs a
  have mb := max_abs b
  simp only [gt_iff_lt] at ma mb
  simp [f_common, mBody, m_common, mWhile, fuelAt, ma, mb, l]
@[simp] theorem ne_uo : ¬ (Str.ofString "under" = Str.ofString "over") := by decide +kernel
@[simp] theorem ne_ou : ¬ (Str.ofString "over" = Str.ofString "under") := by decide +kernel
def shr (o : Bool) (p q : Int) : Val := .obj o 0 ["over", "under"] [.int p, .int q]
theorem divOk_of {d : Int} (h : 0 < d) (h2 : d < 2 ^ 900) : divOk d := by
  refine ⟨h, ?_⟩
  have h3 : d.natAbs < 2 ^ 900 := by
    have : ((2 ^ 900 : Nat) : Int) = (2 : Int) ^ 900 := by norm_cast
    omega
  have := (Nat.log2_lt (by omega)).mpr h3
  omega
theorem a_init {t b : Int} (hb : 0 < b) (h2 : b < 2 ^ 900) : f_Share_init [.obj true 0 [] [], .int t, .int b] = .ok .non [some (shr true (t / (Nat.gcd t.natAbs b.natAbs : Nat)) (b / (Nat.gcd t.natAbs b.natAbs : Nat))), none, none] := by
  have e1 := a_is_integer (.int t) rfl true rfl (.inr rfl)
  have e2 := a_is_integer (.int b) rfl true rfl (.inr rfl)
  have e3 := a_common t b
  have hg : 0 < Nat.gcd t.natAbs b.natAbs := Nat.gcd_pos_of_pos_right _ (by omega)
  have hg2 : Nat.gcd t.natAbs b.natAbs ≤ b.natAbs := Nat.gcd_le_right _ (by omega)
  have hd : divOk (Nat.gcd t.natAbs b.natAbs : Nat) := divOk_of (by omega) (by omega)
  have hb1 : ¬ b < 1 := by omega
  simp [f_Share_init, mBody, m_Share_init, e1, e2, e3, hd, hb1, putFn, putFv, shr]
theorem a_make {t b : Int} (hb : 0 < b) (h2 : b < 2 ^ 900) : mMake 0 f_Share_init [.int t, .int b] = .ok (shr true (t / (Nat.gcd t.natAbs b.natAbs : Nat)) (b / (Nat.gcd t.natAbs b.natAbs : Nat))) [none, none] := by
  simp [mMake, a_init hb h2]
@[simp] theorem shr_fz (p q : Int) : (shr false p q).fz = true := by simp [shr]
@[simp] theorem shr_frz (o : Bool) (p q : Int) : (shr o p q).frz = shr false p q := by simp [shr]
theorem a_top (p q : Int) (o : Bool) : f_Share_top [shr o p q] = .ok (.int p) [some (shr o p q)] := by
  simp [f_Share_top, mBody, m_Share_top, semFld, shr, lookF]
theorem a_bottom (p q : Int) (o : Bool) : f_Share_bottom [shr o p q] = .ok (.int q) [some (shr o p q)] := by
  simp [f_Share_bottom, mBody, m_Share_bottom, semFld, shr, lookF]
/-- the properties, read off a name -/
theorem p_top {ρ : VEnv} {i : Nat} {p q : Int} {o : Bool} (h : ρ[i]? = some (some (shr o p q))) : mPropR 0 f_Share_top i ρ = .ok (.int p) ρ := by
  have hi := (List.getElem?_eq_some_iff.mp h).1
  have e := a_top p q o
  have hs : ρ.set i (some (shr o p q)) = ρ := by
    apply List.ext_getElem?
    intro j
    by_cases hj : i = j
    · subst hj; rw [List.getElem?_set_self hi, h]
    · rw [List.getElem?_set_ne hj]
  unfold mPropR
  rw [h]
  simp only [shr] at e h hs ⊢
  simp [h, mfNoX, e, List.set_set, hs]
theorem p_bottom {ρ : VEnv} {i : Nat} {p q : Int} {o : Bool} (h : ρ[i]? = some (some (shr o p q))) : mPropR 0 f_Share_bottom i ρ = .ok (.int q) ρ := by
  have hi := (List.getElem?_eq_some_iff.mp h).1
  have e := a_bottom p q o
  have hs : ρ.set i (some (shr o p q)) = ρ := by
    apply List.ext_getElem?
    intro j
    by_cases hj : i = j
    · subst hj; rw [List.getElem?_set_self hi, h]
    · rw [List.getElem?_set_ne hj]
  unfold mPropR
  rw [h]
  simp only [shr] at e h hs ⊢
  simp [h, mfNoX, e, List.set_set, hs]
theorem loop2 (A B C : Option Val) : ∀ (n x y : Nat), y < n → whileN (mFun (semCmp fun i j => decide (j < i)) [(mVar 4), (mC (.int 0))]) (mPar 3 4 (mStab (mVar 4)) (mFun semMod [(mFun semInt [(mVar 3)]), (mVar 4)])) n [A, B, C, some (.int x), some (.int y)] = .nx [A, B, C, some (.int (Nat.gcd x y)), some (.int 0)]
  | 0, _, _, h => absurd h (Nat.not_lt_zero _)
  | n + 1, x, 0, _ => by simp [whileN]
  | n + 1, x, y + 1, h => by
    have ih := loop2 A B C n (y + 1) (x % (y + 1)) (Nat.lt_of_lt_of_le (Nat.mod_lt x (Nat.succ_pos y)) (by omega))
    rw [gcd_step] at ih
    have h0 : (0 : Int) < ((y + 1 : Nat) : Int) := by omega
    have e : ((x % (y + 1) : Nat) : Int) = (x : Int) % ((y + 1 : Nat) : Int) := by simp
    rw [e] at ih
    unfold whileN
    simp only [Int.natCast_add, Int.natCast_one] at *
    simp [h0, ih]
@[simp] theorem eq_int (a b : Int) : semEq [.int a, .int b] = some (.bl (decide (a = b))) := by
  simp [semEq, eqD, toD, SeqAt.shaped, PyData.eqv, PyData.canLay0, PyData.depth, Bool.beq_eq_decide_eq]
@[simp] theorem ne_int (a b : Int) : semNe [.int a, .int b] = some (.bl (!decide (a = b))) := by
  simp [semNe, eqD, toD, SeqAt.shaped, PyData.eqv, PyData.canLay0, PyData.depth, Bool.beq_eq_decide_eq]
@[simp] theorem eq_bl (a b : Bool) : semEq [.bl a, .bl b] = some (.bl (decide (a = b))) := by
  simp [semEq, eqD, toD, SeqAt.shaped, PyData.eqv, PyData.canLay0, PyData.depth, Bool.beq_eq_decide_eq]
@[simp] theorem ne_bl (a b : Bool) : semNe [.bl a, .bl b] = some (.bl (!decide (a = b))) := by
  simp [semNe, eqD, toD, SeqAt.shaped, PyData.eqv, PyData.canLay0, PyData.depth, Bool.beq_eq_decide_eq]
theorem eq_str {a b : Str} (h1 : PyData.strOk a = true) (h2 : PyData.strOk b = true) : semEq [.str a, .str b] = some (.bl (decide (a = b))) := by
  simp [semEq, eqD, toD, SeqAt.shaped, PyData.eqv, PyData.canLay0, PyData.depth, Bool.beq_eq_decide_eq, h1, h2]
/-- a share as it must be -/
structure Good (p q : Int) : Prop where
  q0 : 0 < q
  cop : Nat.gcd p.natAbs q.natAbs = 1
  bp : p.natAbs < 2 ^ 400
  bq : q.natAbs < 2 ^ 400
theorem log_of {i : Int} (h : i.natAbs < 2 ^ 400) : i.natAbs.log2 < 1920 := by
  by_cases h0 : i.natAbs = 0
  · rw [h0]; decide
  · have := (Nat.log2_lt h0).mpr h
    omega
theorem mul_of {i j : Int} (hi : i.natAbs < 2 ^ 400) (hj : j.natAbs < 2 ^ 400) : mulOk i j := by
  have := log_of hi
  have := log_of hj
  exact .inl (by omega)
theorem str_len {i : Int} (h : i.natAbs < 2 ^ 400) : (Str.ofString (toString i)).length ≤ 2000 := by
  have := PySem.int_text_length_le (a := i) (k := 1920) (by decide) (log_of h)
  have e : (Str.ofString (toString i)).length = (toString i).length := by
    first | exact PySem.ofString_length _ | (rw [PyProof.Rows.ofString_length]; rfl)
  omega
def txt (p q : Int) : Str := Str.empty ++ Str.ofString (toString p) ++ Str.ofString "/" ++ Str.ofString (toString q)
theorem a_str {p q : Int} (g : Good p q) (o : Bool) : f_Share_str [shr o p q] = .ok (.str (txt p q)) [some (shr o p q)] := by
  have l1 := log_of g.bp
  have l2 := log_of g.bq
  have s1 := str_len g.bp
  have s2 := str_len g.bq
  have s3 : (Str.ofString "/").length = 1 := by decide +kernel
  have s4 : Str.empty.length = 0 := rfl
  have c1 : (Str.empty ++ Str.ofString (toString p)).length ≤ 16777216 := by rw [str_app_len]; omega
  have c2 : (Str.empty ++ Str.ofString (toString p) ++ Str.ofString "/").length ≤ 16777216 := by rw [str_app_len, str_app_len]; omega
  have c3 : (Str.empty ++ Str.ofString (toString p) ++ Str.ofString "/" ++ Str.ofString (toString q)).length ≤ 16777216 := by rw [str_app_len, str_app_len, str_app_len]; omega
  simp only [Int.toString_eq_repr] at c1 c2 c3
  simp [f_Share_str, mBody, m_Share_str, semFld, shr, lookF, semFmt1, semFmt, l1, l2, c1, c2, c3, txt]
theorem c_str {p q : Int} (g : Good p q) : mfStr 0 f_Share_str [shr false p q] = .ok (.str (txt p q)) [none] := by
  have e := a_str g false
  simp only [shr] at e ⊢
  simp [mfStr, e, strR]
theorem a_told {p q t b : Int} (g : Good p q) (h : p * b = t * q) (bb : b.natAbs < 2 ^ 400) (bt : t.natAbs < 2 ^ 400) : f_told_right [shr false p q, .int t, .int b] = .ok (.bl true) [none, none, none] := by
  have m1 : mulOk p b := mul_of g.bp bb
  have m2 : mulOk t q := mul_of bt g.bq
  have q1 : ¬ q < 1 := by have := g.q0; omega
  have l1 := log_of g.bp
  have l2 := log_of g.bq
  have s1 := str_len g.bp
  have s2 := str_len g.bq
  have s3 : (Str.ofString "/").length = 1 := by decide +kernel
  have ma := max_abs p
  simp only [gt_iff_lt] at ma
  have hq : q = ((q.natAbs : Nat) : Int) := by have := g.q0; omega
  have lp := loop2 (some (shr false p q)) (some (.int t)) (some (.int b)) (q.natAbs + 1) p.natAbs q.natAbs (by omega)
  rw [g.cop, ← hq] at lp
  have fq : q.toNat = q.natAbs := by have := g.q0; omega
  have T : ∀ (A B C D : Option Val), mPropR 0 f_Share_top 0 [some (shr false p q), A, B, C, D] = .ok (.int p) [some (shr false p q), A, B, C, D] := fun A B C D => p_top rfl
  have Bt : ∀ (A B C D : Option Val), mPropR 0 f_Share_bottom 0 [some (shr false p q), A, B, C, D] = .ok (.int q) [some (shr false p q), A, B, C, D] := fun A B C D => p_bottom rfl
  have cs := c_str g
  have a1 : (Str.ofString (toString p)).length + (Str.ofString "/").length ≤ 16777216 := by omega
  have a2 : (Str.ofString (toString p) ++ Str.ofString "/").length + (Str.ofString (toString q)).length ≤ 16777216 := by rw [str_app_len]; omega
  have et : txt p q = Str.ofString (toString p) ++ Str.ofString "/" ++ Str.ofString (toString q) := by
    unfold txt
    have : Str.empty ++ Str.ofString (toString p) = Str.ofString (toString p) := by
      show (⟨#[] ++ (Str.ofString (toString p)).cps⟩ : Str) = _
      simp
    rw [this]
  have eq := eq_str (a := txt p q) (b := Str.ofString (toString p) ++ Str.ofString "/" ++ Str.ofString (toString q)) (by rw [et]; exact strOk_app (strOk_app (strOk_of _) (strOk_of _)) (strOk_of _)) (strOk_app (strOk_app (strOk_of _) (strOk_of _)) (strOk_of _))
  simp only [Int.toString_eq_repr] at a1 a2 et eq
  rw [decide_eq_true et] at eq
  simp [f_told_right, mBody, m_told_right, T, Bt, m1, m2, h, q1, ma, mWhile, fuelAt, fq, lp, l1, l2, cs, a1, a2, eq]
/-- reduced -/
def nP (t b : Int) : Int := t / (Nat.gcd t.natAbs b.natAbs : Nat)
def nQ (t b : Int) : Int := b / (Nat.gcd t.natAbs b.natAbs : Nat)
theorem norm {t b : Int} (hb : 0 < b) (h1 : t.natAbs < 2 ^ 400) (h2 : b.natAbs < 2 ^ 400) : Good (nP t b) (nQ t b) ∧ nP t b * b = t * nQ t b := by
  have hg : 0 < Nat.gcd t.natAbs b.natAbs := Nat.gcd_pos_of_pos_right _ (by omega)
  have d1 : ((Nat.gcd t.natAbs b.natAbs : Nat) : Int) ∣ t := Int.ofNat_dvd_left.mpr (Nat.gcd_dvd_left _ _)
  have d2 : ((Nat.gcd t.natAbs b.natAbs : Nat) : Int) ∣ b := Int.ofNat_dvd_left.mpr (Nat.gcd_dvd_right _ _)
  have n1 : (nP t b).natAbs = t.natAbs / Nat.gcd t.natAbs b.natAbs := by
    unfold nP
    rw [Int.natAbs_ediv_of_dvd d1, Int.natAbs_natCast]
  have n2 : (nQ t b).natAbs = b.natAbs / Nat.gcd t.natAbs b.natAbs := by
    unfold nQ
    rw [Int.natAbs_ediv_of_dvd d2, Int.natAbs_natCast]
  have e1 : nP t b * (Nat.gcd t.natAbs b.natAbs : Nat) = t := Int.ediv_mul_cancel d1
  have e2 : nQ t b * (Nat.gcd t.natAbs b.natAbs : Nat) = b := Int.ediv_mul_cancel d2
  refine ⟨⟨Int.ediv_pos_of_pos_of_dvd hb (by omega) d2, ?_, ?_, ?_⟩, ?_⟩
  · rw [n1, n2]
    rw [Nat.gcd_div (Nat.gcd_dvd_left _ _) (Nat.gcd_dvd_right _ _), Nat.div_self hg]
  · rw [n1]; exact Nat.lt_of_le_of_lt (Nat.div_le_self _ _) h1
  · rw [n2]; exact Nat.lt_of_le_of_lt (Nat.div_le_self _ _) h2
  · have z : nP t b * (nQ t b * (Nat.gcd t.natAbs b.natAbs : Nat)) = nP t b * (Nat.gcd t.natAbs b.natAbs : Nat) * nQ t b := by rw [Int.mul_comm (nQ t b), Int.mul_assoc]
    rw [e2, e1] at z
    exact z
/-- a number of the program: an int, or a share -/
def Nm (v : Val) (p q : Int) : Prop := (v = .int p ∧ q = 1) ∨ v = shr false p q
theorem nm_fz {v : Val} {p q : Int} (h : Nm v p q) : v.fz = true := by rcases h with ⟨rfl, _⟩ | rfl <;> simp
theorem a_is_number {v : Val} {p q : Int} (h : Nm v p q) : f_is_number [v] = .ok (.bl true) [none] := by
  rcases h with ⟨rfl, _⟩ | rfl
  · have e := a_is_integer (.int p) rfl true rfl (.inr rfl)
    simp [f_is_number, mBody, m_is_number, semIsi, tyName, e]
  · have e := a_is_integer (shr false p q) (by simp) false rfl (.inl ⟨_, _, _, rfl⟩)
    simp only [shr] at e ⊢
    simp [f_is_number, mBody, m_is_number, semIsi, tyName, e, sub]
theorem a_over_of {v : Val} {p q : Int} (h : Nm v p q) : f_over_of [v] = .ok (.int p) [none] := by
  rcases h with ⟨rfl, _⟩ | rfl
  · simp [f_over_of, mBody, m_over_of, semIsi, tyName]
  · simp [f_over_of, mBody, m_over_of, semIsi, tyName, shr, sub, semFld, lookF]
theorem a_under_of {v : Val} {p q : Int} (h : Nm v p q) : f_under_of [v] = .ok (.int q) [none] := by
  rcases h with ⟨rfl, rfl⟩ | rfl
  · simp [f_under_of, mBody, m_under_of, semIsi, tyName]
  · simp [f_under_of, mBody, m_under_of, semIsi, tyName, shr, sub, semFld, lookF]
theorem a_over {v : Val} {p q : Int} (h : Nm v p q) : f_over [v] = .ok (.lst true [.int p, .int q]) [none] := by
  rcases h with ⟨rfl, rfl⟩ | rfl
  · simp [f_over, mBody, m_over, semIsi, tyName, isiB]
  · have T := p_top (ρ := [some (shr false p q)]) (i := 0) (o := false) rfl
    have B := p_bottom (ρ := [some (shr false p q)]) (i := 0) (o := false) rfl
    simp only [shr] at T B ⊢
    simp [f_over, mBody, m_over, semIsi, tyName, T, B]
/-- small enough to be reckoned with -/
def Sm (p q : Int) : Prop := p.natAbs < 2 ^ 100 ∧ 0 < q ∧ q < 2 ^ 100
theorem sm_mul {a b c d : Int} (h1 : Sm a b) (h2 : Sm c d) : (a * d).natAbs < 2 ^ 200 ∧ (b * d).natAbs < 2 ^ 200 ∧ 0 < b * d ∧ (a * c).natAbs < 2 ^ 200 := by
  obtain ⟨a1, b0, b1⟩ := h1
  obtain ⟨c1, d0, d1⟩ := h2
  have db : d.natAbs < 2 ^ 100 := by omega
  have bb : b.natAbs < 2 ^ 100 := by omega
  have e : (2 : Nat) ^ 200 = 2 ^ 100 * 2 ^ 100 := by rw [← Nat.pow_add]
  refine ⟨?_, ?_, Int.mul_pos b0 d0, ?_⟩
  · rw [Int.natAbs_mul, e]; exact Nat.mul_lt_mul'' a1 db
  · rw [Int.natAbs_mul, e]; exact Nat.mul_lt_mul'' bb db
  · rw [Int.natAbs_mul, e]; exact Nat.mul_lt_mul'' a1 c1
theorem sm_ok {a b c d : Int} (h1 : Sm a b) (h2 : Sm c d) : mulOk a d ∧ mulOk c b ∧ mulOk b d ∧ mulOk a c := by
  obtain ⟨a1, b0, b1⟩ := h1
  obtain ⟨c1, d0, d1⟩ := h2
  exact ⟨mul_of (by omega) (by omega), mul_of (by omega) (by omega), mul_of (by omega) (by omega), mul_of (by omega) (by omega)⟩
theorem mk_norm {t b : Int} (hb : 0 < b) (h2 : b.natAbs < 2 ^ 400) : mMake 0 f_Share_init [.int t, .int b] = .ok (shr true (nP t b) (nQ t b)) [none, none] := a_make hb (by omega)
theorem a_add {v : Val} {p q p' q' : Int} (h : Nm v p' q') (s1 : Sm p q) (s2 : Sm p' q') : f_Share_add [shr false p q, v] = .ok (shr true (nP (p * q' + p' * q) (q * q')) (nQ (p * q' + p' * q) (q * q'))) [some (shr false p q), none] := by
  obtain ⟨m1, m2, m3, m4⟩ := sm_ok s1 s2
  obtain ⟨b1, b2, b3, b4⟩ := sm_mul s1 s2
  have e1 := a_is_number h
  have e2 := a_over_of h
  have e3 := a_under_of h
  have mk := mk_norm (t := p * q' + p' * q) b3 (by omega)
  have fz := nm_fz h
  simp only [shr] at mk ⊢
  simp [f_Share_add, mBody, m_Share_add, semFld, lookF, e1, e2, e3, fz, m1, m2, m3, mk]
theorem a_sub {v : Val} {p q p' q' : Int} (h : Nm v p' q') (s1 : Sm p q) (s2 : Sm p' q') : f_Share_sub [shr false p q, v] = .ok (shr true (nP (p * q' - p' * q) (q * q')) (nQ (p * q' - p' * q) (q * q'))) [some (shr false p q), none] := by
  obtain ⟨m1, m2, m3, m4⟩ := sm_ok s1 s2
  obtain ⟨b1, b2, b3, b4⟩ := sm_mul s1 s2
  have e1 := a_is_number h
  have e2 := a_over_of h
  have e3 := a_under_of h
  have mk := mk_norm (t := p * q' - p' * q) b3 (by omega)
  have fz := nm_fz h
  simp only [shr] at mk ⊢
  simp [f_Share_sub, mBody, m_Share_sub, semFld, lookF, e1, e2, e3, fz, m1, m2, m3, mk]
theorem a_rsub {v : Val} {p q p' q' : Int} (h : Nm v p' q') (s1 : Sm p q) (s2 : Sm p' q') : f_Share_rsub [shr false p q, v] = .ok (shr true (nP (p' * q - p * q') (q * q')) (nQ (p' * q - p * q') (q * q'))) [some (shr false p q), none] := by
  obtain ⟨m1, m2, m3, m4⟩ := sm_ok s1 s2
  obtain ⟨b1, b2, b3, b4⟩ := sm_mul s1 s2
  have e1 := a_is_number h
  have e2 := a_over_of h
  have e3 := a_under_of h
  have mk := mk_norm (t := p' * q - p * q') b3 (by omega)
  have fz := nm_fz h
  simp only [shr] at mk ⊢
  simp [f_Share_rsub, mBody, m_Share_rsub, semFld, lookF, e1, e2, e3, fz, m1, m2, m3, mk]
theorem a_mul {v : Val} {p q p' q' : Int} (h : Nm v p' q') (s1 : Sm p q) (s2 : Sm p' q') : f_Share_mul [shr false p q, v] = .ok (shr true (nP (p * p') (q * q')) (nQ (p * p') (q * q'))) [some (shr false p q), none] := by
  obtain ⟨m1, m2, m3, m4⟩ := sm_ok s1 s2
  obtain ⟨b1, b2, b3, b4⟩ := sm_mul s1 s2
  have e1 := a_is_number h
  have e2 := a_over_of h
  have e3 := a_under_of h
  have mk := mk_norm (t := p * p') b3 (by omega)
  have fz := nm_fz h
  simp only [shr] at mk ⊢
  simp [f_Share_mul, mBody, m_Share_mul, semFld, lookF, e1, e2, e3, fz, m4, m3, mk]
theorem shr_eq (o : Bool) (p q : Int) : shr o p q = .obj o 0 ["over", "under"] [.int p, .int q] := rfl
/-- a share on the left -/
theorem bin_l {ml mr : MF} {v : Val} {p q p' q' : Int} {r : Val} {fs : VEnv} (h : Nm v p' q') (e : ml [shr false p q, v] = .ok r fs) : mfBin 0 ml mr [shr false p q, v] = .ok r [none, none] := by
  rcases h with ⟨rfl, rfl⟩ | rfl
  · simp only [shr] at e ⊢; simp [mfBin, e, voidR]
  · simp only [shr] at e ⊢; simp [mfBin, e, voidR]
theorem bin_r {ml mr : MF} {i p q : Int} {r : Val} {fs : VEnv} (e : mr [shr false p q, .int i] = .ok r fs) : mfBin 0 ml mr [.int i, shr false p q] = .ok r [none, none] := by
  simp only [shr] at e ⊢; simp [mfBin, e, voidR]
theorem cmp_l {g : Bool → Bool} {ml : MF} {v : Val} {p q : Int} {k : Bool} {fs : VEnv} (h : (∃ p' q', Nm v p' q') ∨ (tyName v).isSome = true) (e : ml [shr false p q, v] = .ok (.bl k) fs) : mfCmp g 0 ml [shr false p q, v] = .ok (.bl (g k)) [none, none] := by
  rcases h with ⟨p', q', ⟨rfl, rfl⟩ | rfl⟩ | h
  · simp only [shr] at e ⊢; simp [mfCmp, e, boolR, tyName]
  · simp only [shr] at e ⊢; simp [mfCmp, e, boolR]
  · simp only [shr] at e ⊢
    cases v <;> simp [tyName] at h <;> simp [mfCmp, e, boolR, tyName]
theorem cmp_r {g : Bool → Bool} {ml : MF} {i p q : Int} {k : Bool} {fs : VEnv} (e : ml [shr false p q, .int i] = .ok (.bl k) fs) : mfCmp g 0 ml [.int i, shr false p q] = .ok (.bl (g k)) [none, none] := by
  simp only [shr] at e ⊢; simp [mfCmp, e, boolR]
theorem a_radd {v : Val} {p q p' q' : Int} (h : Nm v p' q') (s1 : Sm p q) (s2 : Sm p' q') : f_Share_radd [shr false p q, v] = .ok (shr true (nP (p * q' + p' * q) (q * q')) (nQ (p * q' + p' * q) (q * q'))) [some (shr false p q), none] := by
  have e := bin_l (mr := mfBad) h (a_add h s1 s2)
  have fz := nm_fz h
  simp only [shr] at e ⊢
  simp [f_Share_radd, mBody, m_Share_radd, e, fz]
theorem a_rmul {v : Val} {p q p' q' : Int} (h : Nm v p' q') (s1 : Sm p q) (s2 : Sm p' q') : f_Share_rmul [shr false p q, v] = .ok (shr true (nP (p * p') (q * q')) (nQ (p * p') (q * q'))) [some (shr false p q), none] := by
  have e := bin_l (mr := mfBad) h (a_mul h s1 s2)
  have fz := nm_fz h
  simp only [shr] at e ⊢
  simp [f_Share_rmul, mBody, m_Share_rmul, e, fz]
theorem a_eq {v : Val} {p q p' q' : Int} (h : Nm v p' q') : f_Share_eq [shr false p q, v] = .ok (.bl (decide (p = p') && decide (q = q'))) [some (shr false p q), none] := by
  have e1 := a_is_number h
  have e2 := a_over_of h
  have e3 := a_under_of h
  have fz := nm_fz h
  simp only [shr]
  by_cases h1 : p = p' <;> simp [f_Share_eq, mBody, m_Share_eq, semFld, lookF, e1, e2, e3, fz, h1]
theorem a_eq_no {v : Val} {p q : Int} (fz : v.fz = true) (h : f_is_number [v] = .ok (.bl false) [none]) : f_Share_eq [shr false p q, v] = .ok (.bl false) [some (shr false p q), none] := by
  simp only [shr]
  simp [f_Share_eq, mBody, m_Share_eq, semFld, lookF, h, fz]
theorem a_is_more {v : Val} {p q p' q' : Int} (h : Nm v p' q') (s1 : Sm p q) (s2 : Sm p' q') : f_Share_is_more [shr false p q, v] = .ok (.bl (decide (p' * q < p * q'))) [some (shr false p q), none] := by
  obtain ⟨m1, m2, m3, m4⟩ := sm_ok s1 s2
  have e1 := a_is_number h
  have e2 := a_over_of h
  have e3 := a_under_of h
  have fz := nm_fz h
  simp only [shr]
  simp [f_Share_is_more, mBody, m_Share_is_more, semFld, lookF, e1, e2, e3, fz, m1, m2]
theorem cop_eq {p q p' q' : Int} (g : Good p q) (g' : Good p' q') (h : p * q' = p' * q) : p = p' ∧ q = q' := by
  have hn : p.natAbs * q'.natAbs = p'.natAbs * q.natAbs := by rw [← Int.natAbs_mul, ← Int.natAbs_mul, h]
  have d1 : q.natAbs ∣ q'.natAbs := by
    have : q.natAbs ∣ q'.natAbs * p.natAbs := ⟨p'.natAbs, by rw [Nat.mul_comm, hn, Nat.mul_comm]⟩
    exact Nat.Coprime.dvd_of_dvd_mul_right (Nat.coprime_comm.mp g.cop) this
  have d2 : q'.natAbs ∣ q.natAbs := by
    have : q'.natAbs ∣ q.natAbs * p'.natAbs := ⟨p.natAbs, by rw [Nat.mul_comm, ← hn, Nat.mul_comm]⟩
    exact Nat.Coprime.dvd_of_dvd_mul_right (Nat.coprime_comm.mp g'.cop) this
  have e := Nat.dvd_antisymm d1 d2
  have q0 := g.q0
  have q0' := g'.q0
  have eq : q = q' := by omega
  subst eq
  exact ⟨Int.eq_of_mul_eq_mul_right (by omega) h, rfl⟩
theorem at0 (x y : Val) : atI [x, y] 0 = some x := by
  have i0 : ixN 2 0 = some 0 := by decide
  simp [atI, i0]
theorem at1 (x y : Val) : atI [x, y] 1 = some y := by
  have i1 : ixN 2 1 = some 1 := by decide
  simp [atI, i1]
theorem a_reckoned_l {v : Val} {p q p' q' : Int} (g : Good p q) (g' : Good p' q') (h : Nm v p' q') (s1 : Sm p q) (s2 : Sm p' q') : f_reckoned [shr false p q, v] = .ok (.bl true) [none, none] := by
  obtain ⟨m1, m2, m3, m4⟩ := sm_ok s1 s2
  obtain ⟨b1, b2, b3, b4⟩ := sm_mul s1 s2
  have b1' : (p' * q).natAbs < 2 ^ 200 := by
    obtain ⟨c1, c2, c3, c4⟩ := sm_mul s2 s1
    exact c1
  have fz := nm_fz h
  have o1 := a_over (v := shr false p q) (.inr rfl)
  have o2 := a_over h
  have x1 := bin_l (mr := f_Share_radd) h (a_add h s1 s2)
  have x2 := bin_l (mr := f_Share_rsub) h (a_sub h s1 s2)
  have x3 := bin_l (mr := f_Share_rmul) h (a_mul h s1 s2)
  obtain ⟨g1, e1⟩ := norm (t := p * q' + p' * q) b3 (by omega) (by omega)
  obtain ⟨g2, e2⟩ := norm (t := p * q' - p' * q) b3 (by omega) (by omega)
  obtain ⟨g3, e3⟩ := norm (t := p * p') b3 (by omega) (by omega)
  have t1 := a_told g1 e1 (by omega) (by omega)
  have t2 := a_told g2 e2 (by omega) (by omega)
  have t3 := a_told g3 e3 (by omega) (by omega)
  have y1 := cmp_l (g := id) (.inl ⟨p', q', h⟩) (a_eq (p := p) (q := q) h)
  have y2 := cmp_l (g := not) (.inl ⟨p', q', h⟩) (a_eq (p := p) (q := q) h)
  have k : (decide (p = p') && decide (q = q')) = decide (p * q' - p' * q = 0) := by
    rw [Bool.eq_iff_iff]
    simp only [Bool.and_eq_true, decide_eq_true_eq]
    constructor
    · rintro ⟨rfl, rfl⟩; omega
    · intro z; exact cop_eq g g' (by omega)
  rw [k] at y1 y2
  have fs : (shr false p q).fz = true := by simp
  generalize hs : shr false p q = s at o1 x1 x2 x3 y1 y2 fs
  simp [f_reckoned, mBody, m_reckoned, fz, fs, o1, o2, x1, x2, x3, t1, t2, t3, y1, y2, at0, at1, m1, m2, m3, m4]
theorem a_reckoned_r {i p q : Int} (g : Good p q) (g' : Good i 1) (s1 : Sm p q) (s2 : Sm i 1) : f_reckoned [.int i, shr false p q] = .ok (.bl true) [none, none] := by
  have h : Nm (.int i) i 1 := .inl ⟨rfl, rfl⟩
  obtain ⟨m1, m2, m3, m4⟩ := sm_ok s2 s1
  obtain ⟨b1, b2, b3, b4⟩ := sm_mul s1 s2
  obtain ⟨c1, c2, c3, c4⟩ := sm_mul s2 s1
  have o2 := a_over (v := shr false p q) (.inr rfl)
  have o1 := a_over h
  have x1 := bin_r (ml := f_Share_add) (a_radd h s1 s2)
  have x2 := bin_r (ml := f_Share_sub) (a_rsub h s1 s2)
  have x3 := bin_r (ml := f_Share_mul) (a_rmul h s1 s2)
  have n1 : p * 1 + i * q = i * q + p * 1 := Int.add_comm _ _
  have n2 : q * 1 = 1 * q := Int.mul_comm _ _
  have n3 : p * i = i * p := Int.mul_comm _ _
  rw [n1, n2] at x1
  rw [n2] at x2
  rw [n3, n2] at x3
  have b3' : 0 < 1 * q := c3
  obtain ⟨g1, e1⟩ := norm (t := i * q + p * 1) b3' (by omega) (by omega)
  obtain ⟨g2, e2⟩ := norm (t := i * q - p * 1) b3' (by omega) (by omega)
  obtain ⟨g3, e3⟩ := norm (t := i * p) b3' (by omega) (by omega)
  have t1 := a_told g1 e1 (by omega) (by omega)
  have t2 := a_told g2 e2 (by omega) (by omega)
  have t3 := a_told g3 e3 (by omega) (by omega)
  have y1 := cmp_r (g := id) (a_eq (p := p) (q := q) h)
  have y2 := cmp_r (g := not) (a_eq (p := p) (q := q) h)
  have k : (decide (p = i) && decide (q = 1)) = decide (i * q - p * 1 = 0) := by
    rw [Bool.eq_iff_iff]
    simp only [Bool.and_eq_true, decide_eq_true_eq]
    constructor
    · rintro ⟨rfl, rfl⟩; omega
    · intro z; exact cop_eq g g' (by omega)
  rw [k] at y1 y2
  have fs : (shr false p q).fz = true := by simp
  have m5 : mulOk p 1 := m2
  generalize hs : shr false p q = s at o2 x1 x2 x3 y1 y2 fs
  generalize hT : i * q + p * 1 = T at *
  generalize hR : i * q - p * 1 = R at *
  generalize hU : 1 * q = U at *
  generalize hM : i * p = M at *
  simp only [f_reckoned, mBody, m_reckoned]
  simp [fs, o1, o2, x1, x2, x3, t1, t2, t3, y1, y2, at0, at1, m1, m3, m4, m5, hT, hR, hU, hM, -Int.mul_one, -Int.one_mul]
end K01
namespace K01
open PySem L2 VL
theorem forL_inv {g : MG} {body : MS} {P : VEnv → Prop} : ∀ {us : List Val}, (∀ u ∈ us, ∀ ρ, P ρ → ∃ ρ1 ρ2, g u ρ = some ρ1 ∧ body ρ1 = .nx ρ2 ∧ P ρ2) → ∀ ρ, P ρ → ∃ ρ', forL g body us ρ = .nx ρ' ∧ P ρ'
  | [], _, ρ, h => ⟨ρ, rfl, h⟩
  | u :: us, hs, ρ, h => by
    obtain ⟨ρ1, ρ2, e1, e2, h2⟩ := hs u List.mem_cons_self ρ h
    obtain ⟨ρ', e3, h3⟩ := forL_inv (us := us) (fun v hv => hs v (List.mem_cons_of_mem _ hv)) ρ2 h2
    exact ⟨ρ', by unfold forL; rw [e1]; simp only [e2, e3], h3⟩
theorem norm_sm {t b : Int} (hb : 0 < b) (h1 : t.natAbs < 2 ^ 100) (h2 : b < 2 ^ 100) : Sm (nP t b) (nQ t b) := by
  obtain ⟨g, _⟩ := norm (t := t) hb (by omega) (by omega)
  have hg : 0 < Nat.gcd t.natAbs b.natAbs := Nat.gcd_pos_of_pos_right _ (by omega)
  have d1 : ((Nat.gcd t.natAbs b.natAbs : Nat) : Int) ∣ t := Int.ofNat_dvd_left.mpr (Nat.gcd_dvd_left _ _)
  have d2 : ((Nat.gcd t.natAbs b.natAbs : Nat) : Int) ∣ b := Int.ofNat_dvd_left.mpr (Nat.gcd_dvd_right _ _)
  have n1 : (nP t b).natAbs = t.natAbs / Nat.gcd t.natAbs b.natAbs := by unfold nP; rw [Int.natAbs_ediv_of_dvd d1, Int.natAbs_natCast]
  have n2 : (nQ t b).natAbs = b.natAbs / Nat.gcd t.natAbs b.natAbs := by unfold nQ; rw [Int.natAbs_ediv_of_dvd d2, Int.natAbs_natCast]
  have l1 := Nat.div_le_self t.natAbs (Nat.gcd t.natAbs b.natAbs)
  have l2 := Nat.div_le_self b.natAbs (Nat.gcd t.natAbs b.natAbs)
  have q0 := g.q0
  exact ⟨by omega, q0, by omega⟩
theorem good_int {i : Int} (h : i.natAbs < 2 ^ 100) : Good i 1 ∧ Sm i 1 := ⟨⟨by decide, by simp, by omega, by decide⟩, ⟨h, by decide, by decide⟩⟩
/-- a number that the law reckons with -/
def Num (v : Val) : Prop := ∃ p q, Nm v p q ∧ Good p q ∧ Sm p q
/-- a share that the law reckons with -/
def Shr (v : Val) : Prop := ∃ p q, v = shr false p q ∧ Good p q ∧ Sm p q
theorem Shr.num {v : Val} (h : Shr v) : Num v := let ⟨p, q, e, g, s⟩ := h; ⟨p, q, .inr e, g, s⟩
theorem both {one two : Val} (h1 : Shr one) (h2 : Num two) : f_reckoned [one, two] = .ok (.bl true) [none, none] ∧ f_reckoned [two, one] = .ok (.bl true) [none, none] := by
  obtain ⟨p, q, rfl, g, s⟩ := h1
  obtain ⟨p', q', n, g', s'⟩ := h2
  refine ⟨a_reckoned_l g g' n s s', ?_⟩
  rcases n with ⟨rfl, rfl⟩ | rfl
  · exact a_reckoned_r g g' s s'
  · exact a_reckoned_l g' g (.inr rfl) s' s
theorem not_num_str : f_is_number [.str "1/1"] = .ok (.bl false) [none] := by
  have e := a_is_integer (.str "1/1") rfl false rfl (.inr rfl)
  simp [f_is_number, mBody, m_is_number, semIsi, tyName, e]
theorem not_num_tup (p q : Int) : f_is_number [.tup [.int p, .int q]] = .ok (.bl false) [none] := by
  have e := a_is_integer (.tup [.int p, .int q]) (by simp) false rfl (.inr rfl)
  simp [f_is_number, mBody, m_is_number, semIsi, tyName, e]
theorem not_num_lst : f_is_number [.lst false []] = .ok (.bl false) [none] := by
  have e := a_is_integer (.lst false []) (by simp) false rfl (.inr rfl)
  simp [f_is_number, mBody, m_is_number, semIsi, tyName, e]
def bC : MS := (mSeq (mIfS (mOr (mNot (mCall f_reckoned [.v ⟨true, true, (mStab (mVar 9))⟩, .v ⟨true, true, (mStab (mVar 10))⟩])) (mNot (mCall f_reckoned [.v ⟨true, true, (mStab (mVar 10))⟩, .v ⟨true, true, (mStab (mVar 9))⟩]))) (mRet (mC (.bl false))) mNext)
    (mSeq (mPar 11 12 (mFz (mCall f_over [.v ⟨true, true, (mStab (mVar 9))⟩])) (mFz (mCall f_over [.v ⟨true, true, (mStab (mVar 10))⟩])))
    (mIfS (mFun semNe [(mMethR 0 "is_more" f_Share_is_more 9 [.v ⟨true, true, (mStab (mVar 10))⟩]), (mFun (semCmp fun i j => decide (j < i)) [(mFun semMul [(mFun semIx [(mVar 11), (mC (.int 0))]), (mFun semIx [(mVar 12), (mC (.int 1))])]), (mFun semMul [(mFun semIx [(mVar 12), (mC (.int 0))]), (mFun semIx [(mVar 11), (mC (.int 1))])])])]) (mRet (mC (.bl false))) mNext)))
def bB : MS := (mSeq (mFor (mItemsL (mFz (mFun semAdd [(mVar 5), (mVar 7)]))) (gV 10) bC)
    (mIfS (mOr (mCall (mfCmp id 0 f_Share_eq) [.v ⟨true, true, (mStab (mVar 9))⟩, .v ⟨true, true, (mC (.str "1/1"))⟩]) (mOr (mCall (mfCmp id 0 f_Share_eq) [.v ⟨true, true, (mStab (mVar 9))⟩, .v ⟨false, true, (mTup [(mPropR 0 f_Share_top 9), (mPropR 0 f_Share_bottom 9)])⟩]) (mCall (mfCmp id 0 f_Share_eq) [.v ⟨true, true, (mStab (mVar 9))⟩, .v ⟨true, true, (mFz (mLst []))⟩]))) (mRet (mC (.bl false))) mNext))
def bA : MS := (mIfS (mNot (mCall f_told_right [.v ⟨true, true, (mFun semIx [(mVar 5), (mVar 8)])⟩, .v ⟨true, true, (mFun semIx [(mFun semIx [(mVar 3), (mVar 8)]), (mC (.int 0))])⟩, .v ⟨true, true, (mFun semIx [(mFun semIx [(mVar 3), (mVar 8)]), (mC (.int 1))])⟩])) (mRet (mC (.bl false))) mNext)
def bT : MS := (mSeq (mSet 2 (mCall f_stream [.v ⟨true, true, (mStab (mVar 0))⟩, .v ⟨true, true, (mStab (mVar 1))⟩]))
    (mSeq (mSet 3 (mFz (mLc (mRng1 (mC (.int 3))) (gV 4) mYes (mFz (mCall f_pair [.r 2])) [4])))
    (mSeq (mSet 5 (mFz (mLc (mItemsL (mVar 3)) (gV 6) mYes (mFz (mCall (mMake 0 f_Share_init) [.v ⟨true, true, (mFun semIx [(mVar 6), (mC (.int 0))])⟩, .v ⟨true, true, (mFun semIx [(mVar 6), (mC (.int 1))])⟩])) [6])))
    (mSeq (mSet 5 (mFz (mFun semAdd [(mVar 5), (mLst [(mFz (mCall (mMake 0 f_Share_init) [.v ⟨true, true, (mFun semMul [(mFun semIx [(mFun semIx [(mVar 3), (mC (.int 0))]), (mC (.int 0))]), (mC (.int 6))])⟩, .v ⟨true, true, (mFun semMul [(mFun semIx [(mFun semIx [(mVar 3), (mC (.int 0))]), (mC (.int 1))]), (mC (.int 6))])⟩])), (mFz (mCall (mMake 0 f_Share_init) [.v ⟨true, true, (mFun semIx [(mFun semIx [(mVar 3), (mC (.int 1))]), (mC (.int 0))])⟩, .k (.int 1) (.int 1)]))])])))
    (mSeq (mSet 7 (mFz (mLst [(mFun semSub [(mCall f_draw [.r 2, .v ⟨true, true, (mC (.int 9))⟩]), (mC (.int 4))]), (mFun semDiv [(mFun semIx [(mFun semIx [(mVar 3), (mC (.int 0))]), (mC (.int 0))]), (mFun semIx [(mFun semIx [(mVar 3), (mC (.int 0))]), (mC (.int 1))])]), (mFun semPow [(mC (.int 10)), (mC (.int 12))])])))
    (mSeq (mFor (mRng1 (mC (.int 3))) (gV 8) bA)
    (mSeq (mFor (mItemsL (mVar 5)) (gV 9) bB)
    (mIfS (mOr (mNot (mCall f_told_right [.v ⟨true, true, (mFun semIx [(mVar 5), (mC (.int 0))])⟩, .v ⟨true, true, (mFun semIx [(mFun semIx [(mVar 3), (mC (.int 0))]), (mC (.int 0))])⟩, .v ⟨true, true, (mFun semIx [(mFun semIx [(mVar 3), (mC (.int 0))]), (mC (.int 1))])⟩])) (mCall (mfCmp not 0 f_Share_eq) [.v ⟨true, true, (mFun semIx [(mVar 5), (mC (.int 0))])⟩, .v ⟨true, true, (mFun semIx [(mVar 5), (mC (.int 3))])⟩])) (mRet (mC (.bl false))) mNext))))))))

theorem m_law_eq : m_law = mSeq (mFor (mRng1 (mFun semMax2 [(mC (.int 1)), (mFun semMin2 [(mC (.int 12)), (mFun semLen [(mVar 0)])])])) (gV 1) bT) (mRet (mC (.bl true))) := rfl
theorem p_more {ρ : VEnv} {i : Nat} {v : Val} {p q p' q' : Int} (hi : ρ[i]? = some (some (shr false p q))) (n : Nm v p' q') (s : Sm p q) (s' : Sm p' q') (j : Nat) (hj : ρ[j]? = some (some v)) (hij : i ≠ j) : mMethR 0 "is_more" f_Share_is_more i [.v ⟨true, true, (mStab (mVar j))⟩] ρ = .ok (.bl (decide (p' * q < p * q'))) ρ := by
  have hl := (List.getElem?_eq_some_iff.mp hi).1
  have hs : ρ.set i (some (shr false p q)) = ρ := by
    apply List.ext_getElem?
    intro k
    by_cases hk : i = k
    · subst hk; rw [List.getElem?_set_self hl, hi]
    · rw [List.getElem?_set_ne hk]
  have e := a_is_more n s s'
  have fz := nm_fz n
  unfold mMethR
  rw [hi]
  have ob : objC 0 "is_more" (shr false p q) = true := (by decide +kernel : ((0 : Nat) == 0 && !((["over", "under"] : List Str).contains ("is_more" : Str))) = true)
  simp [ob, hi, hj, fz, e, List.set_set, hs]
theorem c_step {one two : Val} (h1 : Shr one) (h2 : Num two) (a b c d e f g h i x11 x12 : Option Val) : ∃ y11 y12, bC [a, b, c, d, e, f, g, h, i, some one, some two, x11, x12] = .nx [a, b, c, d, e, f, g, h, i, some one, some two, y11, y12] := by
  obtain ⟨r1, r2⟩ := both h1 h2
  obtain ⟨p, q, rfl, gd, s⟩ := h1
  obtain ⟨p', q', n, g', s'⟩ := h2
  have fz := nm_fz n
  have fs : (shr false p q).fz = true := by simp
  have o1 := a_over (v := shr false p q) (.inr rfl)
  have o2 := a_over n
  obtain ⟨m1, m2, m3, m4⟩ := sm_ok s s'
  have pm : ∀ u v, mMethR 0 "is_more" f_Share_is_more 9 [.v ⟨true, true, (mStab (mVar 10))⟩] [a, b, c, d, e, f, g, h, i, some (shr false p q), some two, u, v] = .ok (.bl (decide (p' * q < p * q'))) [a, b, c, d, e, f, g, h, i, some (shr false p q), some two, u, v] := fun u v => p_more (i := 9) rfl n s s' 10 rfl (by decide)
  refine ⟨some (.lst false [.int p, .int q]), some (.lst false [.int p', .int q']), ?_⟩
  generalize hs : shr false p q = s at r1 r2 fs o1 pm
  simp [bC, r1, r2, fz, fs, o1, o2, pm, at0, at1, m1, m2]
theorem nums_fz {vs : List Val} (h : ∀ v ∈ vs, Num v) : fzs vs = true := by
  rw [fzs_all, List.all_eq_true]
  intro v hv
  obtain ⟨p, q, n, _⟩ := h v hv
  exact nm_fz n
theorem b_step {one : Val} (h1 : Shr one) {ss nn : List Val} (hs : ∀ v ∈ ss, Num v) (hn : ∀ v ∈ nn, Num v) (hl : ss.length + nn.length ≤ 1000) (a b c d e g i x10 x11 x12 : Option Val) :
    ∃ y10 y11 y12, bB [a, b, c, d, e, some (.lst false ss), g, some (.lst false nn), i, some one, x10, x11, x12] = .nx [a, b, c, d, e, some (.lst false ss), g, some (.lst false nn), i, some one, y10, y11, y12] := by
  have fz1 := nums_fz hs
  have fz2 := nums_fz hn
  have fz3 : fzs (ss ++ nn) = true := nums_fz fun v hv => (List.mem_append.mp hv).elim (hs v) (hn v)
  obtain ⟨ρ', el, y10, y11, y12, rfl⟩ := forL_inv (g := gV 10) (body := bC) (us := ss ++ nn) (P := fun ρ => ∃ y10 y11 y12, ρ = [a, b, c, d, e, some (.lst false ss), g, some (.lst false nn), i, some one, y10, y11, y12]) (fun u hu ρ ⟨y10, y11, y12, hρ⟩ => by
    subst hρ
    obtain ⟨z11, z12, ez⟩ := c_step h1 ((List.mem_append.mp hu).elim (hs u) (hn u)) a b c d e (some (.lst false ss)) g (some (.lst false nn)) i y11 y12
    exact ⟨_, _, rfl, ez, _, _, _, rfl⟩) _ ⟨x10, x11, x12, rfl⟩
  obtain ⟨p, q, rfl, gd, s⟩ := h1
  refine ⟨y10, y11, y12, ?_⟩
  have fs : (shr false p q).fz = true := by simp
  have l16 : ss.length + nn.length ≤ 16777216 := by omega
  have q1 := cmp_l (g := id) (v := .str "1/1") (.inr rfl) (a_eq_no (p := p) (q := q) rfl not_num_str)
  have q2 := cmp_l (g := id) (v := .tup [.int p, .int q]) (.inr rfl) (a_eq_no (p := p) (q := q) (by simp) (not_num_tup p q))
  have q3 := cmp_l (g := id) (v := .lst false []) (.inr rfl) (a_eq_no (p := p) (q := q) (by simp) not_num_lst)
  have T : ∀ u v w, mPropR 0 f_Share_top 9 [a, b, c, d, e, some (.lst false ss), g, some (.lst false nn), i, some (shr false p q), u, v, w] = .ok (.int p) [a, b, c, d, e, some (.lst false ss), g, some (.lst false nn), i, some (shr false p q), u, v, w] := fun u v w => p_top rfl
  have Bt : ∀ u v w, mPropR 0 f_Share_bottom 9 [a, b, c, d, e, some (.lst false ss), g, some (.lst false nn), i, some (shr false p q), u, v, w] = .ok (.int q) [a, b, c, d, e, some (.lst false ss), g, some (.lst false nn), i, some (shr false p q), u, v, w] := fun u v w => p_bottom rfl
  generalize hs : shr false p q = s at *
  simp [bB, mFor, mItemsL, fz1, fz2, fz3, l16, frzs_of_fzs fz1, frzs_of_fzs fz2, frzs_of_fzs fz3, el, fs, q1, q2, q3, T, Bt]
end K01
namespace K01
open PySem L2 VL
theorem r3 : List.range 3 = [0, 1, 2] := rfl
theorem mk_fz {t b : Int} (hb : 0 < b) (h2 : b.natAbs < 2 ^ 400) : mMake 0 f_Share_init [.int t, .int b] = .ok (shr true (nP t b) (nQ t b)) [none, none] := mk_norm hb h2
theorem at3_0 (x y z : Val) : atI [x, y, z] 0 = some x := by
  have i0 : ixN 3 0 = some 0 := by decide
  simp [atI, i0]
theorem at3_1 (x y z : Val) : atI [x, y, z] 1 = some y := by
  have i0 : ixN 3 1 = some 1 := by decide
  simp [atI, i0]
theorem at3_2 (x y z : Val) : atI [x, y, z] 2 = some z := by
  have i0 : ixN 3 2 = some 2 := by decide
  simp [atI, i0]
theorem at5_0 (x y z u v : Val) : atI [x, y, z, u, v] 0 = some x := by
  have i0 : ixN 5 0 = some 0 := by decide
  simp [atI, i0]
theorem at5_1 (x y z u v : Val) : atI [x, y, z, u, v] 1 = some y := by
  have i0 : ixN 5 1 = some 1 := by decide
  simp [atI, i0]
theorem at5_2 (x y z u v : Val) : atI [x, y, z, u, v] 2 = some z := by
  have i0 : ixN 5 2 = some 2 := by decide
  simp [atI, i0]
theorem at5_3 (x y z u v : Val) : atI [x, y, z, u, v] 3 = some u := by
  have i0 : ixN 5 3 = some 3 := by decide
  simp [atI, i0]
theorem pr_sm {t b : Int} (h : Pr t b) : t.natAbs < 2 ^ 60 ∧ 0 < b ∧ b < 2 ^ 60 := by
  obtain ⟨h1, h2, h3, h4⟩ := h
  exact ⟨by omega, h3, by omega⟩
theorem same_norm {t b : Int} (h : Pr t b) : nP t b = nP (t * 6) (b * 6) ∧ nQ t b = nQ (t * 6) (b * 6) := by
  obtain ⟨h1, h2, h3⟩ := pr_sm h
  obtain ⟨g, e⟩ := norm (t := t) h2 (by omega) (by omega)
  obtain ⟨g', e'⟩ := norm (t := t * 6) (b := b * 6) (by omega) (by omega) (by omega)
  refine cop_eq g g' ?_
  apply Int.eq_of_mul_eq_mul_right (a := b) (by omega)
  have z1 : nP (t * 6) (b * 6) * b = t * nQ (t * 6) (b * 6) := by
    apply Int.eq_of_mul_eq_mul_right (a := 6) (by decide)
    rw [Int.mul_assoc, e', Int.mul_assoc, Int.mul_assoc, Int.mul_comm 6]
  calc nP t b * nQ (t * 6) (b * 6) * b = nP t b * b * nQ (t * 6) (b * 6) := by rw [Int.mul_assoc, Int.mul_comm (nQ _ _), ← Int.mul_assoc]
    _ = t * nQ t b * nQ (t * 6) (b * 6) := by rw [e]
    _ = t * nQ (t * 6) (b * 6) * nQ t b := by rw [Int.mul_assoc, Int.mul_comm (nQ t b), ← Int.mul_assoc]
    _ = nP (t * 6) (b * 6) * b * nQ t b := by rw [z1]
    _ = nP (t * 6) (b * 6) * nQ t b * b := by rw [Int.mul_assoc (nP (t * 6) (b * 6)) b, Int.mul_comm b (nQ t b), ← Int.mul_assoc (nP (t * 6) (b * 6))]
theorem fa0 {body : MS} {ρ : VEnv} : forL (gV 8) body [] ρ = .nx ρ := rfl
theorem fa1 {body : MS} {u : Val} {us : List Val} {ρ : VEnv} : forL (gV 8) body (u :: us) ρ = match gV 8 u ρ with
    | none => .bad
    | some ρ1 => match body ρ1 with
      | .nx ρ2 => forL (gV 8) body us ρ2
      | .ct ρ2 => forL (gV 8) body us ρ2
      | .bk ρ2 => .nx ρ2
      | .rt v ρ2 => .rt v ρ2
      | .exc e ρ2 => .exc e ρ2
      | .bad => .bad := rfl
theorem gv8 {u : Val} {ρ : VEnv} : gV 8 u ρ = if 8 < ρ.length then some (ρ.set 8 (some u)) else none := rfl
theorem gv4 {u : Val} {ρ : VEnv} : gV 4 u ρ = if 4 < ρ.length then some (ρ.set 4 (some u)) else none := rfl
theorem gv6 {u : Val} {ρ : VEnv} : gV 6 u ρ = if 6 < ρ.length then some (ρ.set 6 (some u)) else none := rfl
/-- the pairs as the law keeps them -/
def pv2 (t b : Int) : Val := .lst false [.int t, .int b]
theorem t_step (ns : List Int) (k : Nat) (hk : k ≤ 63) (x2 x3 x4 x5 x6 x7 x8 x9 x10 x11 x12 : Option Val) :
    ∃ y2 y3 y4 y5 y6 y7 y8 y9 y10 y11 y12, bT [some (.scr ns), some (.int k), x2, x3, x4, x5, x6, x7, x8, x9, x10, x11, x12] = .nx [some (.scr ns), some (.int k), y2, y3, y4, y5, y6, y7, y8, y9, y10, y11, y12] := by
  obtain ⟨sa, sb, h1, h2, h3, e0⟩ := a_stream ns k hk
  have hs0 : Stm (.lst true [.int sa, .int sb]) := ⟨sa, sb, rfl, h1, h2, h3⟩
  generalize hS : Val.lst true [.int sa, .int sb] = s0 at e0 hs0
  obtain ⟨t1, b1, s1, p1, hs1, e1⟩ := a_pair hs0
  obtain ⟨t2, b2, s2, p2, hs2, e2⟩ := a_pair hs1
  obtain ⟨t3, b3, s3, p3, hs3, e3⟩ := a_pair hs2
  obtain ⟨r, s4, r0, r1, hs4, e4⟩ := a_draw hs3 (c := 9) (by decide) (by decide)
  obtain ⟨u1, v1, w1⟩ := pr_sm p1
  obtain ⟨u2, v2, w2⟩ := pr_sm p2
  obtain ⟨u3, v3, w3⟩ := pr_sm p3
  have k1 := mk_norm (t := t1) v1 (by omega)
  have k2 := mk_norm (t := t2) v2 (by omega)
  have k3 := mk_norm (t := t3) v3 (by omega)
  have k4 := mk_norm (t := t1 * 6) (b := b1 * 6) (by omega) (by omega)
  have k5 := mk_norm (t := t2) (b := 1) (by decide) (by decide)
  obtain ⟨g1, z1⟩ := norm (t := t1) v1 (by omega) (by omega)
  obtain ⟨g2, z2⟩ := norm (t := t2) v2 (by omega) (by omega)
  obtain ⟨g3, z3⟩ := norm (t := t3) v3 (by omega) (by omega)
  obtain ⟨g4, z4⟩ := norm (t := t1 * 6) (b := b1 * 6) (by omega) (by omega) (by omega)
  obtain ⟨g5, z5⟩ := norm (t := t2) (b := 1) (by decide) (by omega) (by decide)
  have m1 := norm_sm (t := t1) v1 (by omega) (by omega)
  have m2 := norm_sm (t := t2) v2 (by omega) (by omega)
  have m3 := norm_sm (t := t3) v3 (by omega) (by omega)
  have m4 := norm_sm (t := t1 * 6) (b := b1 * 6) (by omega) (by omega) (by omega)
  have m5 := norm_sm (t := t2) (b := 1) (by decide) (by omega) (by decide)
  have d1 := a_told g1 z1 (by omega) (by omega)
  have d2 := a_told g2 z2 (by omega) (by omega)
  have d3 := a_told g3 z3 (by omega) (by omega)
  have q1 : mulOk t1 6 := mul_r (by decide) (by decide)
  have q2 : mulOk b1 6 := mul_r (by decide) (by decide)
  have q3 : divOk b1 := divOk_of v1 (by omega)
  have q4 : powOk 10 12 := by decide
  have sm := same_norm p1
  have ne := cmp_l (g := not) (.inl ⟨_, _, .inr rfl⟩) (a_eq (p := nP t1 b1) (q := nQ t1 b1) (v := shr false (nP (t1 * 6) (b1 * 6)) (nQ (t1 * 6) (b1 * 6))) (.inr rfl))
  have tr : (decide (nP t1 b1 = nP (t1 * 6) (b1 * 6)) && decide (nQ t1 b1 = nQ (t1 * 6) (b1 * 6))) = true := by simp [sm.1, sm.2]
  rw [tr] at ne
  have iq : (t1 / b1).natAbs < 2 ^ 100 := by
    have : (t1 / b1).natAbs ≤ t1.natAbs := by
      have := Int.natAbs_ediv_le_natAbs t1 b1
      exact this
    omega
  generalize hA : shr false (nP t1 b1) (nQ t1 b1) = A at *
  generalize hB : shr false (nP t2 b2) (nQ t2 b2) = B at *
  generalize hC : shr false (nP t3 b3) (nQ t3 b3) = C at *
  generalize hD : shr false (nP (t1 * 6) (b1 * 6)) (nQ (t1 * 6) (b1 * 6)) = D at *
  generalize hE : shr false (nP t2 1) (nQ t2 1) = F at *
  have sA : Shr A := ⟨_, _, hA.symm, g1, m1⟩
  have sB : Shr B := ⟨_, _, hB.symm, g2, m2⟩
  have sC : Shr C := ⟨_, _, hC.symm, g3, m3⟩
  have sD : Shr D := ⟨_, _, hD.symm, g4, m4⟩
  have sF : Shr F := ⟨_, _, hE.symm, g5, m5⟩
  have fA : A.fz = true := by rw [← hA]; simp
  have fB : B.fz = true := by rw [← hB]; simp
  have fC : C.fz = true := by rw [← hC]; simp
  have fD : D.fz = true := by rw [← hD]; simp
  have fF : F.fz = true := by rw [← hE]; simp
  have allS : ∀ v ∈ [A, B, C, D, F], Shr v := by
    intro v hv
    simp at hv
    rcases hv with rfl | rfl | rfl | rfl | rfl <;> assumption
  have allN : ∀ v ∈ [Val.int (r - 4), .int (t1 / b1), .int 1000000000000], Num v := by
    intro v hv
    simp at hv
    rcases hv with rfl | rfl | rfl
    · obtain ⟨x, y⟩ := good_int (i := r - 4) (by omega); exact ⟨_, _, .inl ⟨rfl, rfl⟩, x, y⟩
    · obtain ⟨x, y⟩ := good_int (i := t1 / b1) iq; exact ⟨_, _, .inl ⟨rfl, rfl⟩, x, y⟩
    · obtain ⟨x, y⟩ := good_int (i := 1000000000000) (by decide); exact ⟨_, _, .inl ⟨rfl, rfl⟩, x, y⟩
  obtain ⟨ρ', el, y9, y10, y11, y12, rfl⟩ := forL_inv (g := gV 9) (body := bB) (us := [A, B, C, D, F]) (P := fun ρ => ∃ y9 y10 y11 y12, ρ = [some (.scr ns), some (.int k), some s4, some (.lst false [.lst false [.int t1, .int b1], .lst false [.int t2, .int b2], .lst false [.int t3, .int b3]]), none, some (.lst false [A, B, C, D, F]), none, some (.lst false [.int (r - 4), .int (t1 / b1), .int 1000000000000]), some (.int 2), y9, y10, y11, y12]) (fun u hu ρ ⟨y9, y10, y11, y12, hρ⟩ => by
    subst hρ
    obtain ⟨z10, z11, z12, ez⟩ := b_step (allS u hu) (ss := [A, B, C, D, F]) (nn := [.int (r - 4), .int (t1 / b1), .int 1000000000000]) (fun v hv => (allS v hv).num) allN (by simp) (some (.scr ns)) (some (.int k)) (some s4) (some (.lst false [.lst false [.int t1, .int b1], .lst false [.int t2, .int b2], .lst false [.int t3, .int b3]])) none none (some (.int 2)) y10 y11 y12
    exact ⟨_, _, rfl, ez, _, _, _, _, rfl⟩) _ ⟨x9, x10, x11, x12, rfl⟩
  refine ⟨some s4, some (.lst false [.lst false [.int t1, .int b1], .lst false [.int t2, .int b2], .lst false [.int t3, .int b3]]), none, some (.lst false [A, B, C, D, F]), none, some (.lst false [.int (r - 4), .int (t1 / b1), .int 1000000000000]), some (.int 2), y9, y10, y11, y12, ?_⟩
  simp [bT, bA, e0, e1, e2, e3, e4, k1, k2, k3, k4, k5, hA, hB, hC, hD, hE, mLc, lcL, mRng1, mItemsL, mYes, wipeV, gv4, gv6, gv8, r3, mFor, fa0, fa1, at0, at1, at3_0, at3_1, at3_2, at5_0, at5_1, at5_2, at5_3, d1, d2, d3, q1, q2, q3, q4, ne, fA, fB, fC, fD, fF, frz_of_fz fA, frz_of_fz fB, frz_of_fz fC, frz_of_fz fD, frz_of_fz fF, el]
end K01
namespace K01
open PySem L2 VL
theorem law_true (ns : List Int) (h : ns.length ≤ 63) : ∃ fs, f_law [.scr ns] = .ok (.bl true) fs := by
  obtain ⟨N, hN⟩ : ∃ N : Int, (if 1 < if (ns.length : Int) < 12 then (ns.length : Int) else 12 then if (ns.length : Int) < 12 then (ns.length : Int) else 12 else 1) = N := ⟨_, rfl⟩
  have hb : 0 ≤ N ∧ N ≤ 12 := by
    subst hN
    split <;> split <;> omega
  obtain ⟨ρ', el, x1, x2, x3, x4, x5, x6, x7, x8, x9, x10, x11, x12, rfl⟩ := forL_inv (g := gV 1) (body := bT) (us := (List.range N.toNat).map fun i : Nat => Val.int (i : Int)) (P := fun ρ => ∃ x1 x2 x3 x4 x5 x6 x7 x8 x9 x10 x11 x12, ρ = [some (.scr ns), x1, x2, x3, x4, x5, x6, x7, x8, x9, x10, x11, x12]) (fun u hu ρ ⟨x1, x2, x3, x4, x5, x6, x7, x8, x9, x10, x11, x12, hρ⟩ => by
    subst hρ
    obtain ⟨k, hk, rfl⟩ := List.mem_map.mp hu
    have hk := List.mem_range.mp hk
    obtain ⟨y2, y3, y4, y5, y6, y7, y8, y9, y10, y11, y12, ez⟩ := t_step ns k (by omega) x2 x3 x4 x5 x6 x7 x8 x9 x10 x11 x12
    exact ⟨_, _, rfl, ez, _, _, _, _, _, _, _, _, _, _, _, _, rfl⟩) [some (.scr ns), none, none, none, none, none, none, none, none, none, none, none, none] ⟨_, _, _, _, _, _, _, _, _, _, _, _, rfl⟩
  have h1 : -4611686018427387904 ≤ N := by omega
  have h2 : N < 4611686018427387904 := by omega
  refine ⟨[none], ?_⟩
  simp [f_law, mBody, m_law_eq, mFor, mRng1, hN, h1, h2, el]
end K01
set_option maxHeartbeats 0
namespace K01
open PySem L2 VL
theorem facts {P : Program} {w : World} {K : PySem.W.Frag} {h : Heap} {mg : Str → Option Value} {f : Addr} (X : K.In h) (G : h.Ns mainGlobals mg) (hfa : mg ("law" : Str) = some (.ref f)) (c : SaysV fa fn K) :
    ∃ fd : FuncData, (∀ (s : Shared) (v : Value), BindsTo s fd ⟨[v], []⟩ [("_law_script", v)]) ∧ ∀ base : Heap, K.In base → base.Ns mainGlobals mg → FnOk P w K mg base (L2.CX P w) 7 f fd ["_law_script"] (spV (gam K w) 1 f_law) := by
  obtain ⟨fd, F⟩ := c.def_ 24 (d := d_law) rfl
  have T := txt_of X G c
  have e : mg ("law" : Str) = some (.ref (He.ga K "law")) := He.glo_ok X G (c.fact 35 (f := fun K => (He.Fa.glo "law").ok K) rfl)
  have e := hfa.symm.trans e
  cases e
  have b := FunD.bindsA (ps := ["_law_script"]) F fun _ _ _ _ _ _ us hl => match us, hl with | [_], _ => rfl
  exact ⟨fd, fun s v => b s [v] rfl, law_end F fun base _ _ => all_ok T c⟩
end K01
open PySem PySem.W PySem.Calls PyProof.Rows VL
theorem PySem.Challenge.cw_gatheredbells_k01_shares_reckoned_holds : PySem.Challenge.rw_gatheredbells_k01_shares_reckoned.Holds := by
  w_on; o_law
  refine HandSHeadRun.head_any (r := OpenLaw.row PySem.Challenge.rw_gatheredbells_k01_shares_reckoned) (q := view (OpenLaw.row PySem.Challenge.rw_gatheredbells_k01_shares_reckoned).prog [19]) (H := K01.hk) (ob := K01.ob) (M := 8000) (loose := K01.loose) (d := HandSHeadRun.topDef (OpenLaw.row PySem.Challenge.rw_gatheredbells_k01_shares_reckoned).prog 19) (kwd := []) K01.ob_eq
    (by kernel_rfl) (fun s => by kernel_rfl) K01.run (by kernel_rfl) (by kernel_rfl) (by kernel_rfl) (by rfl) (by first | assumption | decide +kernel) (by decide +kernel) ⟨rfl, rfl, rfl, rfl, rfl, by decide +kernel⟩ ?hw ?hc
  case hw => w_witness2
  case hc =>
    refine walk_ofV (l := PySem.Challenge.rw_gatheredbells_k01_shares_reckoned) (n := 63) (k := 7) (x := "_law_script") (mf := K01.f_law) (G := K01.gam) (fun _ _ => rfl) rfl (by decide) (by kernel_rfl) ⟨rfl, by decide, by decide⟩ K01.law_true ?F
    intro w mg f h Y G hmg0
    obtain ⟨K, KX, c⟩ := Y
    have hmg : mg ("law" : PySem.Str) = some (.ref f) := by
      have e : (HandSHeadRun.topDef (OpenLaw.row PySem.Challenge.rw_gatheredbells_k01_shares_reckoned).prog 19).name = ("law" : PySem.Str) := by kernel_rfl
      rw [← e]
      exact hmg0
    obtain ⟨fd, hb, hF⟩ := K01.facts (P := (PySem.Challenge.rw_gatheredbells_k01_shares_reckoned).prog) (w := w) KX G hmg c
    exact ⟨K, fd, KX, hb, hF⟩
